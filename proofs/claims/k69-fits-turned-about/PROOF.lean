import PyProof.Rows.All
import Wide.All
import OpenK.AllK
import Wide.FinOn
import HandS.ForMost
import HandS.ForExc
import HandS.Wide
import HandS.Defaults
import HandS.IsInst
import HandS.Flow
import HandS.Conv
import HandS.EndBits
import HandS.Head0
import HandS.Head1
import HandS.Head2
import HandS.HeadEnd
import HandS.HeadHook1
import HandS.HeadHook2
import HandS.SortInts
import HandS.Style
import KE.GoesMore
import HandS.Exc
import HandS.ExcOwn
import HandS.ExcInit
import HandS.ExcField
import HandS.ExcIs
import HandS.ClsMeth
import PySem.Challenge.RW_hintscribe_k69_whole_fits_turned_about
set_option Elab.async false
set_option linter.all false
set_option maxRecDepth 100000
set_option maxHeartbeats 1000000
/-! DL, part 1: values whose tuples (and lists that nobody changes any more) are trees, over the hand layer. -/
namespace DL
open PySem PySem.Spec L2

/-- the built-in classes that programs name -/
inductive Tg where
  | int | bool | str | tup | lst | dct | non
  deriving DecidableEq
def Tg.name : Tg → String
  | .int => "int" | .bool => "bool" | .str => "str" | .tup => "tuple" | .lst => "list" | .dct => "dict" | .non => "NoneType"
/-- a value: tuples, and lists that stay as they are, are trees (scr: a list that is read alone, the script) -/
inductive D where
  | non | bl (b : Bool) | int (i : Int) | str (x : Str) | ty (t : Tg)
  | tup (ds : List D) | lst (ds : List D) | scr (ds : List D)
  | ref (a : Addr)

/-- what may change, at an address -/
inductive GO where
  | lst (ds : List D)
  | dK (kvs : List (Key × D))
  | ins (C : Addr) (fs : List (Str × D))

abbrev GHp := Addr → Option GO
def gupd (G : GHp) (a : Addr) (o : GO) : GHp := fun b => if b = a then some o else G b
theorem gupd_same {G : GHp} {a : Addr} {o : GO} : gupd G a o a = some o := by unfold gupd; rw [if_pos rfl]
theorem gupd_ne {G : GHp} {a b : Addr} {o : GO} (h : b ≠ a) : gupd G a o b = G b := by unfold gupd; rw [if_neg h]
theorem gupd_gupd {G : GHp} {a : Addr} {o u : GO} : gupd (gupd G a o) a u = gupd G a u := by
  funext b; unfold gupd; split <;> rfl
theorem gupd_self {G : GHp} {a : Addr} {o : GO} (h : G a = some o) : gupd G a o = G := by
  funext b; unfold gupd; split
  · next e => rw [e, h]
  · rfl

/-- the part of the abstract heap that stays as it is: neither tracked by G nor hidden -/
def U (H : Hp) (G : GHp) (Z : Addr → Bool) : Hp := fun a => if (G a).isSome || Z a then none else H a
theorem U_some {H : Hp} {G : GHp} {Z : Addr → Bool} {a : Addr} {o : HO} (h : U H G Z a = some o) : G a = none ∧ Z a = false ∧ H a = some o := by
  unfold U at h
  split at h
  · cases h
  · next e =>
    simp only [Bool.or_eq_true, not_or, Bool.not_eq_true] at e
    refine ⟨?_, e.2, h⟩
    cases q : G a with
    | none => rfl
    | some x => rw [q] at e; simp at e
theorem U_of {H : Hp} {G : GHp} {Z : Addr → Bool} {a : Addr} {o : HO} (h1 : G a = none) (h2 : Z a = false) (h3 : H a = some o) : U H G Z a = some o := by
  unfold U
  rw [h1, h2]
  exact h3

mutual
/-- the value v is (the tree) d, in a heap that stays -/
inductive Rep (K : PySem.W.Frag) (W : Hp) : D → V → Prop
  | non : Rep K W .non .non
  | bl (b : Bool) : Rep K W (.bl b) (.bl b)
  | int (i : Int) : Rep K W (.int i) (.int i)
  | str (x : Str) : Rep K W (.str x) (.str x)
  | ty (t : Tg) : Rep K W (.ty t) (.ty t.name)
  | ref (a : Addr) : Rep K W (.ref a) (.ref a)
  | tup {a : Addr} {xs : List V} {ds : List D} : SqT K W a xs → Reps K W ds xs → Rep K W (.tup ds) (.ref a)
  | lst {a : Addr} {xs : List V} {ds : List D} : W a = some (.lst xs) → Reps K W ds xs → Rep K W (.lst ds) (.ref a)
  | scr {a : Addr} {xs : List V} {ds : List D} : SqL K W a xs → Reps K W ds xs → Rep K W (.scr ds) (.ref a)
inductive Reps (K : PySem.W.Frag) (W : Hp) : List D → List V → Prop
  | nil : Reps K W [] []
  | cons {d : D} {v : V} {ds : List D} {vs : List V} : Rep K W d v → Reps K W ds vs → Reps K W (d :: ds) (v :: vs)
end

theorem Rd.mono {W W' : Hp} (k : ∀ a o, W a = some o → W' a = some o) {a : Addr} {u : HO} (h : Rd W a u) : Rd W' a u := by
  rcases h with h | ⟨o, h⟩
  · exact .inl (k _ _ h)
  · exact .inr ⟨o, k _ _ h⟩
theorem SqT.mono {K : PySem.W.Frag} {W W' : Hp} (k : ∀ a o, W a = some o → W' a = some o) {a : Addr} {xs : List V} (h : SqT K W a xs) : SqT K W' a xs := by
  rcases h with h | h
  · exact .inl (Rd.mono k h)
  · exact .inr h
theorem SqL.mono {K : PySem.W.Frag} {W W' : Hp} (k : ∀ a o, W a = some o → W' a = some o) {a : Addr} {xs : List V} (h : SqL K W a xs) : SqL K W' a xs := by
  rcases h with h | h
  · exact .inl (Rd.mono k h)
  · exact .inr h

section
variable {K : PySem.W.Frag} {W W' : Hp}
mutual
theorem Rep.mono (k : ∀ a o, W a = some o → W' a = some o) : ∀ {d : D} {v : V}, Rep K W d v → Rep K W' d v
  | _, _, .non => .non
  | _, _, .bl b => .bl b
  | _, _, .int i => .int i
  | _, _, .str x => .str x
  | _, _, .ty n => .ty n
  | _, _, .ref a => .ref a
  | _, _, .tup h r => .tup (SqT.mono k h) (Reps.mono k r)
  | _, _, .lst h r => .lst (k _ _ h) (Reps.mono k r)
  | _, _, .scr h r => .scr (SqL.mono k h) (Reps.mono k r)
theorem Reps.mono (k : ∀ a o, W a = some o → W' a = some o) : ∀ {ds : List D} {vs : List V}, Reps K W ds vs → Reps K W' ds vs
  | _, _, .nil => .nil
  | _, _, .cons h r => .cons (Rep.mono k h) (Reps.mono k r)
end
theorem Reps.length : ∀ {ds : List D} {vs : List V}, Reps K W ds vs → ds.length = vs.length
  | _, _, .nil => rfl
  | _, _, .cons _ r => by simp [Reps.length r]
theorem Reps.append : ∀ {ds es : List D} {vs us : List V}, Reps K W ds vs → Reps K W es us → Reps K W (ds ++ es) (vs ++ us)
  | _, _, _, _, .nil, q => q
  | _, _, _, _, .cons h r, q => .cons h (Reps.append r q)
theorem Reps.take : ∀ {ds : List D} {vs : List V} (n : Nat), Reps K W ds vs → Reps K W (ds.take n) (vs.take n)
  | _, _, 0, _ => by simp only [List.take_zero]; exact .nil
  | _, _, n + 1, .nil => .nil
  | _, _, n + 1, .cons h r => .cons h (Reps.take n r)
theorem Reps.drop : ∀ {ds : List D} {vs : List V} (n : Nat), Reps K W ds vs → Reps K W (ds.drop n) (vs.drop n)
  | _, _, 0, r => r
  | _, _, n + 1, .nil => .nil
  | _, _, n + 1, .cons h r => Reps.drop n r
theorem Reps.get : ∀ {ds : List D} {vs : List V} {i : Nat} {d : D}, Reps K W ds vs → ds[i]? = some d → ∃ v, vs[i]? = some v ∧ Rep K W d v
  | _, _, 0, d, .cons h r, e => by
    simp at e; subst e; exact ⟨_, rfl, h⟩
  | _, _, i + 1, d, .cons h r, e => by
    obtain ⟨v, h1, h2⟩ := Reps.get (i := i) (d := d) r (by simpa using e)
    exact ⟨v, by simpa using h1, h2⟩
theorem Reps.get' : ∀ {ds : List D} {vs : List V} {i : Nat} {v : V}, Reps K W ds vs → vs[i]? = some v → ∃ d, ds[i]? = some d ∧ Rep K W d v
  | _, _, 0, d, .cons h r, e => by
    simp at e; subst e; exact ⟨_, rfl, h⟩
  | _, _, i + 1, d, .cons h r, e => by
    obtain ⟨v, h1, h2⟩ := Reps.get' (i := i) (v := d) r (by simpa using e)
    exact ⟨v, by simpa using h1, h2⟩
theorem Reps.set {d : D} {v : V} (h : Rep K W d v) : ∀ {ds : List D} {vs : List V} (i : Nat), Reps K W ds vs → Reps K W (ds.set i d) (vs.set i v)
  | _, _, _, .nil => .nil
  | _, _, 0, .cons _ r => .cons h r
  | _, _, i + 1, .cons q r => .cons q (Reps.set h i r)
theorem Reps.reverse : ∀ {ds : List D} {vs : List V}, Reps K W ds vs → Reps K W ds.reverse vs.reverse
  | _, _, .nil => .nil
  | _, _, .cons h r => by
    rw [List.reverse_cons, List.reverse_cons]
    exact Reps.append (Reps.reverse r) (.cons h .nil)
theorem Reps.ints : ∀ {ns : List Int} {vs : List V}, Reps K W (ns.map D.int) vs → vs = ns.map V.int
  | [], _, .nil => rfl
  | _ :: _, _, .cons h r => by
    cases h
    rw [List.map_cons, Reps.ints r]
theorem Reps.of_ints : ∀ (ns : List Int), Reps K W (ns.map D.int) (ns.map V.int)
  | [] => .nil
  | n :: r => .cons (.int n) (Reps.of_ints r)
theorem Reps.strs : ∀ {ns : List Str} {vs : List V}, Reps K W (ns.map D.str) vs → vs = ns.map V.str
  | [], _, .nil => rfl
  | _ :: _, _, .cons h r => by
    cases h
    rw [List.map_cons, Reps.strs r]
theorem Reps.bls : ∀ {ns : List Bool} {vs : List V}, Reps K W (ns.map D.bl) vs → vs = ns.map V.bl
  | [], _, .nil => rfl
  | _ :: _, _, .cons h r => by
    cases h
    rw [List.map_cons, Reps.bls r]
end

/-- slots: what is told holds -/
inductive RepO (K : PySem.W.Frag) (W : Hp) : Option D → Option V → Prop
  | no (o : Option V) : RepO K W none o
  | so {d : D} {v : V} : Rep K W d v → RepO K W (some d) (some v)
abbrev DSt := List (Option D)
def RepSt (K : PySem.W.Frag) (W : Hp) (δ : DSt) (σ : St) : Prop := Paired (RepO K W) δ σ
section
variable {K : PySem.W.Frag} {W W' : Hp}
theorem RepO.mono (k : ∀ a o, W a = some o → W' a = some o) {d : Option D} {v : Option V} (h : RepO K W d v) : RepO K W' d v := by
  cases h with
  | no => exact .no _
  | so h => exact .so (h.mono k)
theorem RepSt.mono (k : ∀ a o, W a = some o → W' a = some o) {δ : DSt} {σ : St} (h : RepSt K W δ σ) : RepSt K W' δ σ :=
  Paired.mapP h fun _ _ q => q.mono k
theorem RepSt.get {δ : DSt} {σ : St} (h : RepSt K W δ σ) : ∀ {i : Nat} {d : D}, δ[i]? = some (some d) → ∃ v, σ[i]? = some (some v) ∧ Rep K W d v := by
  induction h with
  | nil => intro i d e; simp at e
  | cons q t ih =>
    intro i d e
    cases i with
    | zero =>
      simp at e; subst e
      cases q with
      | so q => exact ⟨_, rfl, q⟩
    | succ i =>
      obtain ⟨v, h1, h2⟩ := ih (i := i) (d := d) (by simpa using e)
      exact ⟨v, by simpa using h1, h2⟩
theorem RepSt.set {δ : DSt} {σ : St} (h : RepSt K W δ σ) {d : D} {v : V} (q : Rep K W d v) : ∀ (i : Nat), RepSt K W (δ.set i (some d)) (σ.set i (some v)) := by
  induction h with
  | nil => intro i; exact .nil
  | cons r t ih =>
    intro i
    cases i with
    | zero => exact .cons (.so q) t
    | succ i => exact .cons r (ih i)
theorem RepSt.forget {δ : DSt} {σ : St} (h : RepSt K W δ σ) : ∀ (i : Nat) (o : Option V), RepSt K W (δ.set i none) (σ.set i o) := by
  induction h with
  | nil => intro i o; exact .nil
  | cons r t ih =>
    intro i o
    cases i with
    | zero => exact .cons (.no o) t
    | succ i => exact .cons r (ih i o)
theorem RepSt.length {δ : DSt} {σ : St} (h : RepSt K W δ σ) : δ.length = σ.length := Paired.length h
theorem RepSt.somes : ∀ {ds : List D} {vs : List V}, Reps K W ds vs → RepSt K W (ds.map some) (vs.map some)
  | _, _, .nil => .nil
  | _, _, .cons h r => .cons (.so h) (RepSt.somes r)
theorem RepSt.nones : ∀ (n : Nat), RepSt K W (List.replicate n none) (List.replicate n none)
  | 0 => .nil
  | n + 1 => .cons (.no _) (RepSt.nones n)
theorem RepSt.app {δ δ' : DSt} {σ σ' : St} (h : RepSt K W δ σ) (q : RepSt K W δ' σ') : RepSt K W (δ ++ δ') (σ ++ σ') := by
  induction h with
  | nil => exact q
  | cons r t ih => exact .cons r ih
end

/-- the tracked things are as G tells -/
def GOk (K : PySem.W.Frag) (H W : Hp) (a : Addr) : GO → Prop
  | .lst ds => ∃ xs, H a = some (.lst xs) ∧ Reps K W ds xs
  | .dK kvs => ∃ xs, H a = some (.dK xs) ∧ xs.map (·.1) = kvs.map (·.1) ∧ Reps K W (kvs.map (·.2)) (xs.map (·.2))
  | .ins C fs => ∃ dx xs, H a = some (.ins C dx xs) ∧ xs.map (·.1) = fs.map (·.1) ∧ Reps K W (fs.map (·.2)) (xs.map (·.2))
theorem GOk.mono {K : PySem.W.Frag} {H H' W W' : Hp} {a : Addr} {o : GO} (k : ∀ a o, W a = some o → W' a = some o) (e : H' a = H a) (h : GOk K H W a o) : GOk K H' W' a o := by
  cases o with
  | lst ds => obtain ⟨xs, h1, h2⟩ := h; exact ⟨xs, e.trans h1, h2.mono k⟩
  | dK kvs => obtain ⟨xs, h1, h2, h3⟩ := h; exact ⟨xs, e.trans h1, h2, h3.mono k⟩
  | ins C fs => obtain ⟨dx, xs, h1, h2, h3⟩ := h; exact ⟨dx, xs, e.trans h1, h2, h3.mono k⟩
theorem GOk.there {K : PySem.W.Frag} {H W : Hp} {a : Addr} {o : GO} (h : GOk K H W a o) : H a ≠ none := by
  cases o with
  | lst ds => obtain ⟨xs, h1, h2⟩ := h; rw [h1]; simp
  | dK kvs => obtain ⟨xs, h1, h2⟩ := h; rw [h1]; simp
  | ins C fs => obtain ⟨dx, xs, h1, h2⟩ := h; rw [h1]; simp
structure Ok (K : PySem.W.Frag) (H : Hp) (G : GHp) (Z : Addr → Bool) : Prop where
  ok : ∀ a o, G a = some o → Z a = false ∧ GOk K H (U H G Z) a o
  hid : ∀ a, Z a = true → H a ≠ none
/-- what stays, stays; what is hidden, too -/
structure Kp (H : Hp) (G : GHp) (Z : Addr → Bool) (H' : Hp) (G' : GHp) : Prop where
  keep : ∀ a o, U H G Z a = some o → U H' G' Z a = some o
  hid : ∀ a o, Z a = true → H a = some o → H' a = some o
theorem Kp.refl {H : Hp} {G : GHp} {Z : Addr → Bool} : Kp H G Z H G := ⟨fun _ _ h => h, fun _ _ _ h => h⟩
theorem Kp.trans {H H1 H2 : Hp} {G G1 G2 : GHp} {Z : Addr → Bool} (a : Kp H G Z H1 G1) (b : Kp H1 G1 Z H2 G2) : Kp H G Z H2 G2 :=
  ⟨fun x o h => b.keep x o (a.keep x o h), fun x o z h => b.hid x o z (a.hid x o z h)⟩

section
variable {K : PySem.W.Frag} {H H' : Hp} {G : GHp} {Z : Addr → Bool} {p : Addr} {o : HO}
theorem Ok.free (ok : Ok K H G Z) (h : H p = none) : G p = none ∧ Z p = false := by
  constructor
  · cases e : G p with
    | none => rfl
    | some x => exact absurd h (ok.ok p x e).2.there
  · cases e : Z p with
    | false => rfl
    | true => exact absurd h (ok.hid p e)
/-- a new thing that G doesn't track -/
theorem Kp.laid (h : H p = none) : Kp H G Z (upd H p o) G := by
  refine ⟨fun a u e => ?_, fun a u z e => ?_⟩
  · obtain ⟨h1, h2, h3⟩ := U_some e
    exact U_of h1 h2 (by rw [upd_ne (ne_of_none h3 h)]; exact h3)
  · rw [upd_ne (ne_of_none e h)]; exact e
theorem Ok.laid (ok : Ok K H G Z) (h : H p = none) : Ok K (upd H p o) G Z := by
  refine ⟨fun a u e => ?_, fun a z => ?_⟩
  · obtain ⟨z, g⟩ := ok.ok a u e
    have hne : a ≠ p := fun q => g.there (by rw [q]; exact h)
    exact ⟨z, g.mono (Kp.laid h).keep (upd_ne hne)⟩
  · by_cases hq : a = p
    · subst hq; rw [upd_same]; simp
    · rw [upd_ne hq]; exact ok.hid a z
theorem U_laid (ok : Ok K H G Z) (h : H p = none) : U (upd H p o) G Z p = some o := U_of (ok.free h).1 (ok.free h).2 upd_same
/-- a new thing that G tracks -/
theorem Kp.laidG {go : GO} (h : H p = none) (hg : G p = none) : Kp H G Z (upd H p o) (gupd G p go) := by
  refine ⟨fun a u e => ?_, fun a u z e => ?_⟩
  · obtain ⟨h1, h2, h3⟩ := U_some e
    have hne := ne_of_none h3 h
    exact U_of (by rw [gupd_ne hne]; exact h1) h2 (by rw [upd_ne hne]; exact h3)
  · rw [upd_ne (ne_of_none e h)]; exact e
theorem Ok.laidG {go : GO} (ok : Ok K H G Z) (h : H p = none) (g : GOk K (upd H p o) (U (upd H p o) (gupd G p go) Z) p go) : Ok K (upd H p o) (gupd G p go) Z := by
  refine ⟨fun a u e => ?_, fun a z => ?_⟩
  · by_cases hq : a = p
    · subst hq
      rw [gupd_same] at e; cases e
      exact ⟨(ok.free h).2, g⟩
    · rw [gupd_ne hq] at e
      obtain ⟨z, g'⟩ := ok.ok a u e
      exact ⟨z, g'.mono (Kp.laidG h (ok.free h).1).keep (upd_ne hq)⟩
  · by_cases hq : a = p
    · subst hq; rw [upd_same]; simp
    · rw [upd_ne hq]; exact ok.hid a z
/-- a tracked thing is written -/
theorem Kp.wrote {go go' : GO} (hg : G p = some go) (hz : Z p = false) : Kp H G Z (upd H p o) (gupd G p go') := by
  refine ⟨fun a u e => ?_, fun a u z e => ?_⟩
  · obtain ⟨h1, h2, h3⟩ := U_some e
    have hne : a ≠ p := fun q => by rw [q, hg] at h1; cases h1
    exact U_of (by rw [gupd_ne hne]; exact h1) h2 (by rw [upd_ne hne]; exact h3)
  · have hne : a ≠ p := fun q => by rw [q, hz] at z; cases z
    rw [upd_ne hne]; exact e
theorem Ok.wrote {go go' : GO} (ok : Ok K H G Z) (hg : G p = some go) (g : GOk K (upd H p o) (U (upd H p o) (gupd G p go') Z) p go') : Ok K (upd H p o) (gupd G p go') Z := by
  have hz := (ok.ok p go hg).1
  refine ⟨fun a u e => ?_, fun a z => ?_⟩
  · by_cases hq : a = p
    · subst hq
      rw [gupd_same] at e; cases e
      exact ⟨hz, g⟩
    · rw [gupd_ne hq] at e
      obtain ⟨z, g'⟩ := ok.ok a u e
      exact ⟨z, g'.mono (Kp.wrote hg hz).keep (upd_ne hq)⟩
  · by_cases hq : a = p
    · subst hq; rw [upd_same]; simp
    · rw [upd_ne hq]; exact ok.hid a z
end

/-! ### readings -/
abbrev DK := D → GHp → Prop
abbrev DTE := DSt → GHp → DK → Prop
abbrev DTT := DSt → GHp → (Bool → GHp → Prop) → Prop
abbrev DTA := DSt → GHp → (List D → GHp → Prop) → Prop
/-- where an exception goes: its class, its fields (if its class has an own dict), the slots -/
abbrev DXS := Value → Option (List (Str × D)) → DSt → GHp → Prop
structure DEnds where
  nx : DSt → GHp → Prop
  rt : DK
  bk : DSt → GHp → Prop := fun _ _ => False
  ct : DSt → GHp → Prop := fun _ _ => False
  ex : DXS := fun _ _ _ _ => False
abbrev DTS := DEnds → DSt → GHp → Prop

def cE (K : PySem.W.Frag) (t : DTE) : TE := fun σ H Q => ∃ (δ : DSt) (G : GHp) (Z : Addr → Bool) (Q0 : DK), Ok K H G Z ∧ RepSt K (U H G Z) δ σ ∧ t δ G Q0 ∧
  ∀ d G' v H', Q0 d G' → Kp H G Z H' G' → Ok K H' G' Z → Rep K (U H' G' Z) d v → Q v H'
def cT (K : PySem.W.Frag) (t : DTT) : TT := fun σ H Q => ∃ (δ : DSt) (G : GHp) (Z : Addr → Bool) (Q0 : Bool → GHp → Prop), Ok K H G Z ∧ RepSt K (U H G Z) δ σ ∧ t δ G Q0 ∧
  ∀ b G' H', Q0 b G' → Kp H G Z H' G' → Ok K H' G' Z → Q b H'
def cA (K : PySem.W.Frag) (t : DTA) : TA := fun σ H Q => ∃ (δ : DSt) (G : GHp) (Z : Addr → Bool) (Q0 : List D → GHp → Prop), Ok K H G Z ∧ RepSt K (U H G Z) δ σ ∧ t δ G Q0 ∧
  ∀ ds G' vs H', Q0 ds G' → Kp H G Z H' G' → Ok K H' G' Z → Reps K (U H' G' Z) ds vs → Q vs H'
/-- the ends answer one another, from (H, G) on -/
structure ELk (K : PySem.W.Frag) (W : WX) (Z : Addr → Bool) (D0 : DEnds) (E : Ends) (H : Hp) (G : GHp) : Prop where
  nx : ∀ δ' G' σ' H', D0.nx δ' G' → Kp H G Z H' G' → Ok K H' G' Z → RepSt K (U H' G' Z) δ' σ' → E.nx σ' H'
  bk : ∀ δ' G' σ' H', D0.bk δ' G' → Kp H G Z H' G' → Ok K H' G' Z → RepSt K (U H' G' Z) δ' σ' → E.bk σ' H'
  ct : ∀ δ' G' σ' H', D0.ct δ' G' → Kp H G Z H' G' → Ok K H' G' Z → RepSt K (U H' G' Z) δ' σ' → E.ct σ' H'
  rt : ∀ d G' v H', D0.rt d G' → Kp H G Z H' G' → Ok K H' G' Z → Rep K (U H' G' Z) d v → E.rt v H'
  exb : ∀ c δ' G' σ' H', D0.ex c none δ' G' → Kp H G Z H' G' → Ok K H' G' Z → RepSt K (U H' G' Z) δ' σ' → W c none σ' H'
  exo : ∀ c fs δ' G' σ' H' dx xs, D0.ex c (some fs) δ' G' → Kp H G Z H' G' → Ok K H' G' Z → RepSt K (U H' G' Z) δ' σ' → U H' G' Z dx = some (.xd xs) → xs.map (·.1) = fs.map (·.1) → Reps K (U H' G' Z) (fs.map (·.2)) (xs.map (·.2)) → W c (some dx) σ' H'
theorem ELk.after {K : PySem.W.Frag} {W : WX} {Z : Addr → Bool} {D0 : DEnds} {E : Ends} {H H1 : Hp} {G G1 : GHp} (e : ELk K W Z D0 E H G) (k : Kp H G Z H1 G1) : ELk K W Z D0 E H1 G1 :=
  ⟨fun δ' G' σ' H' h q => e.nx δ' G' σ' H' h (k.trans q), fun δ' G' σ' H' h q => e.bk δ' G' σ' H' h (k.trans q), fun δ' G' σ' H' h q => e.ct δ' G' σ' H' h (k.trans q), fun d G' v H' h q => e.rt d G' v H' h (k.trans q),
    fun c δ' G' σ' H' h q => e.exb c δ' G' σ' H' h (k.trans q), fun c fs δ' G' σ' H' dx xs h q => e.exo c fs δ' G' σ' H' dx xs h (k.trans q)⟩
def cS (K : PySem.W.Frag) (W : WX) (t : DTS) : TS := fun E σ H => ∃ (δ : DSt) (G : GHp) (Z : Addr → Bool) (D0 : DEnds), Ok K H G Z ∧ RepSt K (U H G Z) δ σ ∧ t D0 δ G ∧ ELk K W Z D0 E H G

def DE (X : Cx) (e : Expr) (t : DTE) : Prop := PE X e (cE X.K t)
def DT (X : Cx) (e : Expr) (t : DTT) : Prop := PT X e (cT X.K t)
def DW (X : Cx) (e : Expr) (t : DTT) : Prop := PW X e (cT X.K t)
def DA (X : Cx) (es : List Expr) (t : DTA) : Prop := PA X es (cA X.K t)
def DS (X : Cx) (W : WX) (st : Stmt) (t : DTS) : Prop := PS X st (cS X.K W t)
def DSs (X : Cx) (W : WX) (st : List Stmt) (t : DTS) : Prop := PSs X st (cS X.K W t)
/-- no exception -/
abbrev W0 : WX := fun _ _ _ _ => False

theorem PE.mono {X : Cx} {e : Expr} {t u : TE} (h : PE X e t) (k : ∀ σ H Q, u σ H Q → t σ H Q) : PE X e u :=
  ⟨fun pins s σ H Q I q => h.run pins s σ H Q I (k σ H Q q)⟩
theorem PT.mono {X : Cx} {e : Expr} {t u : TT} (h : PT X e t) (k : ∀ σ H Q, u σ H Q → t σ H Q) : PT X e u :=
  ⟨fun pins s σ H Q I q => h.run pins s σ H Q I (k σ H Q q)⟩
theorem PW.mono {X : Cx} {e : Expr} {t u : TT} (h : PW X e t) (k : ∀ σ H Q, u σ H Q → t σ H Q) : PW X e u :=
  ⟨fun wh pins s σ H Q I q => h.run wh pins s σ H Q I (k σ H Q q)⟩
theorem PA.mono {X : Cx} {e : List Expr} {t u : TA} (h : PA X e t) (k : ∀ σ H Q, u σ H Q → t σ H Q) : PA X e u :=
  ⟨fun pos pins s σ H Q I q => h.run pos pins s σ H Q I (k σ H Q q)⟩
theorem PS.mono {X : Cx} {e : Stmt} {t u : TS} (h : PS X e t) (k : ∀ D σ H, u D σ H → t D σ H) : PS X e u :=
  ⟨fun pins s σ H D I q => h.run pins s σ H D I (k D σ H q)⟩
theorem PSs.mono {X : Cx} {e : List Stmt} {t u : TS} (h : PSs X e t) (k : ∀ D σ H, u D σ H → t D σ H) : PSs X e u :=
  ⟨fun pins s σ H D I q => h.run pins s σ H D I (k D σ H q)⟩

/-- two ways by a Bool -/
def dIte (b : Bool) (P Q : Prop) : Prop := (b = true → P) ∧ (b = false → Q)
theorem dIte_cases {b : Bool} {P Q : Prop} (h : dIte b P Q) : if b = true then P else Q := by
  cases b with
  | true => rw [if_pos rfl]; exact h.1 rfl
  | false => rw [if_neg (by simp)]; exact h.2 rfl
theorem dIte_t {P Q : Prop} (h : dIte true P Q) : P := h.1 rfl
theorem dIte_f {P Q : Prop} (h : dIte false P Q) : Q := h.2 rfl
theorem dIte_true {P Q : Prop} (h : P) : dIte true P Q := ⟨fun _ => h, fun e => nomatch e⟩
theorem dIte_false {P Q : Prop} (h : Q) : dIte false P Q := ⟨fun e => (nomatch e), fun _ => h⟩

/-! ### names and constants -/
def dVar (i : Nat) : DTE := fun δ G Q => match δ[i]? with
  | some (some d) => Q d G
  | _ => False
def dC (d : D) : DTE := fun _ G Q => Q d G
section
variable {X : Cx} {a b c e : Expr} {ta tb tc te : DTE} {pos : Pos}
theorem de_var {i : Nat} {x : Str} (h : PE X (.Name x pos) (tVar i)) : DE X (.Name x pos) (dVar i) :=
  PE.mono h fun σ H Q ⟨δ, G, Z, Q0, ok, rs, h, k⟩ => by
    unfold dVar at h
    split at h
    · next d e =>
      obtain ⟨v, e1, r⟩ := rs.get e
      exact ⟨v, e1, k d G v H h .refl ok r⟩
    · exact h.elim
theorem de_c {v : V} {d : D} (h : PE X e (tC v)) (r : ∀ W, Rep X.K W d v) : DE X e (dC d) :=
  PE.mono h fun σ H Q ⟨δ, G, Z, Q0, ok, rs, h, k⟩ => k d G v H h .refl ok (r _)
theorem de_int {i j pos} : DE X (.Constant (.int i) j pos) (dC (.int i)) := de_c pe_int fun _ => .int i
theorem de_bl {b j pos} : DE X (.Constant (.bool b) j pos) (dC (.bl b)) := de_c pe_bl fun _ => .bl b
theorem de_non {j pos} : DE X (.Constant .none j pos) (dC .non) := de_c pe_non fun _ => .non
theorem de_str {x j pos} : DE X (.Constant (.str x) j pos) (dC (.str x)) := de_c pe_str fun _ => .str x

/-! ### operators -/
abbrev DR2 := D → D → GHp → DK → Prop
def cR2 (K : PySem.W.Frag) (r : DR2) : R2 := fun v u H Q => ∃ (x y : D) (G : GHp) (Z : Addr → Bool) (Q0 : DK), Ok K H G Z ∧ Rep K (U H G Z) x v ∧ Rep K (U H G Z) y u ∧ r x y G Q0 ∧
  ∀ d G' v' H', Q0 d G' → Kp H G Z H' G' → Ok K H' G' Z → Rep K (U H' G' Z) d v' → Q v' H'
def dOp (r : DR2) (ta tb : DTE) : DTE := fun δ G Q => ta δ G fun x G1 => tb δ G1 fun y G2 => r x y G2 Q
theorem op_split {σ : St} {H : Hp} {Q : VK} {r : DR2} {K : PySem.W.Frag} (h : cE K (dOp r ta tb) σ H Q) : tOp (cR2 K r) (cE K ta) (cE K tb) σ H Q := by
  obtain ⟨δ, G, Z, Q0, ok, rs, h, k⟩ := h
  exact ⟨δ, G, Z, _, ok, rs, h, fun x G1 v H1 h1 k1 ok1 r1 => ⟨δ, G1, Z, _, ok1, rs.mono k1.keep, h1, fun y G2 u H2 h2 k2 ok2 r2 =>
    ⟨x, y, G2, Z, Q0, ok2, r1.mono k2.keep, r2, h2, fun d G' v' H' q k3 ok3 r3 => k d G' v' H' q (k1.trans (k2.trans k3)) ok3 r3⟩⟩⟩
def DOp (X : Cx) (f : Value → Value → Sem Value) (r : DR2) : Prop := OpR X f (cR2 X.K r)
theorem de_op {op : Operator} {r : DR2} (ho : DOp X (binaryOp op) r) (ha : DE X a ta) (hb : DE X b tb) : DE X (.BinOp a op b pos) (dOp r ta tb) :=
  PE.mono (pe_op ho ha hb) fun _ _ _ h => op_split h
theorem de_cmp {op : CmpOp} {r : DR2} (ho : DOp X (compareOp op) r) (ha : DE X a ta) (hb : DE X b tb) (hm : behindInMarks op b = false) : DE X (.Compare a [op] [b] pos) (dOp r ta tb) :=
  PE.mono (pe_cmpR ho ha hb hm) fun _ _ _ h => op_split h
abbrev DR1 := D → GHp → DK → Prop
def cR1 (K : PySem.W.Frag) (r : DR1) : V → Hp → VK → Prop := fun v H Q => ∃ (x : D) (G : GHp) (Z : Addr → Bool) (Q0 : DK), Ok K H G Z ∧ Rep K (U H G Z) x v ∧ r x G Q0 ∧
  ∀ d G' v' H', Q0 d G' → Kp H G Z H' G' → Ok K H' G' Z → Rep K (U H' G' Z) d v' → Q v' H'
def dUn (r : DR1) (ta : DTE) : DTE := fun δ G Q => ta δ G fun x G1 => r x G1 Q
theorem un_split {σ : St} {H : Hp} {Q : VK} {r : DR1} {K : PySem.W.Frag} (h : cE K (dUn r ta) σ H Q) : tUn (cR1 K r) (cE K ta) σ H Q := by
  obtain ⟨δ, G, Z, Q0, ok, rs, h, k⟩ := h
  exact ⟨δ, G, Z, _, ok, rs, h, fun x G1 v H1 h1 k1 ok1 r1 => ⟨x, G1, Z, Q0, ok1, r1, h1, fun d G' v' H' q k3 ok3 r3 => k d G' v' H' q (k1.trans k3) ok3 r3⟩⟩
def DUn (X : Cx) (f : Value → Sem Value) (r : DR1) : Prop := UnR X f (cR1 X.K r)
theorem de_un {op : UnaryOp} {r : DR1} (ho : DUn X (unaryOp op) r) (ha : DE X a ta) : DE X (.UnaryOp op a pos) (dUn r ta) :=
  PE.mono (pe_un ho ha) fun _ _ _ h => un_split h
def dChain (r r' : DR2) (ta tb tc : DTE) : DTE := fun δ G Q => ta δ G fun x G1 => tb δ G1 fun y G2 => r x y G2 fun z G3 => match z with
  | .bl k => dIte k (tc δ G3 fun w G4 => r' y w G4 Q) (Q (.bl false) G3)
  | _ => False
theorem chain_split {σ : St} {H : Hp} {Q : VK} {r r' : DR2} {K : PySem.W.Frag} (h : cE K (dChain r r' ta tb tc) σ H Q) : tChain (cR2 K r) (cR2 K r') (cE K ta) (cE K tb) (cE K tc) σ H Q := by
  obtain ⟨δ, G, Z, Q0, ok, rs, h, k⟩ := h
  exact
    ⟨δ, G, Z, _, ok, rs, h, fun x G1 v H1 h1 k1 ok1 r1 => ⟨δ, G1, Z, _, ok1, rs.mono k1.keep, h1, fun y G2 u H2 h2 k2 ok2 r2 =>
      ⟨x, y, G2, Z, _, ok2, r1.mono k2.keep, r2, h2, fun d G3 v' H3 q k3 ok3 r3 => by
        cases d with
        | bl b =>
          cases r3
          refine ⟨b, rfl, ?_⟩
          have q := dIte_cases q
          cases b with
          | true =>
            rw [if_pos rfl] at q ⊢
            exact ⟨δ, G3, Z, _, ok3, rs.mono (k1.trans (k2.trans k3)).keep, q, fun w G4 w' H4 q4 k4 ok4 r4 => ⟨y, w, G4, Z, Q0, ok4, r2.mono (k3.trans k4).keep, r4, q4, fun d G' v' H' q k5 ok5 r5 =>
              k d G' v' H' q (k1.trans (k2.trans (k3.trans (k4.trans k5)))) ok5 r5⟩⟩
          | false =>
            rw [if_neg (by simp)] at q ⊢
            exact k _ _ _ _ q (k1.trans (k2.trans k3)) ok3 (.bl false)
        | _ => exact q.elim⟩⟩⟩
theorem de_chain {op op' : CmpOp} {r r' : DR2} (ho : DOp X (compareOp op) r) (ho' : DOp X (compareOp op') r') (ha : DE X a ta) (hb : DE X b tb) (hc : DE X c tc)
    (hm : lastMarks [op, op'] [b, c] = false := by with_unfolding_all rfl) : DE X (.Compare a [op, op'] [b, c] pos) (dChain r r' ta tb tc) :=
  PE.mono (pe_chain ho ho' ha hb hc hm) fun σ H Q h => chain_split h

/-! ### argument lists, displays -/
def dNil : DTA := fun _ G Q => Q [] G
def dCons (ta : DTE) (tr : DTA) : DTA := fun δ G Q => ta δ G fun x G1 => tr δ G1 fun xs G2 => Q (x :: xs) G2
theorem da_nil : DA X [] dNil := PA.mono pa_nil fun σ H Q ⟨δ, G, Z, Q0, ok, rs, h, k⟩ => k _ _ _ _ h .refl ok .nil
theorem da_cons {es : List Expr} {t : DTA} (ha : DE X e te) (hr : DA X es t) (hs : starEach (e :: es) X.env = (false, eval e X.env) :: starEach es X.env := by rfl) : DA X (e :: es) (dCons te t) :=
  PA.mono (pa_cons ha hr hs) fun σ H Q ⟨δ, G, Z, Q0, ok, rs, h, k⟩ =>
    ⟨δ, G, Z, _, ok, rs, h, fun x G1 v H1 h1 k1 ok1 r1 => ⟨δ, G1, Z, _, ok1, rs.mono k1.keep, h1, fun xs G2 us H2 h2 k2 ok2 r2 => k _ _ _ _ h2 (k1.trans k2) ok2 (.cons (r1.mono k2.keep) r2)⟩⟩
/-- (a, b, ..) -/
def dTup (t : DTA) : DTE := fun δ G Q => t δ G fun ds G1 => ds.length ≤ sizeLine ∧ Q (.tup ds) G1
theorem de_tup {es : List Expr} {t : DTA} {x1} (h : DA X es t) : DE X (.Tuple es x1 pos) (dTup t) :=
  PE.mono (pe_tup h) fun σ H Q ⟨δ, G, Z, Q0, ok, rs, h, k⟩ =>
    ⟨δ, G, Z, _, ok, rs, h, fun ds G1 vs H1 h1 k1 ok1 r1 => ⟨by rw [← r1.length]; exact h1.1, fun p hp =>
      k _ _ _ _ h1.2 (k1.trans (Kp.laid hp)) (ok1.laid hp) (.tup (SqT.of (U_laid ok1 hp)) (r1.mono (Kp.laid hp).keep))⟩⟩
/-- [a, b, ..], not to be changed -/
def dLst (t : DTA) : DTE := fun δ G Q => t δ G fun ds G1 => ds.length ≤ sizeLine ∧ Q (.lst ds) G1
theorem de_lst {es : List Expr} {t : DTA} (h : DA X es t) : DE X (.List es pos) (dLst t) :=
  PE.mono (pe_lst h) fun σ H Q ⟨δ, G, Z, Q0, ok, rs, h, k⟩ =>
    ⟨δ, G, Z, _, ok, rs, h, fun ds G1 vs H1 h1 k1 ok1 r1 => ⟨by rw [← r1.length]; exact h1.1, fun p hp =>
      k _ _ _ _ h1.2 (k1.trans (Kp.laid hp)) (ok1.laid hp) (.lst (U_laid ok1 hp) (r1.mono (Kp.laid hp).keep))⟩⟩
/-- [a, b, ..], to be changed: at an address of its own -/
def dLstM (t : DTA) : DTE := fun δ G Q => t δ G fun ds G1 => ds.length ≤ sizeLine ∧ ∀ p, G1 p = none → Q (.ref p) (gupd G1 p (.lst ds))
theorem de_lstM {es : List Expr} {t : DTA} (h : DA X es t) : DE X (.List es pos) (dLstM t) :=
  PE.mono (pe_lst h) fun σ H Q ⟨δ, G, Z, Q0, ok, rs, h, k⟩ =>
    ⟨δ, G, Z, _, ok, rs, h, fun ds G1 vs H1 h1 k1 ok1 r1 => ⟨by rw [← r1.length]; exact h1.1, fun p hp => by
      have hg := (ok1.free hp).1
      have kk : Kp H1 G1 Z (upd H1 p (.lst vs)) (gupd G1 p (.lst ds)) := Kp.laidG hp hg
      exact k _ _ _ _ (h1.2 p hg) (k1.trans kk) (ok1.laidG hp ⟨vs, upd_same, r1.mono kk.keep⟩) (.ref p)⟩⟩
end
end DL
set_option Elab.async false
set_option linter.all false
set_option maxRecDepth 100000
set_option maxHeartbeats 1000000
/-! DL, part 2: tests, statements, targets, loops, comprehensions, calls. -/
namespace DL
open PySem PySem.Spec L2

/-! ### tests -/
/-- a value's truth -/
def dTru (x : D) (G : GHp) (Q : Bool → GHp → Prop) : Prop := match x with
  | .bl b => Q b G
  | .non => Q false G
  | .int i => Q (i != 0) G
  | .str y => y.length ≤ sizeLine ∧ Q ((y.length : Int) != 0) G
  | .tup ds => Q (!ds.isEmpty) G
  | .lst ds => Q (!ds.isEmpty) G
  | .scr ds => Q (!ds.isEmpty) G
  | .ref a => match G a with
    | some (.lst ds) => Q (!ds.isEmpty) G
    | some (.dK kvs) => Q (!kvs.isEmpty) G
    | _ => False
  | .ty _ => False
theorem Reps.isEmpty {K : PySem.W.Frag} {W : Hp} {ds : List D} {vs : List V} (r : Reps K W ds vs) : vs.isEmpty = ds.isEmpty := by cases r <;> rfl
theorem U_le {H : Hp} {G : GHp} {Z : Addr → Bool} : ∀ a o, U H G Z a = some o → H a = some o := fun a o h => (U_some h).2.2
theorem isEmpty_keys {κ α β : Type} {l : List (κ × α)} {m : List (κ × β)} (h : l.map (·.1) = m.map (·.1)) : l.isEmpty = m.isEmpty := by
  have := congrArg List.length h
  simp only [List.length_map] at this
  cases l <;> cases m <;> simp at this <;> rfl
theorem tru_of {K : PySem.W.Frag} {H : Hp} {G : GHp} {Z : Addr → Bool} {x : D} {v : V} {Q0 : Bool → GHp → Prop} (ok : Ok K H G Z) (r : Rep K (U H G Z) x v) (h : dTru x G Q0) : ∃ k, TruV K v H k ∧ Q0 k G := by
  cases r with
  | non => exact ⟨false, rfl, h⟩
  | bl b => exact ⟨b, rfl, h⟩
  | int i => exact ⟨_, rfl, h⟩
  | str y => exact ⟨_, ⟨h.1, rfl⟩, h.2⟩
  | ty n => exact h.elim
  | tup q rs => exact ⟨_, .inr (.inl ⟨_, SqT.mono U_le q, by rw [rs.isEmpty]⟩), h⟩
  | lst q rs => exact ⟨_, .inl ⟨_, SqL.of (U_le _ _ q), by rw [rs.isEmpty]⟩, h⟩
  | scr q rs => exact ⟨_, .inl ⟨_, SqL.mono U_le q, by rw [rs.isEmpty]⟩, h⟩
  | ref a =>
    unfold dTru at h
    split at h <;> try (first | cases ‹D.ref a = _› | skip)
    all_goals try (exact h.elim)
    split at h
    · next ds e =>
      obtain ⟨_, xs, h1, h2⟩ := ok.ok a _ e
      exact ⟨_, .inl ⟨xs, SqL.of h1, by rw [h2.isEmpty]⟩, h⟩
    · next kvs e =>
      obtain ⟨_, xs, h1, h2, h3⟩ := ok.ok a _ e
      exact ⟨_, .inr (.inr ⟨xs, h1, by rw [isEmpty_keys h2]⟩), h⟩
    · exact h.elim
def dTest (te : DTE) : DTT := fun δ G Q => te δ G fun x G1 => dTru x G1 Q
section
variable {X : Cx} {a b c e : Expr} {ta tb tc te : DTE} {tA tB tC : DTT} {pos : Pos} {rest : List Expr}
/-- an expression as a test, by its truth -/
theorem dt_truth (ha : DE X a ta) (he : ∀ whole, isTrue a X.env whole = (do let v ← whole; standAt a.pos; holding [v] (truthy v)) := by intro _; rfl) : DT X a (dTest ta) :=
  PT.mono (pt_truth ha he) fun σ H Q ⟨δ, G, Z, Q0, ok, rs, h, k⟩ =>
    ⟨δ, G, Z, _, ok, rs, h, fun x G1 v H1 h1 k1 ok1 r1 => by
      obtain ⟨b, tv, q⟩ := tru_of ok1 r1 h1
      exact ⟨b, tv, k _ _ _ q k1 ok1⟩⟩
/-- a comparison as a test -/
def dTestB (te : DTE) : DTT := fun δ G Q => te δ G fun x G1 => match x with
  | .bl k => Q k G1
  | _ => False
theorem test_split {K : PySem.W.Frag} {te : DTE} {t : TE} {σ : St} {H : Hp} {Q : Bool → Hp → Prop} (hs : ∀ Q, cE K te σ H Q → t σ H Q) (h : cT K (dTestB te) σ H Q) : tTest t σ H Q := by
  obtain ⟨δ, G, Z, Q0, ok, rs, h, k⟩ := h
  refine hs _ ⟨δ, G, Z, _, ok, rs, h, fun d G1 v H1 h1 k1 ok1 r1 => ?_⟩
  cases r1 with
  | bl b => exact ⟨b, rfl, k _ _ _ h1 k1 ok1⟩
  | _ => exact False.elim h1
theorem dt_cmp {op : CmpOp} {r : DR2} (ho : DOp X (compareOp op) r) (ha : DE X a ta) (hb : DE X b tb) (hm : behindInMarks op b = false) : DT X (.Compare a [op] [b] pos) (dTestB (dOp r ta tb)) :=
  PT.mono (pt_cmpR ho ha hb hm) fun σ H Q h => test_split (fun _ h => op_split h) h
theorem dt_chain {op op' : CmpOp} {r r' : DR2} (ho : DOp X (compareOp op) r) (ho' : DOp X (compareOp op') r') (ha : DE X a ta) (hb : DE X b tb) (hc : DE X c tc)
    (hm : lastMarks [op, op'] [b, c] = false := by with_unfolding_all rfl) : DT X (.Compare a [op, op'] [b, c] pos) (dTestB (dChain r r' ta tb tc)) :=
  PT.mono (pt_chain ho ho' ha hb hc hm) fun σ H Q h => test_split (fun _ h => chain_split h) h
def dAnd (t u : DTT) : DTT := fun δ G Q => t δ G fun c G1 => dIte c (u δ G1 Q) (Q false G1)
def dOr (t u : DTT) : DTT := fun δ G Q => t δ G fun c G1 => dIte c (Q true G1) (u δ G1 Q)
def dNot (t : DTT) : DTT := fun δ G Q => t δ G fun c G1 => Q (!c) G1
theorem dw_and1 (ha : DT X a tA) : DW X (.BoolOp .And [a] pos) tA := pw_and1 ha
theorem dw_or1 (ha : DT X a tA) : DW X (.BoolOp .Or [a] pos) tA := pw_or1 ha
theorem dw_and (ha : DT X a tA) (hb : DW X (.BoolOp .And (b :: rest) pos) tB) : DW X (.BoolOp .And (a :: b :: rest) pos) (dAnd tA tB) :=
  PW.mono (pw_and ha hb) fun σ H Q ⟨δ, G, Z, Q0, ok, rs, h, k⟩ =>
    ⟨δ, G, Z, _, ok, rs, h, fun c G1 H1 h1 k1 ok1 => by
      cases c with
      | true =>
        have h1 := dIte_t h1
        refine iteT ?_
        exact ⟨δ, G1, Z, Q0, ok1, rs.mono k1.keep, h1, fun b G' H' q k2 ok2 => k _ _ _ q (k1.trans k2) ok2⟩
      | false =>
        have h1 := dIte_f h1
        refine iteF ?_
        exact k _ _ _ h1 k1 ok1⟩
theorem dw_or (ha : DT X a tA) (hb : DW X (.BoolOp .Or (b :: rest) pos) tB) : DW X (.BoolOp .Or (a :: b :: rest) pos) (dOr tA tB) :=
  PW.mono (pw_or ha hb) fun σ H Q ⟨δ, G, Z, Q0, ok, rs, h, k⟩ =>
    ⟨δ, G, Z, _, ok, rs, h, fun c G1 H1 h1 k1 ok1 => by
      cases c with
      | true =>
        have h1 := dIte_t h1
        refine iteT ?_
        exact k _ _ _ h1 k1 ok1
      | false =>
        have h1 := dIte_f h1
        refine iteF ?_
        exact ⟨δ, G1, Z, Q0, ok1, rs.mono k1.keep, h1, fun b G' H' q k2 ok2 => k _ _ _ q (k1.trans k2) ok2⟩⟩
theorem dt_w (h : DW X e tA) : DT X e tA := PW.pt h
theorem dt_not (ha : DT X a tA) : DT X (.UnaryOp .Not a pos) (dNot tA) :=
  PT.mono (pt_not ha) fun σ H Q ⟨δ, G, Z, Q0, ok, rs, h, k⟩ =>
    ⟨δ, G, Z, _, ok, rs, h, fun c G1 H1 h1 k1 ok1 => k _ _ _ h1 k1 ok1⟩
/-! and, or, not as values, by truth -/
def dAndV (ta tb : DTE) : DTE := fun δ G Q => ta δ G fun x G1 => dTru x G1 fun c G2 => dIte c (tb δ G2 Q) (Q x G2)
def dOrV (ta tb : DTE) : DTE := fun δ G Q => ta δ G fun x G1 => dTru x G1 fun c G2 => dIte c (Q x G2) (tb δ G2 Q)
def dNotV (ta : DTE) : DTE := fun δ G Q => ta δ G fun x G1 => dTru x G1 fun c G2 => Q (.bl (!c)) G2
theorem de_one {op} (h : DE X a ta) : DE X (.BoolOp op [a] pos) ta := pe_one h
theorem de_and (ha : DE X a ta) (hb : DE X (.BoolOp .And (b :: rest) pos) tb) : DE X (.BoolOp .And (a :: b :: rest) pos) (dAndV ta tb) :=
  PE.mono (pe_andT ha hb) fun σ H Q ⟨δ, G, Z, Q0, ok, rs, h, k⟩ =>
    ⟨δ, G, Z, _, ok, rs, h, fun x G1 v H1 h1 k1 ok1 r1 => by
      obtain ⟨c, tv, q⟩ := tru_of ok1 r1 h1
      refine ⟨c, tv, ?_⟩
      cases c with
      | true =>
        have q := dIte_t q
        refine iteT ?_
        exact ⟨δ, G1, Z, Q0, ok1, rs.mono k1.keep, q, fun b G' v' H' q k2 ok2 r2 => k _ _ _ _ q (k1.trans k2) ok2 r2⟩
      | false =>
        have q := dIte_f q
        refine iteF ?_
        exact k _ _ _ _ q k1 ok1 r1⟩
theorem de_or (ha : DE X a ta) (hb : DE X (.BoolOp .Or (b :: rest) pos) tb) : DE X (.BoolOp .Or (a :: b :: rest) pos) (dOrV ta tb) :=
  PE.mono (pe_orT ha hb) fun σ H Q ⟨δ, G, Z, Q0, ok, rs, h, k⟩ =>
    ⟨δ, G, Z, _, ok, rs, h, fun x G1 v H1 h1 k1 ok1 r1 => by
      obtain ⟨c, tv, q⟩ := tru_of ok1 r1 h1
      refine ⟨c, tv, ?_⟩
      cases c with
      | true =>
        have q := dIte_t q
        refine iteT ?_
        exact k _ _ _ _ q k1 ok1 r1
      | false =>
        have q := dIte_f q
        refine iteF ?_
        exact ⟨δ, G1, Z, Q0, ok1, rs.mono k1.keep, q, fun b G' v' H' q k2 ok2 r2 => k _ _ _ _ q (k1.trans k2) ok2 r2⟩⟩
theorem de_not (ha : DE X a ta) : DE X (.UnaryOp .Not a pos) (dNotV ta) :=
  PE.mono (pe_notT ha) fun σ H Q ⟨δ, G, Z, Q0, ok, rs, h, k⟩ =>
    ⟨δ, G, Z, _, ok, rs, h, fun x G1 v H1 h1 k1 ok1 r1 => by
      obtain ⟨c, tv, q⟩ := tru_of ok1 r1 h1
      exact ⟨c, tv, k _ _ _ _ q k1 ok1 (.bl _)⟩⟩
/-- a if t else b -/
def dIfE (t : DTT) (ta tb : DTE) : DTE := fun δ G Q => t δ G fun c G1 => dIte c (ta δ G1 Q) (tb δ G1 Q)
theorem de_ifExp (hc : DT X c tC) (ha : DE X a ta) (hb : DE X b tb) : DE X (.IfExp c a b pos) (dIfE tC ta tb) :=
  PE.mono (pe_ifExp hc ha hb) fun σ H Q ⟨δ, G, Z, Q0, ok, rs, h, k⟩ =>
    ⟨δ, G, Z, _, ok, rs, h, fun c G1 H1 h1 k1 ok1 => by
      cases c with
      | true =>
        have h1 := dIte_t h1
        refine iteT ?_
        exact ⟨δ, G1, Z, Q0, ok1, rs.mono k1.keep, h1, fun b G' v' H' q k2 ok2 r2 => k _ _ _ _ q (k1.trans k2) ok2 r2⟩
      | false =>
        have h1 := dIte_f h1
        refine iteF ?_
        exact ⟨δ, G1, Z, Q0, ok1, rs.mono k1.keep, h1, fun b G' v' H' q k2 ok2 r2 => k _ _ _ _ q (k1.trans k2) ok2 r2⟩⟩
end

/-! ### blocks and statements -/
section
variable {X : Cx} {st : Stmt} {rest : List Stmt} {t u : DTS} {e : Expr} {te : DTE} {tc : DTT} {pos : Pos}
def dNext : DTS := fun D δ G => D.nx δ G
def dSeq (t u : DTS) : DTS := fun D δ G => t { D with nx := u D } δ G
theorem dss_nil : DSs X W [] dNext := PSs.mono pss_nil fun E σ H ⟨δ, G, Z, D0, ok, rs, h, l⟩ => l.nx _ _ _ _ h .refl ok rs
theorem dss_cons (h1 : DS X W st t) (h2 : DSs X W rest u) : DSs X W (st :: rest) (dSeq t u) :=
  PSs.mono (pss_cons h1 h2) fun E σ H ⟨δ, G, Z, D0, ok, rs, h, l⟩ =>
    ⟨δ, G, Z, _, ok, rs, h, ⟨fun δ' G' σ' H' q k1 ok1 rs1 => ⟨δ', G', Z, D0, ok1, rs1, q, l.after k1⟩, l.bk, l.ct, l.rt, l.exb, l.exo⟩⟩
theorem dss_one (h1 : DS X W st t) : DSs X W [st] t := pss_one h1
theorem ds_pass : DS X W (.Pass pos) dNext := PS.mono ps_pass fun E σ H ⟨δ, G, Z, D0, ok, rs, h, l⟩ => l.nx _ _ _ _ h .refl ok rs
def dBreak : DTS := fun D δ G => D.bk δ G
def dCont : DTS := fun D δ G => D.ct δ G
theorem ds_break : DS X W (.Break pos) dBreak := PS.mono ps_break fun E σ H ⟨δ, G, Z, D0, ok, rs, h, l⟩ => l.bk _ _ _ _ h .refl ok rs
theorem ds_continue : DS X W (.Continue pos) dCont := PS.mono ps_continue fun E σ H ⟨δ, G, Z, D0, ok, rs, h, l⟩ => l.ct _ _ _ _ h .refl ok rs
def dDrop (te : DTE) : DTS := fun D δ G => te δ G fun _ G1 => D.nx δ G1
theorem ds_expr (he : DE X e te) (hs : swapsWith e none pos.line X.env = pure false := by rfl) : DS X W (.Expr e pos) (dDrop te) :=
  PS.mono (ps_expr he hs) fun E σ H ⟨δ, G, Z, D0, ok, rs, h, l⟩ =>
    ⟨δ, G, Z, _, ok, rs, h, fun d G' v H' q k1 ok1 r1 => l.nx _ _ _ _ q k1 ok1 (rs.mono k1.keep)⟩
def dRet (te : DTE) : DTS := fun D δ G => te δ G D.rt
theorem ds_ret (he : DE X e te) : DS X W (.Return (some e) pos) (dRet te) :=
  PS.mono (ps_ret he) fun E σ H ⟨δ, G, Z, D0, ok, rs, h, l⟩ => ⟨δ, G, Z, _, ok, rs, h, fun d G' v H' q k1 ok1 r1 => l.rt _ _ _ _ q k1 ok1 r1⟩
def dRetN : DTS := fun D _ G => D.rt .non G
theorem ds_retN : DS X W (.Return none pos) dRetN := PS.mono ps_retN fun E σ H ⟨δ, G, Z, D0, ok, rs, h, l⟩ => l.rt _ _ _ _ h .refl ok .non
def dIf (c : DTT) (t u : DTS) : DTS := fun D δ G => c δ G fun b G1 => dIte b (t D δ G1) (u D δ G1)
theorem ds_if {c : Expr} {a b : List Stmt} (hc : DT X c tc) (ha : DSs X W a t) (hb : DSs X W b u) : DS X W (.If c a b pos) (dIf tc t u) :=
  PS.mono (ps_if hc ha hb) fun E σ H ⟨δ, G, Z, D0, ok, rs, h, l⟩ =>
    ⟨δ, G, Z, _, ok, rs, h, fun c G1 H1 h1 k1 ok1 => by
      cases c with
      | true =>
        have h1 := dIte_t h1
        refine iteT ?_
        exact ⟨δ, G1, Z, D0, ok1, rs.mono k1.keep, h1, l.after k1⟩
      | false =>
        have h1 := dIte_f h1
        refine iteF ?_
        exact ⟨δ, G1, Z, D0, ok1, rs.mono k1.keep, h1, l.after k1⟩⟩
def dNever : DTS := fun _ _ _ => False
theorem ds_never : DS X W st dNever := PS.mono ps_never fun E σ H ⟨δ, G, Z, D0, ok, rs, h, l⟩ => h
theorem dss_never {sts : List Stmt} : DSs X W sts dNever := PSs.mono pss_never fun E σ H ⟨δ, G, Z, D0, ok, rs, h, l⟩ => h
/-- what is told may be told otherwise (a list that nobody changes any more becomes a tree; things are forgotten) -/
def View (K : PySem.W.Frag) (δ : DSt) (G : GHp) (δ' : DSt) (G' : GHp) : Prop := ∀ H Z σ, Ok K H G Z → RepSt K (U H G Z) δ σ → Kp H G Z H G' ∧ Ok K H G' Z ∧ RepSt K (U H G' Z) δ' σ
def dGhost (K : PySem.W.Frag) (t : DTS) : DTS := fun D δ G => ∃ δ' G', View K δ G δ' G' ∧ t D δ' G'
theorem ds_ghost (h : DS X W st t) : DS X W st (dGhost X.K t) :=
  PS.mono h fun E σ H ⟨δ, G, Z, D0, ok, rs, ⟨δ', G', vw, h⟩, l⟩ => by
    obtain ⟨k1, ok1, rs1⟩ := vw H Z σ ok rs
    exact ⟨δ', G', Z, D0, ok1, rs1, h, l.after k1⟩
theorem dss_ghost {sts : List Stmt} (h : DSs X W sts t) : DSs X W sts (dGhost X.K t) :=
  PSs.mono h fun E σ H ⟨δ, G, Z, D0, ok, rs, ⟨δ', G', vw, h⟩, l⟩ => by
    obtain ⟨k1, ok1, rs1⟩ := vw H Z σ ok rs
    exact ⟨δ', G', Z, D0, ok1, rs1, h, l.after k1⟩
end

/-! ### targets: names, tuples of targets -/
inductive Tgt where
  | nm (i : Nat)
  | tp (ts : List Tgt)
mutual
def Tgt.tg (K : PySem.W.Frag) : Tgt → TG
  | .nm i => gName i
  | .tp ts => gTup K (Tgt.len ts) (Tgt.tgs K ts)
def Tgt.tgs (K : PySem.W.Frag) : List Tgt → TGs
  | [] => gNil
  | t :: r => gCons (Tgt.tg K t) (Tgt.tgs K r)
def Tgt.len : List Tgt → Nat
  | [] => 0
  | _ :: r => Tgt.len r + 1
end
mutual
def Tgt.set : Tgt → D → DSt → Option DSt
  | .nm i, d, δ => some (δ.set i (some d))
  | .tp ts, .tup ds, δ => Tgt.sets ts ds δ
  | .tp _, _, _ => none
def Tgt.sets : List Tgt → List D → DSt → Option DSt
  | [], [], δ => some δ
  | t :: ts, d :: ds, δ => match Tgt.set t d δ with
    | some δ' => Tgt.sets ts ds δ'
    | none => none
  | _, _, _ => none
end
mutual
def Tgt.slots : Tgt → List Nat
  | .nm i => [i]
  | .tp ts => Tgt.slotsL ts
def Tgt.slotsL : List Tgt → List Nat
  | [] => []
  | t :: r => Tgt.slots t ++ Tgt.slotsL r
end
theorem Tgt.len_eq : ∀ ts : List Tgt, Tgt.len ts = ts.length
  | [] => rfl
  | _ :: r => by rw [Tgt.len, Tgt.len_eq r]; rfl
theorem wipe_set {σ : St} {vs : List Nat} {i : Nat} {o : Option V} (h : i ∈ vs) : wipe (σ.set i o) vs = wipe σ vs := by
  induction vs with
  | nil => simp at h
  | cons v r ih =>
    rw [wipe, wipe]
    by_cases hv : i = v
    · subst hv
      by_cases hr : i ∈ r
      · rw [ih hr]
      · have : ∀ r : List Nat, i ∉ r → wipe (σ.set i o) r = (wipe σ r).set i o := by
          intro r
          induction r with
          | nil => intro _; rfl
          | cons w r ih =>
            intro hn
            simp only [List.mem_cons, not_or] at hn
            rw [wipe, wipe, ih hn.2, List.set_comm _ _ hn.1]
        rw [this r hr, List.set_set]
    · have hr : i ∈ r := by simpa [hv] using h
      rw [ih hr]
section
variable {K : PySem.W.Frag} {W : Hp}
mutual
theorem Tgt.run {H : Hp} (le : ∀ a o, W a = some o → H a = some o) : ∀ (t : Tgt) {d : D} {v : V} {δ δ' : DSt} {σ : St} {Q : St → Hp → Prop}, Rep K W d v → RepSt K W δ σ → t.set d δ = some δ' →
    (∀ σ', RepSt K W δ' σ' → (∀ vs : List Nat, (∀ i ∈ t.slots, i ∈ vs) → wipe σ' vs = wipe σ vs) → Q σ' H) → t.tg K v σ H Q
  | .nm i, d, v, δ, δ', σ, Q, r, rs, e, k => by
    simp only [Tgt.set, Option.some.injEq] at e
    subst e
    exact k _ (rs.set r i) fun vs h => wipe_set (h i (by simp [Tgt.slots]))
  | .tp ts, d, v, δ, δ', σ, Q, r, rs, e, k => by
    cases r with
    | tup q rr =>
      simp only [Tgt.set] at e
      refine ⟨_, _, rfl, SqT.mono le q, ?_, Tgt.runs le ts rr rs e fun σ' rs' hw => k σ' rs' fun vs h => hw vs fun i hi => h i (by simpa [Tgt.slots] using hi)⟩
      rw [← rr.length]
      exact Tgt.sets_len ts e
    | _ => simp [Tgt.set] at e
theorem Tgt.runs {H : Hp} (le : ∀ a o, W a = some o → H a = some o) : ∀ (ts : List Tgt) {ds : List D} {vs : List V} {δ δ' : DSt} {σ : St} {Q : St → Hp → Prop}, Reps K W ds vs → RepSt K W δ σ → Tgt.sets ts ds δ = some δ' →
    (∀ σ', RepSt K W δ' σ' → (∀ vs : List Nat, (∀ i ∈ Tgt.slotsL ts, i ∈ vs) → wipe σ' vs = wipe σ vs) → Q σ' H) → Tgt.tgs K ts vs σ H Q
  | [], ds, vs, δ, δ', σ, Q, r, rs, e, k => by
    cases r with
    | nil =>
      simp only [Tgt.sets, Option.some.injEq] at e
      subst e
      exact ⟨rfl, k σ rs fun _ _ => rfl⟩
    | cons _ _ => simp [Tgt.sets] at e
  | t :: ts, ds, vs, δ, δ', σ, Q, r, rs, e, k => by
    cases r with
    | nil => simp [Tgt.sets] at e
    | cons h r =>
      simp only [Tgt.sets] at e
      split at e
      · next δ1 e1 =>
        refine ⟨_, _, rfl, Tgt.run le t h rs e1 fun σ1 rs1 w1 => Tgt.runs le ts r rs1 e fun σ2 rs2 w2 => k σ2 rs2 fun vs hv => ?_⟩
        rw [w2 vs fun i hi => hv i (by simp [Tgt.slotsL, hi]), w1 vs fun i hi => hv i (by simp [Tgt.slotsL, hi])]
      · cases e
theorem Tgt.sets_len : ∀ (ts : List Tgt) {ds : List D} {δ δ' : DSt}, Tgt.sets ts ds δ = some δ' → ds.length = Tgt.len ts
  | [], ds, δ, δ', e => by
    cases ds with
    | nil => rfl
    | cons _ _ => simp [Tgt.sets] at e
  | t :: ts, ds, δ, δ', e => by
    cases ds with
    | nil => simp [Tgt.sets] at e
    | cons d ds =>
      simp only [Tgt.sets] at e
      split at e
      · rw [List.length_cons, Tgt.sets_len ts e]; rfl
      · cases e
end
end
section
variable {X : Cx} {e tg : Expr} {te : DTE} {pos : Pos}
/-- target = e -/
def dAsg (te : DTE) (g : Tgt) : DTS := fun D δ G => te δ G fun d G1 => match g.set d δ with
  | some δ' => D.nx δ' G1
  | none => False
theorem asg_split {K : PySem.W.Frag} {g : Tgt} {E : Ends} {σ : St} {H : Hp} {W : WX} (h : cS K W (dAsg te g) E σ H) : tAsg (cE K te) (g.tg K) E σ H := by
  obtain ⟨δ, G, Z, D0, ok, rs, h, l⟩ := h
  refine ⟨δ, G, Z, _, ok, rs, h, fun d G1 v H1 h1 k1 ok1 r1 => ?_⟩
  have h1 : (match g.set d δ with | some δ' => D0.nx δ' G1 | none => False) := h1
  split at h1
  · next δ' e =>
    exact g.run U_le r1 (rs.mono k1.keep) e fun σ' rs' _ => l.nx _ _ _ _ h1 k1 ok1 rs'
  · exact h1.elim
theorem ds_asg {g : Tgt} (he : DE X e te) (hg : PG X tg (g.tg X.K)) (hs : swapsWithSole [tg] e pos.line X.env = pure false := by rfl) (hw : swappedStores [tg] e X.env = pure none := by rfl)
    (h1 : (assignEach [tg] X.env).map (·.2) = [assign tg X.env] := by rfl) : DS X W (.Assign [tg] e pos) (dAsg te g) :=
  PS.mono (ps_asg he hg hs hw h1) fun E σ H h => asg_split h
/-- name = e -/
theorem ds_set {i : Nat} {x : Str} {pos' : Pos} (hN : X.N.Nodup) (hi : X.N[i]? = some x) (hx : Loc X.env.scope x) (he : DE X e te) (hs : swapsWith e (some (.Name x pos')) pos.line X.env = pure false := by rfl) (hf : X.fn x = true ∨ X.env.scope.names.lookup x = some .local := by first | exact .inl rfl | exact .inr rfl | assumption) :
    DS X W (.Assign [.Name x pos'] e pos) (dAsg te (.nm i)) :=
  PS.mono (ps_set hN hi hx he hs hf) fun E σ H h => asg_split (g := .nm i) h
/-- a, b = x, y: both sides written, stored from the right -/
def dPar (i j : Nat) (ta : DTA) : DTS := fun D δ G => ta δ G fun ds G1 => match ds with
  | [v, w] => D.nx ((δ.set i (some v)).set j (some w)) G1
  | _ => False
theorem ds_par {i j : Nat} {x y : Str} {a b : Expr} {ta : DTA} {px py pt : Pos} {kt k2 pt2} (hc : X.calm = true) (hN : X.N.Nodup) (hi : X.N[i]? = some x) (hj : X.N[j]? = some y) (hij : i ≠ j)
    (hx : X.env.scope.names.lookup x = some .local) (hy : X.env.scope.names.lookup y = some .local) (ha : DA X [a, b] ta)
    (hw : swappedStores [.Tuple [.Name x px, .Name y py] kt pt] (.Tuple [a, b] k2 pt2) X.env = pure (some [x, y]))
    (hs : swapsWithSole [.Tuple [.Name x px, .Name y py] kt pt] (.Tuple [a, b] k2 pt2) pos.line X.env = pure false := by rfl) :
    DS X W (.Assign [.Tuple [.Name x px, .Name y py] kt pt] (.Tuple [a, b] k2 pt2) pos) (dPar i j ta) :=
  PS.mono (ps_par hc hN hi hj hij hx hy ha hw hs) fun E σ H ⟨δ, G, Z, D0, ok, rs, h, l⟩ =>
    ⟨δ, G, Z, _, ok, rs, h, fun ds G1 vs H1 h1 k1 ok1 r1 => by
      rcases r1 with _ | ⟨ra, r1⟩
      · exact False.elim h1
      rcases r1 with _ | ⟨rb, r1⟩
      · exact False.elim h1
      rcases r1 with _ | ⟨rc, r1⟩
      · exact ⟨_, _, rfl, l.nx _ _ _ _ h1 k1 ok1 (((rs.mono k1.keep).set ra i).set rb j)⟩
      · exact False.elim h1⟩
theorem pg_nm {i : Nat} {x : Str} (h : PG X (.Name x pos) (gName i)) : PG X (.Name x pos) ((Tgt.nm i).tg X.K) := h
theorem pgs_n : PGs X [] (Tgt.tgs X.K []) := pgs_nil
theorem pgs_c {es : List Expr} {t : Tgt} {ts : List Tgt} (h1 : PG X e (t.tg X.K)) (h2 : PGs X es (Tgt.tgs X.K ts))
    (hs : (assignEach (e :: es) X.env).map (·.2) = assign e X.env :: (assignEach es X.env).map (·.2) := by rfl) : PGs X (e :: es) (Tgt.tgs X.K (t :: ts)) := pgs_cons h1 h2 hs
theorem pg_tp {es : List Expr} {k : Nat} {ts : List Tgt} (hc : X.calm = true) (h : PGs X es (Tgt.tgs X.K ts))
    (hn : (assignEach es X.env).length = Tgt.len ts := by rfl) (hst : (assignEach es X.env).findIdx? (·.1) = none := by rfl) : PG X (.Tuple es k pos) ((Tgt.tp ts).tg X.K) := pg_tup hc h hn hst
end

/-! ### while -/
/-- n turns at most -/
def dWhN (c : DTT) (tb : DTS) : Nat → DTS
  | 0 => fun _ _ _ => False
  | n + 1 => fun D δ G => c δ G fun b G1 => dIte b (tb { D with nx := dWhN c tb n D, ct := dWhN c tb n D, bk := D.nx } δ G1) (D.nx δ G1)
def dWhile (c : DTT) (tb : DTS) : DTS := fun D δ G => ∃ n, dWhN c tb n D δ G
section
variable {X : Cx} {pos : Pos}
theorem ds_while {c : Expr} {body : List Stmt} {tc : DTT} {tb : DTS} (hp : PassesOwn (model X.prog X.w) X.A X.env X.xe) (hc : DT X c tc) (hb : DSs X W body tb) : DS X W (.While c body [] pos) (dWhile tc tb) :=
  PS.mono (ps_while hp hc hb) fun E σ H ⟨δ, G, Z, D0, ok, rs, ⟨n, h⟩, l⟩ => by
    refine ⟨fun m σ' H' => ∃ δ' G', Kp H G Z H' G' ∧ Ok X.K H' G' Z ∧ RepSt X.K (U H' G' Z) δ' σ' ∧ dWhN tc tb m D0 δ' G', ⟨n, δ, G, .refl, ok, rs, h⟩, ?_⟩
    rintro m σ1 H1 ⟨δ1, G1, k1, ok1, rs1, h1⟩
    cases m with
    | zero => exact h1.elim
    | succ m =>
      refine ⟨δ1, G1, Z, _, ok1, rs1, h1, fun b G2 H2 q k2 ok2 => ?_⟩
      have k12 := k1.trans k2
      cases b with
      | false =>
        have q := dIte_f q
        refine iteF ?_
        exact l.nx _ _ _ _ q k12 ok2 (rs1.mono k2.keep)
      | true =>
        have q := dIte_t q
        refine iteT ?_
        refine ⟨fun σ' H' => ∃ δ' G', Kp H G Z H' G' ∧ Ok X.K H' G' Z ∧ RepSt X.K (U H' G' Z) δ' σ' ∧ dWhN tc tb m D0 δ' G', fun σ' H' hh => ⟨m, Nat.lt_succ_self m, hh⟩, δ1, G2, Z, _, ok2, rs1.mono k2.keep, q, ?_⟩
        exact ⟨fun δ' G' σ' H' q' k3 ok3 rs3 => ⟨δ', G', k12.trans k3, ok3, rs3, q'⟩, fun δ' G' σ' H' q' k3 ok3 rs3 => l.nx _ _ _ _ q' (k12.trans k3) ok3 rs3,
          fun δ' G' σ' H' q' k3 ok3 rs3 => ⟨δ', G', k12.trans k3, ok3, rs3, q'⟩, fun d G' v H' q' k3 ok3 rs3 => l.rt _ _ _ _ q' (k12.trans k3) ok3 rs3,
          fun c δ' G' σ' H' q' k3 ok3 rs3 => l.exb _ _ _ _ _ q' (k12.trans k3) ok3 rs3, fun c fs δ' G' σ' H' dx xs q' k3 ok3 => l.exo _ _ _ _ _ _ _ _ q' (k12.trans k3) ok3⟩
end

/-! ### what is walked -/
/-- the guard: a tracked list that is walked stays as it is -/
abbrev Gd := Option (Addr × List D)
def Gd.ok (gd : Gd) (G : GHp) : Prop := match gd with
  | none => True
  | some (a, ds) => G a = some (.lst ds)
/-- the walk J yields the items, in every state that came of (H, G) -/
structure ItOk (K : PySem.W.Frag) (J : It) (its : List D) (gd : Gd) (H : Hp) (G : GHp) (Z : Addr → Bool) : Prop where
  go : ∀ i d H' G', its[i]? = some d → Kp H G Z H' G' → Ok K H' G' Z → gd.ok G' → J.go i H' ∧ ∀ x H'', J.yld i H' x H'' → Kp H' G' Z H'' G' ∧ Ok K H'' G' Z ∧ Rep K (U H'' G' Z) d x
  stop : ∀ H' G', Kp H G Z H' G' → Ok K H' G' Z → gd.ok G' → J.stop its.length H'
abbrev DTI := DSt → GHp → (List D → Gd → GHp → Prop) → Prop
def cI (K : PySem.W.Frag) (ti : DTI) : TI := fun σ H R => ∃ (δ : DSt) (G : GHp) (Z : Addr → Bool) (Q0 : List D → Gd → GHp → Prop), Ok K H G Z ∧ RepSt K (U H G Z) δ σ ∧ ti δ G Q0 ∧
  ∀ its gd G' J H', Q0 its gd G' → Kp H G Z H' G' → Ok K H' G' Z → (∀ Z', (∀ a, Z a = true → Z' a = true) → (∀ a, H' a ≠ none → Z' a = Z a) → ItOk K J its gd H' G' Z') → R J H'
def DI (X : Cx) (tg iter : Expr) (ti : DTI) : Prop := PI X tg iter (cI X.K ti)
theorem PI.mono {X : Cx} {tg e : Expr} {t u : TI} (h : PI X tg e t) (k : ∀ σ H R, u σ H R → t σ H R) : PI X tg e u :=
  ⟨fun pins s σ H R I q => h.run pins s σ H R I (k σ H R q)⟩

/-! ### for -/
def dForL (gd : Gd) (g : Tgt) (tb : DTS) : List D → DTS
  | [] => fun D δ G => gd.ok G ∧ D.nx δ G
  | x :: xs => fun D δ G => gd.ok G ∧ match g.set x δ with
    | some δ' => tb { D with nx := dForL gd g tb xs D, ct := dForL gd g tb xs D, bk := D.nx } δ' G
    | none => False
def dFor (ti : DTI) (g : Tgt) (tb : DTS) : DTS := fun D δ G => ti δ G fun its gd G1 => dForL gd g tb its D δ G1
theorem List.drop_cons_of {α : Type} {l : List α} {i : Nat} {x : α} {r : List α} (h : l.drop i = x :: r) : l[i]? = some x ∧ l.drop (i + 1) = r := by
  constructor
  · have := congrArg (fun q => q[0]?) h
    simpa [List.getElem?_drop] using this
  · have := congrArg List.tail h
    simpa [List.tail_drop] using this
section
variable {X : Cx} {pos : Pos} {tg : Expr}
theorem ds_for {iter : Expr} {body : List Stmt} {ti : DTI} {g : Tgt} {tb : DTS} (hp : PassesOwn (model X.prog X.w) X.A X.env X.xe) (hc : X.calm = true) (hi : DI X tg iter ti) (hg : PG X tg (g.tg X.K)) (hb : DSs X W body tb)
    (hs : ∀ x, foldedSetIterable iter X.env x = pure x := by intro _; rfl) : DS X W (.For tg iter body [] pos) (dFor ti g tb) :=
  PS.mono (ps_for hp hc hi hg hb hs) fun E σ H ⟨δ, G, Z, D0, ok, rs, h, l⟩ => by
    refine ⟨δ, G, Z, _, ok, rs, h, fun its gd G1 J H1 q k1 ok1 it => ?_⟩
    have it := it Z (fun _ h => h) (fun _ _ => rfl)
    refine ⟨fun i m σ' H' => ∃ δ' G', m + i = its.length ∧ Kp H1 G1 Z H' G' ∧ Ok X.K H' G' Z ∧ RepSt X.K (U H' G' Z) δ' σ' ∧ dForL gd g tb (its.drop i) D0 δ' G', ⟨its.length, δ, G1, rfl, .refl, ok1, rs.mono k1.keep, q⟩, ?_⟩
    rintro i m σ2 H2 ⟨δ2, G2, hm, k2, ok2, rs2, h2⟩
    cases e : its.drop i with
    | nil =>
      left
      rw [e] at h2
      have hi : its.length ≤ i := by
        have := congrArg List.length e
        simp at this
        omega
      have hil : i = its.length := by omega
      subst hil
      exact ⟨it.stop _ _ k2 ok2 h2.1, l.nx _ _ _ _ h2.2 (k1.trans k2) ok2 rs2⟩
    | cons x r =>
      right
      rw [e] at h2
      obtain ⟨ex, er⟩ := List.drop_cons_of e
      obtain ⟨hgo, hy⟩ := it.go i x _ _ ex k2 ok2 h2.1
      refine ⟨hgo, fun σ' H' => ∃ m', m' < m ∧ ∃ δ' G', m' + (i + 1) = its.length ∧ Kp H1 G1 Z H' G' ∧ Ok X.K H' G' Z ∧ RepSt X.K (U H' G' Z) δ' σ' ∧ dForL gd g tb (its.drop (i + 1)) D0 δ' G', fun _ _ z => z, fun v H3 y => ?_⟩
      obtain ⟨k3, ok3, r3⟩ := hy v H3 y
      have h3 := h2.2
      have hlt : i < its.length := by
        have := congrArg List.length e
        simp at this
        omega
      split at h3
      · next δ' es =>
        refine g.run U_le r3 (rs2.mono k3.keep) es fun σ' rs' _ => ?_
        refine ⟨δ', G2, Z, _, ok3, rs', h3, ?_⟩
        have k23 := k2.trans k3
        exact ⟨fun δ' G' σ' H' q' k4 ok4 rs4 => ⟨m - 1, by omega, δ', G', by omega, k23.trans k4, ok4, rs4, by rw [er]; exact q'⟩,
          fun δ' G' σ' H' q' k4 ok4 rs4 => l.nx _ _ _ _ q' (k1.trans (k23.trans k4)) ok4 rs4,
          fun δ' G' σ' H' q' k4 ok4 rs4 => ⟨m - 1, by omega, δ', G', by omega, k23.trans k4, ok4, rs4, by rw [er]; exact q'⟩,
          fun d G' v H' q' k4 ok4 rs4 => l.rt _ _ _ _ q' (k1.trans (k23.trans k4)) ok4 rs4,
          fun c δ' G' σ' H' q' k4 ok4 rs4 => l.exb _ _ _ _ _ q' (k1.trans (k23.trans k4)) ok4 rs4, fun c fs δ' G' σ' H' dx xs q' k4 ok4 => l.exo _ _ _ _ _ _ _ _ q' (k1.trans (k23.trans k4)) ok4⟩
      · exact h3.elim
end
end DL
set_option Elab.async false
set_option linter.all false
set_option maxRecDepth 100000
set_option maxHeartbeats 1000000
/-! DL, part 3: comprehensions, what is walked, calls, defs. -/
namespace DL
open PySem PySem.Spec L2

/-! ### comprehensions -/
def dWipe (δ : DSt) : List Nat → DSt
  | [] => δ
  | v :: vs => (dWipe δ vs).set v none
theorem RepSt.wipe {K : PySem.W.Frag} {W : Hp} {δ : DSt} {σ : St} (h : RepSt K W δ σ) : ∀ vs : List Nat, RepSt K W (dWipe δ vs) (L2.wipe σ vs)
  | [] => h
  | v :: vs => (RepSt.wipe h vs).forget v none
theorem wipe_in {σ : St} : ∀ {vs : List Nat} {i : Nat}, i ∈ vs → (wipe σ vs).set i none = wipe σ vs
  | [], i, h => by simp at h
  | v :: vs, i, h => by
    rw [wipe]
    by_cases hv : i = v
    · subst hv; rw [List.set_set]
    · have hr : i ∈ vs := by simpa [hv] using h
      rw [List.set_comm _ _ (Ne.symm hv), wipe_in hr]
theorem wipe_sub {σ : St} {ws : List Nat} : ∀ {vs : List Nat}, (∀ i ∈ vs, i ∈ ws) → wipe (wipe σ ws) vs = wipe σ ws
  | [], _ => rfl
  | v :: vs, h => by
    rw [wipe, wipe_sub fun i hi => h i (List.mem_cons_of_mem _ hi), wipe_in (h v List.mem_cons_self)]
/-- the end of a comprehension: the list stays (false), or is to be changed (true) -/
def lcEnd (m : Bool) (acc : List D) (G : GHp) (Q : DK) : Prop := match m with
  | false => Q (.lst acc) G
  | true => ∀ p, G p = none → Q (.ref p) (gupd G p (.lst acc))
def dLcL (m : Bool) (gd : Gd) (g : Tgt) (tt : DTT) (te : DTE) (δw : DSt) : List D → List D → GHp → DK → Prop
  | [], acc, G, Q => gd.ok G ∧ lcEnd m acc G Q
  | x :: xs, acc, G, Q => gd.ok G ∧ match g.set x δw with
    | some δ' => tt δ' G fun b G1 => dIte b (te δ' G1 fun y G2 => acc.length < sizeLine ∧ dLcL m gd g tt te δw xs (acc ++ [y]) G2 Q) (dLcL m gd g tt te δw xs acc G1 Q)
    | none => False
def dLc (m : Bool) (ti : DTI) (g : Tgt) (tt : DTT) (te : DTE) (vs : List Nat) : DTE := fun δ G Q => ti δ G fun its gd G1 => dLcL m gd g tt te (dWipe δ vs) its [] G1 Q
def zAt (Z : Addr → Bool) (p : Addr) : Addr → Bool := fun a => if a = p then true else Z a
theorem zAt_same {Z : Addr → Bool} {p : Addr} : zAt Z p p = true := by unfold zAt; rw [if_pos rfl]
theorem zAt_ne {Z : Addr → Bool} {p a : Addr} (h : a ≠ p) : zAt Z p a = Z a := by unfold zAt; rw [if_neg h]
theorem lc_split {K : PySem.W.Frag} {m : Bool} {ti : DTI} {g : Tgt} {tt : DTT} {te : DTE} {vs : List Nat} {σ : St} {H : Hp} {Q : VK} (hs : ∀ i ∈ g.slots, i ∈ vs) (h : cE K (dLc m ti g tt te vs) σ H Q) :
    tLc (cI K ti) (g.tg K) (cT K tt) (cE K te) vs σ H Q := by
  obtain ⟨δ, G, Z, Q0, ok, rs, h, k⟩ := h
  refine ⟨δ, G, Z, _, ok, rs, h, fun its gd G1 J H1 q k1 ok1 it p hp => ?_⟩
  have it := it (zAt Z p) (fun a z => by by_cases e : a = p <;> simp [zAt, e, z]) (fun a z => zAt_ne (fun e => z (by rw [e]; exact hp)))
  have free := ok1.free hp
  have nz : ∀ a, zAt Z p a = false → a ≠ p ∧ Z a = false := fun a z => by
    by_cases e : a = p
    · subst e; rw [zAt_same] at z; cases z
    · rw [zAt_ne e] at z; exact ⟨e, z⟩
  have rsw : RepSt K (U H1 G1 (zAt Z p)) (dWipe δ vs) (wipe σ vs) := ((rs.mono k1.keep).mono (fun a o e => by
    obtain ⟨e1, e2, e3⟩ := U_some e
    exact U_of e1 (by rw [zAt_ne (ne_of_none e3 hp)]; exact e2) e3)).wipe vs
  refine ⟨fun i n H2 => ∃ acc dacc G2, n + i = its.length ∧ Kp H1 G1 (zAt Z p) H2 G2 ∧ Ok K H2 G2 (zAt Z p) ∧ H2 p = some (.lst acc) ∧ Reps K (U H2 G2 (zAt Z p)) dacc acc ∧ dLcL m gd g tt te (dWipe δ vs) (its.drop i) dacc G2 Q0,
    ⟨its.length, [], [], G1, rfl, ⟨fun a o e => ?_, fun a o z e => ?_⟩, ⟨fun a o e => ?_, fun a z => ?_⟩, upd_same, .nil, q⟩, ?_⟩
  · obtain ⟨e1, e2, e3⟩ := U_some e
    exact U_of e1 e2 (by rw [upd_ne (ne_of_none e3 hp)]; exact e3)
  · rw [upd_ne (ne_of_none e hp)]; exact e
  · obtain ⟨z, gk⟩ := ok1.ok a o e
    have ne : a ≠ p := fun q => by rw [q, free.1] at e; cases e
    refine ⟨by rw [zAt_ne ne]; exact z, gk.mono (fun b u eu => ?_) (upd_ne ne)⟩
    obtain ⟨e1, e2, e3⟩ := U_some eu
    have nb := ne_of_none e3 hp
    exact U_of e1 (by rw [zAt_ne nb]; exact e2) (by rw [upd_ne nb]; exact e3)
  · by_cases e : a = p
    · subst e; rw [upd_same]; simp
    · rw [zAt_ne e] at z; rw [upd_ne e]; exact ok1.hid a z
  rintro i n H2 ⟨acc, dacc, G2, hn, k2, ok2, hacc, racc, h2⟩
  cases e : its.drop i with
  | nil =>
    left
    rw [e] at h2
    have hi : its.length ≤ i := by
      have := congrArg List.length e
      simp at this
      omega
    have hil : i = its.length := by omega
    subst hil
    refine ⟨it.stop _ _ k2 ok2 h2.1, ?_⟩
    have g2p : G2 p = none := by
      cases eg : G2 p with
      | none => rfl
      | some o => have := (ok2.ok p o eg).1; rw [zAt_same] at this; cases this
    have up : ∀ a o, U H2 G2 (zAt Z p) a = some o → U H2 G2 Z a = some o := fun a o e => by
      obtain ⟨e1, e2, e3⟩ := U_some e
      exact U_of e1 (nz a e2).2 e3
    have kk : Kp H1 G1 Z H2 G2 := ⟨fun a o e => by
      obtain ⟨e1, e2, e3⟩ := U_some e
      exact up _ _ (k2.keep a o (U_of e1 (by rw [zAt_ne (ne_of_none e3 hp)]; exact e2) e3)), fun a o z e => k2.hid a o (by rw [zAt_ne (ne_of_none e hp)]; exact z) e⟩
    have okk : Ok K H2 G2 Z := ⟨fun a o e => by
      obtain ⟨z, gk⟩ := ok2.ok a o e
      exact ⟨(nz a z).2, gk.mono up rfl⟩, fun a z => ok2.hid a (by unfold zAt; split <;> simp [z])⟩
    have hup : U H2 G2 Z p = some (.lst acc) := U_of g2p free.2 hacc
    cases m with
    | false => exact k _ _ _ _ h2.2 (k1.trans kk) okk (.lst hup (racc.mono up))
    | true =>
      have h3 := h2.2 p g2p
      have nop : ∀ a o, U H2 G2 (zAt Z p) a = some o → U H2 (gupd G2 p (.lst dacc)) Z a = some o := fun a o e => by
        obtain ⟨e1, e2, e3⟩ := U_some e
        obtain ⟨n1, n2⟩ := nz a e2
        exact U_of (by rw [gupd_ne n1]; exact e1) n2 e3
      have k3 : Kp H1 G1 Z H2 (gupd G2 p (.lst dacc)) := ⟨fun a o e => by
        obtain ⟨e1, e2, e3⟩ := U_some e
        exact nop _ _ (k2.keep a o (U_of e1 (by rw [zAt_ne (ne_of_none e3 hp)]; exact e2) e3)), kk.hid⟩
      refine k _ _ _ _ h3 (k1.trans k3) ⟨fun a o e => ?_, okk.hid⟩ (.ref p)
      by_cases ea : a = p
      · subst ea
        rw [gupd_same] at e; cases e
        exact ⟨free.2, acc, hacc, racc.mono nop⟩
      · rw [gupd_ne ea] at e
        obtain ⟨z, gk⟩ := ok2.ok a o e
        exact ⟨(nz a z).2, gk.mono nop rfl⟩
  | cons x r =>
    right
    rw [e] at h2
    obtain ⟨ex, er⟩ := List.drop_cons_of e
    obtain ⟨hgo, hy⟩ := it.go i x _ _ ex k2 ok2 h2.1
    have hlt : i < its.length := by
      have := congrArg List.length e
      simp at this
      omega
    refine ⟨hgo, fun H' => ∃ n', n' < n ∧ ∃ acc dacc G2, n' + (i + 1) = its.length ∧ Kp H1 G1 (zAt Z p) H' G2 ∧ Ok K H' G2 (zAt Z p) ∧ H' p = some (.lst acc) ∧ Reps K (U H' G2 (zAt Z p)) dacc acc ∧ dLcL m gd g tt te (dWipe δ vs) (its.drop (i + 1)) dacc G2 Q0, fun _ z => z, fun v H3 y => ?_⟩
    obtain ⟨k3, ok3, r3⟩ := hy v H3 y
    have h3 := h2.2
    split at h3
    · next δ' es =>
      have k13 := k2.trans k3
      refine g.run U_le r3 (rsw.mono k13.keep) es fun σ' rs' hw => ⟨(hw vs hs).trans (wipe_sub fun _ z => z), ?_⟩
      refine ⟨δ', G2, zAt Z p, _, ok3, rs', h3, fun b G4 H4 q4 k4 ok4 => ?_⟩
      have k14 := k13.trans k4
      have hacc4 : H4 p = some (.lst acc) := k4.hid _ _ zAt_same (k3.hid _ _ zAt_same hacc)
      have racc4 := racc.mono (k3.trans k4).keep
      cases b with
      | false =>
        have q4 := dIte_f q4
        refine iteF ⟨n - 1, by omega, acc, dacc, G4, by omega, k14, ok4, hacc4, racc4, by rw [er]; exact q4⟩
      | true =>
        have q4 := dIte_t q4
        refine iteT ⟨δ', G4, zAt Z p, _, ok4, rs'.mono k4.keep, q4, fun yd G5 yv H5 q5 k5 ok5 r5 => ?_⟩
        have hacc5 : H5 p = some (.lst acc) := k5.hid _ _ zAt_same hacc4
        have racc5 := racc4.mono k5.keep
        have up : ∀ a o, U H5 G5 (zAt Z p) a = some o → U (upd H5 p (.lst (acc ++ [yv]))) G5 (zAt Z p) a = some o := fun a o e => by
          obtain ⟨e1, e2, e3⟩ := U_some e
          exact U_of e1 e2 (by rw [upd_ne (nz a e2).1]; exact e3)
        have k15 := k14.trans k5
        refine ⟨acc, hacc5, by rw [← racc.length]; exact q5.1, n - 1, by omega, acc ++ [yv], dacc ++ [yd], G5, by omega, ⟨fun a o e => up _ _ (k15.keep a o e), fun a o z e => ?_⟩, ⟨fun a o e => ?_, fun a z => ?_⟩, upd_same, (racc5.mono up).append (.cons (r5.mono up) .nil), by rw [er]; exact q5.2⟩
        · rw [upd_ne (ne_of_none e hp)]; exact k15.hid a o z e
        · obtain ⟨z, gk⟩ := ok5.ok a o e
          exact ⟨z, gk.mono up (upd_ne (nz a z).1)⟩
        · by_cases e : a = p
          · subst e; rw [upd_same]; simp
          · rw [upd_ne e]; exact ok5.hid a z
    · exact h3.elim
section
variable {X : Cx}
/-- a clause's tests -/
abbrev DTs (X : Cx) (ifs : List Expr) (t : DTT) : Prop := PTs X ifs (cT X.K t)
def dYes : DTT := fun _ G Q => Q true G
theorem PTs.mono {X : Cx} {e : List Expr} {t u : TT} (h : PTs X e t) (k : ∀ σ H Q, u σ H Q → t σ H Q) : PTs X e u :=
  ⟨fun pins s σ H Q I q => h.run pins s σ H Q I (k σ H Q q)⟩
theorem dts_nil : DTs X [] dYes := PTs.mono pts_nil fun σ H Q ⟨δ, G, Z, Q0, ok, rs, h, k⟩ => k _ _ _ h .refl ok
theorem dts_one {c : Expr} {t : DTT} (h : DT X c t) : DTs X [c] t := pts_one h
theorem de_lc (m : Bool) {elt tg iter : Expr} {ifs : List Expr} {scope : Scope} {own : List (Str × Nat)} {pos : Pos} {ti : DTI} {g : Tgt} {tt : DTT} {te : DTE} (hc : X.calm = true) (hN : X.N.Nodup) (hi : DI X tg iter ti) (ok : BlkOk X.N X.env.scope scope own)
    (hg : ∀ (s : Shared) (H : Hp) (C : Addr) (cl : List (Str × Addr)) (fp : List Addr), PG (X.blk s H scope (compEnvC scope cl C X.env) fp) tg (g.tg X.K)) (ht : ∀ (s : Shared) (H : Hp) (C : Addr) (cl : List (Str × Addr)) (fp : List Addr), DTs (X.blk s H scope (compEnvC scope cl C X.env) fp) ifs tt)
    (he : ∀ (s : Shared) (H : Hp) (C : Addr) (cl : List (Str × Addr)) (fp : List Addr), DE (X.blk s H scope (compEnvC scope cl C X.env) fp) elt te) (hsl : ∀ i ∈ g.slots, i ∈ own.map (·.2)) (hs : ∀ x, foldedSetIterable iter X.env x = pure x := by intro _; rfl) :
    DE X (.ListComp elt [⟨tg, iter, ifs, 0⟩] scope pos) (dLc m ti g tt te (own.map (·.2))) :=
  PE.mono (pe_lc (tt := cT X.K tt) (te := cE X.K te) hc hN hi ok hg ht he hs) fun σ H Q h => lc_split hsl h
theorem ds_setLc (m : Bool) {i : Nat} {y : Str} {py : Pos} {elt tg iter : Expr} {ifs : List Expr} {scope : Scope} {own : List (Str × Nat)} {pos spos : Pos} {ti : DTI} {g : Tgt} {tt : DTT} {te : DTE} (hc : X.calm = true) (hN : X.N.Nodup) (hy : X.N[i]? = some y) (hyl : X.env.scope.names.lookup y = some .local)
    (hsw : swapsWith (.ListComp elt [⟨tg, iter, ifs, 0⟩] scope pos) (some (.Name y py)) spos.line X.env = pure true) (hi : DI X tg iter ti) (ok : BlkOk X.N X.env.scope scope own)
    (hg : ∀ (s : Shared) (H : Hp) (C : Addr) (cl : List (Str × Addr)) (fp : List Addr), PG (X.blk s H scope (compEnvC scope cl C X.env) fp) tg (g.tg X.K)) (ht : ∀ (s : Shared) (H : Hp) (C : Addr) (cl : List (Str × Addr)) (fp : List Addr), DTs (X.blk s H scope (compEnvC scope cl C X.env) fp) ifs tt)
    (he : ∀ (s : Shared) (H : Hp) (C : Addr) (cl : List (Str × Addr)) (fp : List Addr), DE (X.blk s H scope (compEnvC scope cl C X.env) fp) elt te) (hsl : ∀ i ∈ g.slots, i ∈ own.map (·.2)) (hs : ∀ x, foldedSetIterable iter X.env x = pure x := by intro _; rfl) :
    DS X W (.Assign [.Name y py] (.ListComp elt [⟨tg, iter, ifs, 0⟩] scope pos) spos) (dAsg (dLc m ti g tt te (own.map (·.2))) (.nm i)) :=
  PS.mono (ps_setLc (tt := cT X.K tt) (te := cE X.K te) hc hN hy hyl hsw hi ok hg ht he hs) fun E σ H ⟨δ, G, Z, D0, ok, rs, h, l⟩ =>
    lc_split hsl ⟨δ, G, Z, _, ok, rs, h, fun d G1 v H1 h1 k1 ok1 r1 => l.nx _ _ _ _ h1 k1 ok1 ((rs.mono k1.keep).set r1 i)⟩
end

/-! ### what is walked -/
/-- a list, as it stands -/
def lsOf (G : GHp) : D → Option (List D)
  | .lst ds => some ds
  | .ref a => match G a with
    | some (.lst ds) => some ds
    | _ => none
  | _ => none
theorem lsOf_of {K : PySem.W.Frag} {H : Hp} {G : GHp} {Z : Addr → Bool} {x : D} {v : V} {ds : List D} (ok : Ok K H G Z) (r : Rep K (U H G Z) x v) (h : lsOf G x = some ds) : ∃ a xs, v = .ref a ∧ H a = some (.lst xs) ∧ Reps K (U H G Z) ds xs := by
  cases r with
  | lst q rs =>
    simp only [lsOf, Option.some.injEq] at h
    subst h
    exact ⟨_, _, rfl, U_le _ _ q, rs⟩
  | ref a =>
    unfold lsOf at h
    simp only at h
    split at h
    · next ds' e =>
      cases h
      obtain ⟨_, xs, h1, h2⟩ := ok.ok a _ e
      exact ⟨a, xs, rfl, h1, h2⟩
    · cases h
  | _ => simp [lsOf] at h
section
variable {K : PySem.W.Frag} {H : Hp} {G : GHp} {Z Z' : Addr → Bool}
theorem U_ext (h1 : ∀ a, H a ≠ none → Z' a = Z a) : ∀ a o, U H G Z a = some o → U H G Z' a = some o := fun a o e => by
  obtain ⟨e1, e2, e3⟩ := U_some e
  exact U_of e1 (by rw [h1 a (by rw [e3]; simp)]; exact e2) e3
theorem it_list {a : Addr} {xs : List V} {ds : List D} (h : U H G Z a = some (.lst xs)) (r : Reps K (U H G Z) ds xs) : ItOk K (Itl K a) ds none H G Z := by
  refine ⟨fun i d H' G' e k ok _ => ?_, fun H' G' k ok _ => ?_⟩
  · have h' := U_le _ _ (k.keep _ _ h)
    obtain ⟨v, e1, rv⟩ := r.get e
    refine ⟨⟨xs, v, SqL.of h', e1⟩, fun x H'' hy => ?_⟩
    obtain ⟨rfl, hx⟩ := hy
    have := hx xs (SqL.of h')
    rw [e1] at this; cases this
    exact ⟨.refl, ok, rv.mono k.keep⟩
  · exact ⟨xs, SqL.of (U_le _ _ (k.keep _ _ h)), Nat.le_of_eq r.length.symm⟩
theorem it_listG {a : Addr} {ds : List D} : ItOk K (Itl K a) ds (some (a, ds)) H G Z := by
  refine ⟨fun i d H' G' e k ok gd => ?_, fun H' G' k ok gd => ?_⟩
  · obtain ⟨_, xs, h1, h2⟩ := ok.ok a _ gd
    obtain ⟨v, e1, rv⟩ := h2.get e
    refine ⟨⟨xs, v, SqL.of h1, e1⟩, fun x H'' hy => ?_⟩
    obtain ⟨rfl, hx⟩ := hy
    have := hx xs (SqL.of h1)
    rw [e1] at this; cases this
    exact ⟨.refl, ok, rv⟩
  · obtain ⟨_, xs, h1, h2⟩ := ok.ok a _ gd
    exact ⟨xs, SqL.of h1, Nat.le_of_eq h2.length.symm⟩
theorem it_tup {a : Addr} {xs : List V} {ds : List D} (h : SqT K (U H G Z) a xs) (r : Reps K (U H G Z) ds xs) : ItOk K (Itt K a) ds none H G Z := by
  refine ⟨fun i d H' G' e k ok _ => ?_, fun H' G' k ok _ => ?_⟩
  · have h' : SqT K H' a xs := SqT.mono (fun a o e => U_le _ _ (k.keep a o e)) h
    obtain ⟨v, e1, rv⟩ := r.get e
    refine ⟨⟨xs, v, h', e1⟩, fun x H'' hy => ?_⟩
    obtain ⟨rfl, hx⟩ := hy
    have := hx xs h'
    rw [e1] at this; cases this
    exact ⟨.refl, ok, rv.mono k.keep⟩
  · exact ⟨xs, SqT.mono (fun a o e => U_le _ _ (k.keep a o e)) h, Nat.le_of_eq r.length.symm⟩
def rngD (lo : Int) (n : Nat) : List D := (List.range n).map fun (i : Nat) => D.int (lo + i)
theorem it_range {lo : Int} {n : Nat} : ItOk K (Itr lo n) (rngD lo n) none H G Z := by
  refine ⟨fun i d H' G' e k ok _ => ?_, fun H' G' k ok _ => ?_⟩
  · have hi : i < n := by
      have := (List.getElem?_eq_some_iff.mp e).1
      simpa [rngD] using this
    have hd : d = .int (lo + i) := by
      simp [rngD, hi] at e
      exact e.symm
    subst hd
    refine ⟨hi, fun x H'' hy => ?_⟩
    obtain ⟨rfl, rfl⟩ := hy
    exact ⟨.refl, ok, .int _⟩
  · show n ≤ (rngD lo n).length
    simp [rngD]
/-- the signs of a text -/
def strD (x : Str) : List D := x.cps.toList.map fun c => D.str ⟨#[c]⟩
theorem it_str {z : Str} : ItOk K (Its z) (strD z) none H G Z := by
  refine ⟨fun i d H' G' e k ok _ => ?_, fun H' G' k ok _ => ?_⟩
  · have hi : i < z.cps.size := by
      have := (List.getElem?_eq_some_iff.mp e).1
      simpa [strD] using this
    refine ⟨hi, fun x H'' hy => ?_⟩
    obtain ⟨rfl, c, hc, rfl⟩ := hy
    have : d = .str ⟨#[c]⟩ := by
      simp [strD, hc] at e
      exact e.symm
    subst this
    exact ⟨.refl, ok, .str _⟩
  · show z.cps.size ≤ (strD z).length
    simp [strD]
end
section
variable {X : Cx} {tg e : Expr} {te : DTE} {ta : DTA} {p pos : Pos}
/-- a list, a tuple or a text -/
def dSeqI (te : DTE) : DTI := fun δ G R => te δ G fun x G1 => match x with
  | .lst ds => R ds none G1
  | .tup ds => R ds none G1
  | .str z => R (strD z) none G1
  | .ref a => match G1 a with
    | some (.lst ds) => R ds (some (a, ds)) G1
    | _ => False
  | _ => False
theorem PI.or {t u : TI} (h : PI X tg e t) (h' : PI X tg e u) : PI X tg e (fun σ H R => t σ H R ∨ u σ H R) :=
  ⟨fun pins s σ H R I q => q.elim (h.run pins s σ H R I) (h'.run pins s σ H R I)⟩
/-- an iterator over a value, by its kind -/
theorem iter_lst {pins : List (Addr × Obj)} {s : Shared} {σ : St} {H : Hp} {R : It → Hp → Prop} {a : Addr} {xs : List V} (I : Inv X pins σ H s) (hq : SqL X.K H a xs) (q : R (Itl X.K a) H) : wpAny (model X.prog X.w) X.A (pyIter (.ref a)) (PIE X pins σ tg R) X.xe s := by
  obtain ⟨its, rv, p, hz⟩ := I.list hq
  refine wpAny_pyIter_list p.isList ?_
  exact pi_one (tk := s.toks) I _ (turn_list a _) ⟨_, Heap.get?_push_size _ rfl, rfl, rfl⟩ q
theorem iter_tup {pins : List (Addr × Obj)} {s : Shared} {σ : St} {H : Hp} {R : It → Hp → Prop} {a : Addr} {xs : List V} (I : Inv X pins σ H s) (hq : SqT X.K H a xs) (q : R (Itt X.K a) H) : wpAny (model X.prog X.w) X.A (pyIter (.ref a)) (PIE X pins σ tg R) X.xe s := by
  obtain ⟨its, rv, p, hz⟩ := I.tuple hq
  refine wpAny_pyIter_tuple (show s.heap.IsTuple a its.toArray from p) ?_
  exact pi_one (tk := s.toks) I _ (turn_tuple a _) ⟨_, Heap.get?_push_size _ rfl, rfl, rfl⟩ q
theorem iter_text {pins : List (Addr × Obj)} {s : Shared} {σ : St} {H : Hp} {R : It → Hp → Prop} {x : Str} {t : Tok} (I : Inv X pins σ H s) (q : R (Its x) H) : wpAny (model X.prog X.w) X.A (pyIter (.str x t)) (PIE X pins σ tg R) X.xe s := by
  cases ha : x.cps.all (· < 128)
  · exact wpAny_pyIter_wide ha (pi_one (tk := s.toks) I _ (turn_str _ x t "str_iterator" (.inr rfl)) ⟨_, Heap.get?_push_size _ rfl, rfl, rfl⟩ q)
  · exact wpAny_pyIter_ascii ha (pi_one (tk := s.toks) I _ (turn_str _ x t "str_ascii_iterator" (.inl rfl)) ⟨_, Heap.get?_push_size _ rfl, rfl, rfl⟩ q)
/-- the value's kind picks the rule -/
theorem di_seq (he : DE X e te) : DI X tg e (dSeqI te) := by
  refine ⟨?_⟩
  rintro pins s σ H R I ⟨δ, G, Z, Q0, ok, rs, h, k⟩
  let P : VK := fun v H' => ∃ d G', (match d with
      | .lst ds => Q0 ds none G'
      | .tup ds => Q0 ds none G'
      | .str z => Q0 (strD z) none G'
      | .ref a => match G' a with
        | some (.lst ds) => Q0 ds (some (a, ds)) G'
        | _ => False
      | _ => False) ∧ Kp H G Z H' G' ∧ Ok X.K H' G' Z ∧ Rep X.K (U H' G' Z) d v
  refine thn (he.run pins s σ H P I ⟨δ, G, Z, _, ok, rs, h, fun d G' v H' q k1 ok1 r1 => ⟨d, G', q, k1, ok1, r1⟩⟩) fun u s1 hh => ?_
  obtain ⟨v, H1, I1, rv, d, G1, q, k1, ok1, r1⟩ := hh
  cases r1 with
  | lst hq rr =>
    obtain rfl : u = Value.ref _ := rv
    exact iter_lst I1 (SqL.of (U_le _ _ hq)) (k _ _ _ _ _ q k1 ok1 fun Z' z1 z2 => it_list (U_ext z2 _ _ hq) (rr.mono (U_ext z2)))
  | tup hq rr =>
    obtain rfl : u = Value.ref _ := rv
    exact iter_tup I1 (SqT.mono U_le hq) (k _ _ _ _ _ q k1 ok1 fun Z' z1 z2 => it_tup (SqT.mono (U_ext z2) hq) (rr.mono (U_ext z2)))
  | str z =>
    obtain ⟨t, rfl⟩ := rv
    exact iter_text I1 (k _ _ _ _ _ q k1 ok1 fun Z' z1 z2 => it_str)
  | ref a =>
    obtain rfl : u = Value.ref _ := rv
    simp only at q
    split at q
    · next ds e =>
      obtain ⟨_, xs, h1, h2⟩ := ok1.ok a _ e
      exact iter_lst I1 (SqL.of h1) (k _ _ _ _ _ q k1 ok1 fun Z' z1 z2 => it_listG)
    · exact q.elim
  | _ => exact False.elim q
/-- range(n), range(a, b) -/
def RgB (i j : Int) : Prop := -(2 ^ 62) ≤ i ∧ i < 2 ^ 62 ∧ -(2 ^ 62) ≤ j ∧ j < 2 ^ 62
def dRng1 (ta : DTE) : DTI := fun δ G R => ta δ G fun x G1 => match x with
  | .int j => RgB 0 j ∧ R (rngD 0 j.toNat) none G1
  | _ => False
def dRng2 (ta tb : DTE) : DTI := fun δ G R => ta δ G fun x G1 => tb δ G1 fun y G2 => match x, y with
  | .int i, .int j => RgB i j ∧ R (rngD i (j - i).toNat) none G2
  | _, _ => False
theorem di_range1 {a : Expr} {ta : DTE} (hg : Gl X "range") (hm : X.mg "range" = none) (ha : DE X a ta) (hs : starEach [a] X.env = [(false, eval a X.env)] := by rfl) : DI X tg (.Call (.Name "range" p) [a] [] pos) (dRng1 ta) :=
  PI.mono (pi_range1 hg hm (pa_cons ha pa_nil hs) hs) fun σ H R ⟨δ, G, Z, Q0, ok, rs, h, k⟩ =>
    ⟨δ, G, Z, _, ok, rs, h, fun x G1 v H1 h1 k1 ok1 r1 => by
      cases r1 with
      | int j => exact ⟨j, rfl, h1.1.2.2.1, h1.1.2.2.2, k _ _ _ _ _ h1.2 k1 ok1 fun Z' _ _ => it_range⟩
      | _ => exact False.elim h1⟩
theorem di_range2 {a b : Expr} {ta tb : DTE} (hg : Gl X "range") (hm : X.mg "range" = none) (ha : DE X a ta) (hb : DE X b tb) (hs : starEach [a, b] X.env = [(false, eval a X.env), (false, eval b X.env)] := by rfl) (hs2 : starEach [b] X.env = [(false, eval b X.env)] := by rfl) :
    DI X tg (.Call (.Name "range" p) [a, b] [] pos) (dRng2 ta tb) :=
  PI.mono (pi_range2 hg hm (pa_cons ha (pa_cons hb pa_nil hs2) (hs.trans (by rw [hs2]))) hs hs2) fun σ H R ⟨δ, G, Z, Q0, ok, rs, h, k⟩ =>
    ⟨δ, G, Z, _, ok, rs, h, fun x G1 v H1 h1 k1 ok1 r1 => ⟨δ, G1, Z, _, ok1, rs.mono k1.keep, h1, fun y G2 u H2 h2 k2 ok2 r2 => by
      cases r1 with
      | int i =>
        cases r2 with
        | int j => exact ⟨i, j, rfl, h2.1, k _ _ _ _ _ h2.2 (k1.trans k2) ok2 fun Z' _ _ => it_range⟩
        | _ => exact False.elim h2
      | _ => cases r2 <;> exact False.elim h2⟩⟩
/-- for (i, x) in enumerate(list) -/
def enumFrom (i : Nat) : List D → List D
  | [] => []
  | d :: r => D.tup [.int (i : Nat), d] :: enumFrom (i + 1) r
theorem enumFrom_get : ∀ {ds : List D} {n i : Nat}, (enumFrom n ds)[i]? = (ds[i]?).map fun d => D.tup [.int ((n + i : Nat) : Int), d]
  | [], n, i => by simp [enumFrom]
  | d :: r, n, 0 => by simp [enumFrom]
  | d :: r, n, i + 1 => by
    simp only [enumFrom, List.getElem?_cons_succ]
    rw [enumFrom_get]
    have e : n + 1 + i = n + (i + 1) := by omega
    rw [e]
theorem enumFrom_length : ∀ {ds : List D} {n : Nat}, (enumFrom n ds).length = ds.length
  | [], n => rfl
  | d :: r, n => by simp [enumFrom, enumFrom_length]
theorem it_enum {K : PySem.W.Frag} {H : Hp} {G : GHp} {Z : Addr → Bool} {a : Addr} {ds : List D} {gd : Gd} (h : ∀ H' G', Kp H G Z H' G' → Ok K H' G' Z → gd.ok G' → ∃ xs, H' a = some (.lst xs) ∧ Reps K (U H' G' Z) ds xs) : ItOk K (Ite K a) (enumFrom 0 ds) gd H G Z := by
  refine ⟨fun i d H' G' e k ok gd => ?_, fun H' G' k ok gd => ?_⟩
  · obtain ⟨xs, h1, h2⟩ := h H' G' k ok gd
    rw [enumFrom_get] at e
    cases e0 : ds[i]? with
    | none => rw [e0] at e; simp at e
    | some y =>
      rw [e0] at e
      simp only [Option.map_some, Option.some.injEq, Nat.zero_add] at e
      subst e
      obtain ⟨v, e1, rv⟩ := h2.get e0
      refine ⟨⟨xs, v, SqL.of h1, e1⟩, fun x H'' hy => ?_⟩
      obtain ⟨T, y', rfl, hT, rfl, hx⟩ := hy
      have := hx xs (SqL.of h1)
      rw [e1] at this; cases this
      have kl : Kp H' G' Z (upd H' T (.tup [.int (i : Nat), v])) G' := Kp.laid hT
      exact ⟨kl, ok.laid hT, .tup (SqT.of (U_laid ok hT)) (.cons (.int _) (.cons (rv.mono kl.keep) .nil))⟩
  · obtain ⟨xs, h1, h2⟩ := h H' G' k ok gd
    exact ⟨xs, SqL.of h1, by rw [enumFrom_length]; exact Nat.le_of_eq h2.length.symm⟩
/-- the tracked list that a guard must watch, if it is one -/
def gdOf (G : GHp) : D → Gd
  | .ref a => match G a with
    | some (.lst ds) => some (a, ds)
    | _ => none
  | _ => none
theorem ls_stay {K : PySem.W.Frag} {H : Hp} {G : GHp} {Z Z' : Addr → Bool} {x : D} {v : V} {ds : List D} (z2 : ∀ a, H a ≠ none → Z' a = Z a) (ok : Ok K H G Z) (r : Rep K (U H G Z) x v) (h : lsOf G x = some ds) :
    ∃ a xs, v = .ref a ∧ H a = some (.lst xs) ∧ ∀ H' G', Kp H G Z' H' G' → Ok K H' G' Z' → (gdOf G x).ok G' → ∃ xs, H' a = some (.lst xs) ∧ Reps K (U H' G' Z') ds xs := by
  cases r with
  | lst q rs =>
    simp only [lsOf, Option.some.injEq] at h
    subst h
    refine ⟨_, _, rfl, U_le _ _ q, fun H' G' k ok' _ => ⟨_, U_le _ _ (k.keep _ _ (U_ext z2 _ _ q)), rs.mono fun b o e => k.keep _ _ (U_ext z2 _ _ e)⟩⟩
  | ref a =>
    unfold lsOf at h
    simp only at h
    split at h
    · next ds' e =>
      cases h
      obtain ⟨_, xs, h1, h2⟩ := ok.ok a _ e
      refine ⟨a, xs, rfl, h1, fun H' G' k ok' gd => ?_⟩
      have gd : G' a = some (.lst ds) := by
        unfold gdOf Gd.ok at gd
        simp only [e] at gd
        exact gd
      obtain ⟨_, xs', h1', h2'⟩ := ok'.ok a _ gd
      exact ⟨xs', h1', h2'⟩
    · cases h
  | _ => simp [lsOf] at h
def dEnum (te : DTE) : DTI := fun δ G R => te δ G fun x G1 => match lsOf G1 x with
  | some ds => R (enumFrom 0 ds) (gdOf G1 x) G1
  | none => False
theorem di_enum {tpos : Pos} {elts : List Expr} {kk : Nat} (hg : Gl X "enumerate") (hm : X.mg "enumerate" = none) (he : DE X e te) (hs : starEach [e] X.env = [(false, eval e X.env)] := by rfl) :
    DI X (.Tuple elts kk tpos) (.Call (.Name "enumerate" p) [e] [] pos) (dEnum te) :=
  PI.mono (pi_enum hg hm (pa_cons he pa_nil hs) hs) fun σ H R ⟨δ, G, Z, Q0, ok, rs, h, k⟩ =>
    ⟨δ, G, Z, _, ok, rs, h, fun x G1 v H1 h1 k1 ok1 r1 => by
      have h1 : (match lsOf G1 x with | some ds => Q0 (enumFrom 0 ds) (gdOf G1 x) G1 | none => False) := h1
      split at h1
      · next ds e =>
        obtain ⟨a, xs, rfl, ha, _⟩ := ls_stay (fun _ _ => rfl) ok1 r1 e
        refine ⟨a, xs, rfl, SqL.of ha, k _ _ _ _ _ h1 k1 ok1 fun Z' z1 z2 => ?_⟩
        obtain ⟨a', xs', e', _, st⟩ := ls_stay z2 ok1 r1 e
        cases e'
        exact it_enum st
      · exact h1.elim⟩
/-- for (x, y) in zip(list, list) -/
def zipD : List D → List D → List D
  | a :: r, b :: s => D.tup [a, b] :: zipD r s
  | _, _ => []
theorem zipD_get : ∀ {as bs : List D} {i : Nat} {d : D}, (zipD as bs)[i]? = some d → ∃ x y, as[i]? = some x ∧ bs[i]? = some y ∧ d = .tup [x, y]
  | [], _, i, d, e => by simp [zipD] at e
  | _ :: _, [], i, d, e => by simp [zipD] at e
  | a :: r, b :: s, 0, d, e => by
    simp [zipD] at e
    exact ⟨a, b, rfl, rfl, e.symm⟩
  | a :: r, b :: s, i + 1, d, e => by
    simp only [zipD, List.getElem?_cons_succ] at e
    exact zipD_get (as := r) (bs := s) (i := i) (d := d) e
theorem zipD_length : ∀ {as bs : List D}, (zipD as bs).length = min as.length bs.length
  | [], _ => by simp [zipD]
  | _ :: _, [] => by simp [zipD]
  | a :: r, b :: s => by
    simp only [zipD, List.length_cons, zipD_length]
    omega
def dZip (ta tb : DTE) : DTI := fun δ G R => ta δ G fun x G1 => tb δ G1 fun y G2 => match lsOf G2 x, lsOf G2 y, gdOf G2 x, gdOf G2 y with
  | some as, some bs, none, none => R (zipD as bs) none G2
  | _, _, _, _ => False
theorem di_zip {e2 : Expr} {tb : DTE} {tpos : Pos} {elts : List Expr} {kk : Nat} (hg : Gl X "zip") (hm : X.mg "zip" = none) (he : DE X e te) (he2 : DE X e2 tb)
    (hs : starEach [e, e2] X.env = (false, eval e X.env) :: starEach [e2] X.env := by rfl) (hs2 : starEach [e2] X.env = (false, eval e2 X.env) :: starEach [] X.env := by rfl) (hpl : (backTo pos (starEach [e2] X.env)).any (·.1) = false := by rfl) :
    DI X (.Tuple elts kk tpos) (.Call (.Name "zip" p) [e, e2] [] pos) (dZip te tb) :=
  PI.mono (pi_zip hg hm (pa_cons he (pa_cons he2 pa_nil hs2) hs) hs hpl) fun σ H R ⟨δ, G, Z, Q0, ok, rs, h, k⟩ =>
    ⟨δ, G, Z, _, ok, rs, h, fun x G1 v H1 h1 k1 ok1 r1 => ⟨δ, G1, Z, _, ok1, rs.mono k1.keep, h1, fun y G2 u H2 h2 k2 ok2 r2 => by
      have r1 := r1.mono k2.keep
      have h2 : (match lsOf G2 x, lsOf G2 y, gdOf G2 x, gdOf G2 y with
        | some as, some bs, none, none => Q0 (zipD as bs) none G2
        | _, _, _, _ => False) := h2
      split at h2
      · next as bs e1 e2 e3 e4 =>
        obtain ⟨a, xs, rfl, ha, _⟩ := ls_stay (fun _ _ => rfl) ok2 r1 e1
        obtain ⟨b, ys, rfl, hb, _⟩ := ls_stay (fun _ _ => rfl) ok2 r2 e2
        refine ⟨a, b, xs, ys, rfl, SqL.of ha, SqL.of hb, k _ _ _ _ _ h2 (k1.trans k2) ok2 fun Z' z1 z2 => ?_⟩
        obtain ⟨a', xs', ea, _, st⟩ := ls_stay z2 ok2 r1 e1
        cases ea
        obtain ⟨b', ys', eb, _, su⟩ := ls_stay z2 ok2 r2 e2
        cases eb
        rw [e3] at st
        rw [e4] at su
        refine ⟨fun i d H' G' e k ok gd => ?_, fun H' G' k ok gd => ?_⟩
        · obtain ⟨xs, hx1, hx2⟩ := st H' G' k ok trivial
          obtain ⟨ys, hy1, hy2⟩ := su H' G' k ok trivial
          obtain ⟨dx, dy, ex, ey, rfl⟩ := zipD_get e
          obtain ⟨v, e1, rv⟩ := hx2.get ex
          obtain ⟨w, e2, rw'⟩ := hy2.get ey
          refine ⟨⟨xs, ys, v, w, SqL.of hx1, SqL.of hy1, e1, e2⟩, fun x H'' hy => ?_⟩
          obtain ⟨T, x', y', rfl, hT, rfl, hx, hy⟩ := hy
          have q1 := hx xs (SqL.of hx1)
          rw [e1] at q1; cases q1
          have q2 := hy ys (SqL.of hy1)
          rw [e2] at q2; cases q2
          have kl : Kp H' G' Z' (upd H' T (.tup [v, w])) G' := Kp.laid hT
          exact ⟨kl, ok.laid hT, .tup (SqT.of (U_laid ok hT)) (.cons (rv.mono kl.keep) (.cons (rw'.mono kl.keep) .nil))⟩
        · obtain ⟨xs, hx1, hx2⟩ := st H' G' k ok trivial
          obtain ⟨ys, hy1, hy2⟩ := su H' G' k ok trivial
          refine ⟨xs, ys, SqL.of hx1, SqL.of hy1, ?_⟩
          rw [zipD_length, hx2.length, hy2.length]
          omega
      · exact h2.elim⟩⟩
end

/-! ### calls -/
/-- an exception: its class, its own fields (where it has any) -/
abbrev DXK := Value → Option (List (Str × D)) → GHp → Prop
abbrev DX0 : DXK := fun _ _ _ => False
/-- a def's promise -/
abbrev DSp := List D → GHp → DK → DXK → Prop
/-- how exceptions answer one another -/
structure XLk (K : PySem.W.Frag) (Z : Addr → Bool) (E0 : DXK) (E : XK) (H : Hp) (G : GHp) : Prop where
  bare : ∀ c G' H', E0 c none G' → Kp H G Z H' G' → Ok K H' G' Z → E c none H'
  own : ∀ c fs G' H' dx xs, E0 c (some fs) G' → Kp H G Z H' G' → Ok K H' G' Z → U H' G' Z dx = some (.xd xs) → xs.map (·.1) = fs.map (·.1) → Reps K (U H' G' Z) (fs.map (·.2)) (xs.map (·.2)) → E c (some dx) H'
theorem XLk.after {K : PySem.W.Frag} {Z : Addr → Bool} {E0 : DXK} {E : XK} {H H1 : Hp} {G G1 : GHp} (x : XLk K Z E0 E H G) (k : Kp H G Z H1 G1) : XLk K Z E0 E H1 G1 :=
  ⟨fun c G' H' h q => x.bare c G' H' h (k.trans q), fun c fs G' H' dx xs h q => x.own c fs G' H' dx xs h (k.trans q)⟩
theorem XLk.none {K : PySem.W.Frag} {Z : Addr → Bool} {E : XK} {H : Hp} {G : GHp} : XLk K Z DX0 E H G := ⟨fun _ _ _ h => h.elim, fun _ _ _ _ _ _ h => h.elim⟩
def cSp (K : PySem.W.Frag) (sp : DSp) : Sp := fun vs H Q E => ∃ (ds : List D) (G : GHp) (Z : Addr → Bool) (Q0 : DK) (E0 : DXK), Ok K H G Z ∧ Reps K (U H G Z) ds vs ∧ sp ds G Q0 E0 ∧
  (∀ d G' v H', Q0 d G' → Kp H G Z H' G' → Ok K H' G' Z → Rep K (U H' G' Z) d v → Q v H') ∧ XLk K Z E0 E H G
def dCall (sp : DSp) (dd : List D) (t : DTA) : DTE := fun δ G Q => t δ G fun ds G1 => sp (ds ++ dd) G1 Q DX0
section
variable {X : Cx} {CX : CXT} {k : Nat} {f C : Addr} {fd : FuncData} {ps : List Str} {sp : DSp} {dvs : List V} {ds : List Value} {dd : List D} {E : XK} {x m : Str} {p pos apos : Pos} {e o : Expr} {es : List Expr} {ta : DTE} {t : DTA}
theorem de_call (F : FnOk X.prog X.w X.K X.mg X.base CX k f fd ps (cSp X.K sp)) (hr : Room k X.A) (hg : Gl X x) (hm : X.mg x = some (.ref f)) (hk : PySem.W.keepIn X.K (.ref f) = true) (hb : Binds X.K fd ps ds) (hd : Vals dvs ds) (hdd : ∀ W, Reps X.K W dd dvs) (hx : Passes CX X E)
    (ha : DA X (e :: es) t) (hdb : (x == ("__debug__" : Str)) = false := by decide) (he : starEach (e :: es) X.env = (false, eval e X.env) :: starEach es X.env := by rfl) (hpl : (backTo pos (starEach es X.env)).any (·.1) = false := by rfl) :
    DE X (.Call (.Name x p) (e :: es) [] pos) (dCall sp dd t) :=
  PE.mono (pe_call F hr hg hm hk hb hd hx ha hdb he hpl) fun σ H Q ⟨δ, G, Z, Q0, ok, rs, h, k⟩ =>
    ⟨δ, G, Z, _, ok, rs, h, fun ds G1 vs H1 h1 k1 ok1 r1 => ⟨_, G1, Z, Q0, _, ok1, r1.append (hdd _), h1, fun d G' v H' q k2 ok2 r2 => k _ _ _ _ q (k1.trans k2) ok2 r2, .none⟩⟩
theorem de_call0 (F : FnOk X.prog X.w X.K X.mg X.base CX k f fd ps (cSp X.K sp)) (hr : Room k X.A) (hg : Gl X x) (hm : X.mg x = some (.ref f)) (hk : PySem.W.keepIn X.K (.ref f) = true) (hb : Binds X.K fd ps ds) (hd : Vals dvs ds) (hdd : ∀ W, Reps X.K W dd dvs) (hx : Passes CX X E)
    (hdb : (x == ("__debug__" : Str)) = false := by decide) : DE X (.Call (.Name x p) [] [] pos) (dCall sp dd dNil) :=
  PE.mono (pe_call0 F hr hg hm hk hb hd hx hdb) fun σ H Q ⟨δ, G, Z, Q0, ok, rs, h, k⟩ =>
    ⟨_, G, Z, Q0, _, ok, hdd _, h, k, .none⟩
/-- f(e, .., k = v): the positional values, then the keywords', put in order by gD -/
def dCallN (n m : Nat) (sp : DSp) (gD : List D → List D → List D) (t tk : DTA) : DTE := fun δ G Q => t δ G fun ds G1 => tk δ G1 fun es G2 => ds.length = n ∧ es.length = m ∧ sp (gD ds es) G2 Q DX0
def DKw (X : Cx) (kws : List Keyword) (t : DTA) : Prop := PK X kws (cA X.K t)
theorem PK.mono {X : Cx} {e : List Keyword} {t u : TA} (h : PK X e t) (k : ∀ σ H Q, u σ H Q → t σ H Q) : PK X e u :=
  ⟨fun pos pins s σ H Q I q => h.run pos pins s σ H Q I (k σ H Q q)⟩
theorem dk_nil : DKw X [] dNil := PK.mono pk_nil fun σ H Q ⟨δ, G, Z, Q0, ok, rs, h, k⟩ => k _ _ _ _ h .refl ok .nil
theorem dk_cons {nm : Option Str} {kpos : Pos} {kws : List Keyword} {te : DTE} (ha : DE X e te) (hr : DKw X kws t) : DKw X (⟨nm, e, kpos⟩ :: kws) (dCons te t) :=
  PK.mono (pk_cons ha hr) fun σ H Q ⟨δ, G, Z, Q0, ok, rs, h, k⟩ =>
    ⟨δ, G, Z, _, ok, rs, h, fun x G1 v H1 h1 k1 ok1 r1 => ⟨δ, G1, Z, _, ok1, rs.mono k1.keep, h1, fun xs G2 us H2 h2 k2 ok2 r2 => k _ _ _ _ h2 (k1.trans k2) ok2 (.cons (r1.mono k2.keep) r2)⟩⟩
theorem de_callN {n : Nat} {ks : List Str} {kws : List Keyword} {tk : DTA} {g : List Value → List Value → List Value} {gV : List V → List V → List V} {gD : List D → List D → List D} (F : FnOk X.prog X.w X.K X.mg X.base CX k f fd ps (cSp X.K sp)) (hr : Room k X.A) (hg : Gl X x) (hm : X.mg x = some (.ref f)) (hk : PySem.W.keepIn X.K (.ref f) = true) (hb : KBn X.K fd ps n ks g gV)
    (hgD : ∀ W ds vs es us, Reps X.K W ds vs → Reps X.K W es us → Reps X.K W (gD ds es) (gV vs us)) (hx : Passes CX X E)
    (ha : DA X (e :: es) t) (hkw : DKw X kws tk) (hall : (backToKw pos (keywordEach kws X.env)).all (·.1.isSome) = true := by rfl) (hks : (backToKw pos (keywordEach kws X.env)).filterMap (·.1) = ks := by rfl)
    (hdb : (x == ("__debug__" : Str)) = false := by decide) (he : starEach (e :: es) X.env = (false, eval e X.env) :: starEach es X.env := by rfl)
    (hpl : ((backTo pos (starEach (e :: es) X.env)).any (·.1) || (backToKw pos (keywordEach kws X.env)).any (·.1.isNone)) = false := by rfl) :
    DE X (.Call (.Name x p) (e :: es) kws pos) (dCallN n ks.length sp gD t tk) :=
  PE.mono (pe_callN F hr hg hm hk hb hx ha hkw hall hks hdb he hpl) fun σ H Q ⟨δ, G, Z, Q0, ok, rs, h, k⟩ =>
    ⟨δ, G, Z, _, ok, rs, h, fun ds G1 vs H1 h1 k1 ok1 r1 => ⟨δ, G1, Z, _, ok1, rs.mono k1.keep, h1, fun es G2 us H2 h2 k2 ok2 r2 => by
      have r1' := r1.mono k2.keep
      exact ⟨r1'.length.symm.trans h2.1, r2.length.symm.trans h2.2.1, _, G2, Z, Q0, _, ok2, hgD _ _ _ _ _ r1' r2, h2.2.2, fun d G' v H' q k3 ok3 r3 => k _ _ _ _ q (k1.trans (k2.trans k3)) ok3 r3, .none⟩⟩⟩
end
/-! ### built-ins called by name -/
abbrev DRC := List D → GHp → DK → Prop
def cRC (K : PySem.W.Frag) (r : DRC) : List V → Hp → VK → Prop := fun vs H Q => ∃ (ds : List D) (G : GHp) (Z : Addr → Bool) (Q0 : DK), Ok K H G Z ∧ Reps K (U H G Z) ds vs ∧ r ds G Q0 ∧
  ∀ d G' v' H', Q0 d G' → Kp H G Z H' G' → Ok K H' G' Z → Rep K (U H' G' Z) d v' → Q v' H'
def DCall (X : Cx) (f : Value) (r : DRC) : Prop := CallR X f (cRC X.K r)
def dCB (r : DRC) (t : DTA) : DTE := fun δ G Q => t δ G fun ds G1 => r ds G1 Q
section
variable {X : Cx} {x : Str} {p pos : Pos} {e : Expr} {es : List Expr} {t : DTA} {id T : String} {r : DRC}
theorem de_callB (hc : DCall X (.builtin id) r) (hg : Gl X x) (hm : X.mg x = none) (hv : bootBuiltins x = some (.builtin id)) (ha : DA X (e :: es) t) (hn : x ≠ "__name__" := by decide) (hdb : (x == ("__debug__" : Str)) = false := by decide)
    (he : starEach (e :: es) X.env = (false, eval e X.env) :: starEach es X.env := by rfl) (hpl : (backTo pos (starEach es X.env)).any (·.1) = false := by rfl) : DE X (.Call (.Name x p) (e :: es) [] pos) (dCB r t) :=
  PE.mono (pe_callB hc hg hm hv ha hn hdb he hpl) fun σ H Q ⟨δ, G, Z, Q0, ok, rs, h, k⟩ =>
    ⟨δ, G, Z, _, ok, rs, h, fun ds G1 vs H1 h1 k1 ok1 r1 => ⟨ds, G1, Z, Q0, ok1, r1, h1, fun d G' v H' q k2 ok2 r2 => k _ _ _ _ q (k1.trans k2) ok2 r2⟩⟩
theorem de_callTy (hc : DCall X (.type T) r) (hg : Gl X x) (hm : X.mg x = none) (hv : bootBuiltins x = some (.type T)) (ha : DA X (e :: es) t) (hn : x ≠ "__name__" := by decide) (hdb : (x == ("__debug__" : Str)) = false := by decide)
    (he : starEach (e :: es) X.env = (false, eval e X.env) :: starEach es X.env := by rfl) (hpl : (backTo pos (starEach es X.env)).any (·.1) = false := by rfl) : DE X (.Call (.Name x p) (e :: es) [] pos) (dCB r t) :=
  PE.mono (pe_callTy hc hg hm hv ha hn hdb he hpl) fun σ H Q ⟨δ, G, Z, Q0, ok, rs, h, k⟩ =>
    ⟨δ, G, Z, _, ok, rs, h, fun ds G1 vs H1 h1 k1 ok1 r1 => ⟨ds, G1, Z, Q0, ok1, r1, h1, fun d G' v H' q k2 ok2 r2 => k _ _ _ _ q (k1.trans k2) ok2 r2⟩⟩
end

/-! ### a def keeps its promise -/
def dstart (N : List Str) (ds : List D) : DSt := ds.map some ++ List.replicate (N.length - ds.length) none
theorem RepSt.start {K : PySem.W.Frag} {W : Hp} {N : List Str} {ds : List D} {vs : List V} (r : Reps K W ds vs) : RepSt K W (dstart N ds) (L2.start N vs) := by
  unfold dstart L2.start
  rw [r.length]
  exact (RepSt.somes r).app (RepSt.nones _)
section
variable {P : Program} {w : World} {K : PySem.W.Frag} {mg : Str → Option Value} {base : Heap}
/-- a def that lets no exception out -/
theorem DFun.ok {x qual : Str} {st : Stmt} {f : Addr} {fd : FuncData} {N ps : List Str} {k : Nat} {sp : DSp} (F : Fun K x qual st f fd) (S : FnScope N ps (defScope st)) (len : ∀ ds G Q E, sp ds G Q E → ds.length = ps.length)
    (hbody : ∀ (cdv : Value) (A : Around) (outer : List Env) (s : Shared) (H : Hp) (E : XK) (ds : List D) (G : GHp) (Q : DK) (E0 : DXK), Room k (A.deeper (PyProof.Rows.envOfC qual (defScope st) s.heap.objs.size f cdv)) → sp ds G Q E0 →
      ∃ t, DSs (cxOf CX0 P w K mg base N qual (defScope st) f cdv A outer s H E).nox W0 (defBody st) t ∧ t { nx := fun _ G' => Q .non G', rt := Q } (dstart N ds) G) : FnOk P w K mg base CX0 (k + 1) f fd ps (cSp K sp) := by
  refine F.ok S (fun vs H Q E ⟨ds, G, Z, Q0, E0, ok, rs, h, k, x⟩ => rs.length.symm.trans (len _ _ _ _ h)) fun cdv A outer s H vs Q E hr ⟨ds, G, Z, Q0, E0, ok, rs, h, k, x⟩ => ?_
  obtain ⟨t, d, q⟩ := hbody cdv A outer s H E ds G Q0 E0 hr h
  exact ⟨_, d, _, G, Z, _, ok, RepSt.start rs, q, ⟨fun δ' G' σ' H' q k1 ok1 _ => k _ _ _ _ q k1 ok1 .non, fun _ _ _ _ q => q.elim, fun _ _ _ _ q => q.elim, fun d G' v H' q k1 ok1 r1 => k _ _ _ _ q k1 ok1 r1, fun _ _ _ _ _ q => q.elim, fun _ _ _ _ _ _ _ _ q => q.elim⟩⟩
theorem DFn.imp {CX : CXT} {k : Nat} {f : Addr} {fd : FuncData} {ps : List Str} {sp sp' : DSp} (F : FnOk P w K mg base CX k f fd ps (cSp K sp)) (h : ∀ ds G Q E, sp' ds G Q E → sp ds G Q E) : FnOk P w K mg base CX k f fd ps (cSp K sp') :=
  F.imp fun vs H Q E ⟨ds, G, Z, Q0, E0, ok, rs, q, r⟩ => ⟨ds, G, Z, Q0, E0, ok, rs, h _ _ _ _ q, r⟩
end
end DL
set_option Elab.async false
set_option linter.all false
set_option maxRecDepth 100000
set_option maxHeartbeats 1000000
/-! DL, part 4: operators, subscripts, built-ins. -/
namespace DL
open PySem PySem.Spec L2

theorem OpR.imp {X : Cx} {f : Value → Value → Sem Value} {r r' : R2} (ho : OpR X f r) (h : ∀ x y H Q, r' x y H Q → r x y H Q) : OpR X f r' := fun pins s σ H x y v u Q I rx ry q => ho pins s σ H x y v u Q I rx ry (h x y H Q q)
theorem CallR.imp {X : Cx} {f : Value} {r r' : List V → Hp → VK → Prop} (ho : CallR X f r) (h : ∀ x H Q, r' x H Q → r x H Q) : CallR X f r' := fun pins s σ H xs us Q I rx q => ho pins s σ H xs us Q I rx (h xs H Q q)
theorem UnR.imp {X : Cx} {f : Value → Sem Value} {r r' : V → Hp → VK → Prop} (ho : UnR X f r) (h : ∀ x H Q, r' x H Q → r x H Q) : UnR X f r' := fun pins s σ H xs us Q I rx q => ho pins s σ H xs us Q I rx (h xs H Q q)
theorem IxR.imp {X : Cx} {r r' : R2} (ho : IxR X r) (h : ∀ x y H Q, r' x y H Q → r x y H Q) : IxR X r' := fun va sl pins s σ H x y v u Q I rx ry q e => ho va sl pins s σ H x y v u Q I rx ry (h x y H Q q) e
theorem SlR.imp {X : Cx} {r r' : V → Option Int → Option Int → Hp → VK → Prop} (ho : SlR X r) (h : ∀ x a b H Q, r' x a b H Q → r x a b H Q) : SlR X r' := fun pins s σ H x v vl vu lo hi sl Q I rx e p1 p2 q => ho pins s σ H x v vl vu lo hi sl Q I rx e p1 p2 (h x lo hi H Q q)

/-! ### ints -/
def dI (C : Int → Int → Prop) (g : Int → Int → D) : DR2 := fun x y G Q => match x, y with
  | .int i, .int j => C i j ∧ Q (g i j) G
  | _, _ => False
def dI0 (g : Int → Int → D) : DR2 := fun x y G Q => match x, y with
  | .int i, .int j => Q (g i j) G
  | _, _ => False
section
variable {X : Cx} {f : Value → Value → Sem Value}
theorem dop_I {C : Int → Int → Prop} {g : Int → Int → V} {gd : Int → Int → D} (ho : OpR X f (rI C g)) (hr : ∀ i j W, Rep X.K W (gd i j) (g i j)) : DOp X f (dI C gd) :=
  OpR.imp ho fun v u H Q ⟨x, y, G, Z, Q0, ok, r1, r2, h, k⟩ => by
    cases r1 with
    | int i =>
      cases r2 with
      | int j => exact ⟨i, j, rfl, rfl, h.1, k _ _ _ _ h.2 .refl ok (hr _ _ _)⟩
      | _ => exact False.elim h
    | _ => cases r2 <;> exact False.elim h
theorem dop_I0 {g : Int → Int → V} {gd : Int → Int → D} (ho : OpR X f (rI0 g)) (hr : ∀ i j W, Rep X.K W (gd i j) (g i j)) : DOp X f (dI0 gd) :=
  OpR.imp ho fun v u H Q ⟨x, y, G, Z, Q0, ok, r1, r2, h, k⟩ => by
    cases r1 with
    | int i =>
      cases r2 with
      | int j => exact ⟨i, j, rfl, rfl, k _ _ _ _ h .refl ok (hr _ _ _)⟩
      | _ => exact False.elim h
    | _ => cases r2 <;> exact False.elim h
/-- a product is no too great number -/
def MulOk (i j : Int) : Prop := CMul i j ∨ CMulW i j
theorem MulOk.ok {i j : Int} (h : MulOk i j) : PySem.IntMulOk i j := h.elim (fun h => h.ok) (fun h => h.ok)
theorem op_mulX : OpR X (binaryOp .Mult) (rI MulOk fun i j => .int (i * j)) := opI fun _ _ _ _ _ _ _ hc q => PyProof.Rows.mul_int q hc.ok
/-- a divisor of either sign, below 2 ^ 9000 -/
def DivOk (j : Int) : Prop := j ≠ 0 ∧ j.natAbs.log2 < 9000
theorem op_fdivX : OpR X (binaryOp .FloorDiv) (rI (fun _ j => DivOk j) fun i j => .int (i.fdiv j)) := opI fun i j _ _ _ _ _ hc q =>
  PyProof.Rows.floordiv_int hc.1 q (.inl (PyProof.noPylong_of_log2 hc.2))
theorem dop_sub : DOp X (binaryOp .Sub) (dI0 fun i j => .int (i - j)) := dop_I0 op_sub fun i j _ => .int _
theorem dop_mul : DOp X (binaryOp .Mult) (dI MulOk fun i j => .int (i * j)) := dop_I op_mulX fun i j _ => .int _
theorem dop_fdiv : DOp X (binaryOp .FloorDiv) (dI CDivW fun i j => .int (i / j)) := dop_I op_fdivW fun i j _ => .int _
theorem dop_fdivN : DOp X (binaryOp .FloorDiv) (dI (fun _ j => DivOk j) fun i j => .int (i.fdiv j)) := dop_I op_fdivX fun i j _ => .int _
theorem dop_mod : DOp X (binaryOp .Mod) (dI (fun _ j => 0 < j) fun i j => .int (i % j)) := dop_I op_mod fun i j _ => .int _
theorem dop_pow : DOp X (binaryOp .Pow) (dI CPow fun i j => .int (i ^ j.toNat)) := dop_I op_pow fun i j _ => .int _
theorem dop_addI : DOp X (binaryOp .Add) (dI0 fun i j => .int (i + j)) := dop_I0 op_add fun i j _ => .int _
theorem diop_add : DOp X (inplaceOp .Add) (dI0 fun i j => .int (i + j)) := dop_I0 iop_add fun i j _ => .int _
theorem diop_sub : DOp X (inplaceOp .Sub) (dI0 fun i j => .int (i - j)) := dop_I0 iop_sub fun i j _ => .int _
def dNeg : DR1 := fun x G Q => match x with
  | .int i => Q (.int (-i)) G
  | _ => False
theorem dun_neg : DUn X (unaryOp .USub) dNeg :=
  UnR.imp un_neg fun v H Q ⟨x, G, Z, Q0, ok, r1, h, k⟩ => by
    cases r1 with
    | int i => exact ⟨i, rfl, k _ _ _ _ h .refl ok (.int _)⟩
    | _ => exact False.elim h
end

/-! ### + of anything -/
/-- the result list: as it stays -/
def dAddR : DR2 := fun x y G Q => match x, y with
  | .int i, .int j => Q (.int (i + j)) G
  | .str a, .str b => a.length + b.length ≤ sizeLine ∧ Q (.str (a ++ b)) G
  | .tup xs, .tup ys => xs ≠ [] ∧ xs.length + ys.length ≤ sizeLine ∧ Q (.tup (xs ++ ys)) G
  | x, y => match lsOf G x, lsOf G y with
    | some xs, some ys => xs.length + ys.length ≤ sizeLine ∧ Q (.lst (xs ++ ys)) G
    | _, _ => False
section
variable {X : Cx}
theorem Reps.nil_iff {K : PySem.W.Frag} {W : Hp} {ds : List D} {vs : List V} (r : Reps K W ds vs) : vs = [] ↔ ds = [] := by cases r <;> simp
theorem dop_add : DOp X (binaryOp .Add) dAddR :=
  OpR.imp (OpR.or op_add (OpR.or op_add_str (OpR.or op_catT op_cat))) fun v u H Q ⟨x, y, G, Z, Q0, ok, r1, r2, h, k⟩ => by
    have lst : (match lsOf G x, lsOf G y with
      | some xs, some ys => xs.length + ys.length ≤ sizeLine ∧ Q0 (.lst (xs ++ ys)) G
      | _, _ => False) → rCat v u H Q := by
      intro h
      split at h
      · next xs ys e1 e2 =>
        obtain ⟨a, vs, rfl, ha, ra⟩ := lsOf_of ok r1 e1
        obtain ⟨b, us, rfl, hb, rb⟩ := lsOf_of ok r2 e2
        refine ⟨a, b, vs, us, rfl, rfl, ha, hb, by rw [← ra.length, ← rb.length]; exact h.1, fun p hp => ?_⟩
        exact k _ _ _ _ h.2 (Kp.laid hp) (ok.laid hp) (.lst (U_laid ok hp) ((ra.append rb).mono (Kp.laid hp).keep))
      · exact h.elim
    cases r1 with
    | int i =>
      cases r2 with
      | int j => exact .inl ⟨i, j, rfl, rfl, k _ _ _ _ h .refl ok (.int _)⟩
      | _ => exact .inr (.inr (.inr (lst h)))
    | str a =>
      cases r2 with
      | str b => exact .inr (.inl ⟨a, b, rfl, rfl, h.1, k _ _ _ _ h.2 .refl ok (.str _)⟩)
      | _ => exact .inr (.inr (.inr (lst h)))
    | tup q1 s1 =>
      cases r2 with
      | tup q2 s2 =>
        refine .inr (.inr (.inl ⟨_, _, _, _, rfl, rfl, SqT.mono U_le q1, SqT.mono U_le q2, fun e => h.1 (s1.nil_iff.mp e), by rw [← s1.length, ← s2.length]; exact h.2.1, fun e => ?_, fun e p hp => ?_⟩))
        · have e2 := s2.nil_iff.mp e
          subst e2
          exact k _ _ _ _ h.2.2 .refl ok (by rw [List.append_nil]; exact .tup q1 s1)
        · exact k _ _ _ _ h.2.2 (Kp.laid hp) (ok.laid hp) (.tup (SqT.of (U_laid ok hp)) ((s1.append s2).mono (Kp.laid hp).keep))
      | _ => exact .inr (.inr (.inr (lst h)))
    | _ => cases r2 <;> exact .inr (.inr (.inr (lst h)))
/-- list + list, to be changed -/
def dCatM : DR2 := fun x y G Q => match lsOf G x, lsOf G y with
  | some xs, some ys => xs.length + ys.length ≤ sizeLine ∧ ∀ p, G p = none → Q (.ref p) (gupd G p (.lst (xs ++ ys)))
  | _, _ => False
theorem dop_catM : DOp X (binaryOp .Add) dCatM :=
  OpR.imp op_cat fun v u H Q ⟨x, y, G, Z, Q0, ok, r1, r2, h, k⟩ => by
    unfold dCatM at h
    split at h
    · next xs ys e1 e2 =>
      obtain ⟨a, vs, rfl, ha, ra⟩ := lsOf_of ok r1 e1
      obtain ⟨b, us, rfl, hb, rb⟩ := lsOf_of ok r2 e2
      refine ⟨a, b, vs, us, rfl, rfl, ha, hb, by rw [← ra.length, ← rb.length]; exact h.1, fun p hp => ?_⟩
      have hg := (ok.free hp).1
      have kk : Kp H G Z (upd H p (.lst (vs ++ us))) (gupd G p (.lst (xs ++ ys))) := Kp.laidG hp hg
      exact k _ _ _ _ (h.2 p hg) kk (ok.laidG hp ⟨_, upd_same, (ra.append rb).mono kk.keep⟩) (.ref p)
    · exact h.elim
/-- list * int -/
def dRepR (m : Bool) : DR2 := fun x y G Q => match lsOf G x, y with
  | some xs, .int n => -(2 ^ 63) ≤ n ∧ n < 2 ^ 63 ∧ xs.length * n.toNat ≤ sizeLine ∧ lcEnd m (List.replicate n.toNat xs).flatten G Q
  | _, _ => False
theorem Reps.rep {K : PySem.W.Frag} {W : Hp} {ds : List D} {vs : List V} (r : Reps K W ds vs) : ∀ n : Nat, Reps K W (List.replicate n ds).flatten (List.replicate n vs).flatten
  | 0 => .nil
  | n + 1 => by
    rw [List.replicate_succ, List.replicate_succ, List.flatten_cons, List.flatten_cons]
    exact r.append (Reps.rep r n)
/-- a new list, laid at p -/
theorem lcEnd_of {K : PySem.W.Frag} {H : Hp} {G : GHp} {Z : Addr → Bool} {Q : VK} {Q0 : DK} {m : Bool} {ds : List D} {vs : List V} {p : Addr} (ok : Ok K H G Z) (hp : H p = none) (r : Reps K (U H G Z) ds vs) (h : lcEnd m ds G Q0)
    (k : ∀ d G' v H', Q0 d G' → Kp H G Z H' G' → Ok K H' G' Z → Rep K (U H' G' Z) d v → Q v H') : Q (.ref p) (upd H p (.lst vs)) := by
  cases m with
  | false => exact k _ _ _ _ h (Kp.laid hp) (ok.laid hp) (.lst (U_laid ok hp) (r.mono (Kp.laid hp).keep))
  | true =>
    have hg := (ok.free hp).1
    have kk : Kp H G Z (upd H p (.lst vs)) (gupd G p (.lst ds)) := Kp.laidG hp hg
    exact k _ _ _ _ (h p hg) kk (ok.laidG hp ⟨_, upd_same, r.mono kk.keep⟩) (.ref p)
theorem dop_rep (m : Bool) : DOp X (binaryOp .Mult) (dRepR m) :=
  OpR.imp op_rep fun v u H Q ⟨x, y, G, Z, Q0, ok, r1, r2, h, k⟩ => by
    unfold dRepR at h
    split at h
    · next xs n e1 =>
      obtain ⟨a, vs, rfl, ha, ra⟩ := lsOf_of ok r1 e1
      cases r2
      exact ⟨a, n, vs, rfl, rfl, ha, h.1, h.2.1, by rw [← ra.length]; exact h.2.2.1, fun p hp => lcEnd_of ok hp (ra.rep _) h.2.2.2 k⟩
    · exact h.elim
end

/-! ### == -/
mutual
def D.data : D → Option PyData
  | .non => some .none
  | .bl b => some (.bool b)
  | .int i => some (.int i)
  | .str x => some (.str x)
  | .tup ds => (D.dataL ds).map .tuple
  | .lst ds => (D.dataL ds).map .list
  | _ => none
def D.dataL : List D → Option (List PyData)
  | [] => some []
  | d :: r => match D.data d, D.dataL r with
    | some x, some xs => some (x :: xs)
    | _, _ => none
end
def pdOf (G : GHp) : D → Option PyData
  | .ref a => match G a with
    | some (.lst ds) => (D.dataL ds).map .list
    | _ => none
  | d => d.data
section
variable {K : PySem.W.Frag} {W H : Hp}
mutual
theorem Rep.dp (le : ∀ a o, W a = some o → H a = some o) : ∀ {d : D} {v : V} {p : PyData}, Rep K W d v → d.data = some p → Dp K H v p
  | _, _, p, .non, e => by simp only [D.data, Option.some.injEq] at e; subst e; exact .non
  | _, _, p, .bl b, e => by simp only [D.data, Option.some.injEq] at e; subst e; exact .bl b
  | _, _, p, .int b, e => by simp only [D.data, Option.some.injEq] at e; subst e; exact .int b
  | _, _, p, .str b, e => by simp only [D.data, Option.some.injEq] at e; subst e; exact .str b
  | _, _, p, .ty b, e => by simp [D.data] at e
  | _, _, p, .ref b, e => by simp [D.data] at e
  | _, _, p, .scr _ _, e => by simp [D.data] at e
  | _, _, p, .tup (ds := ds) h r, e => by
    simp only [D.data] at e
    cases q : D.dataL ds with
    | none => rw [q] at e; simp at e
    | some ps =>
      rw [q] at e
      simp only [Option.map_some, Option.some.injEq] at e
      subst e
      exact .tup (SqT.mono le h) (Reps.dp le r q)
  | _, _, p, .lst (ds := ds) h r, e => by
    simp only [D.data] at e
    cases q : D.dataL ds with
    | none => rw [q] at e; simp at e
    | some ps =>
      rw [q] at e
      simp only [Option.map_some, Option.some.injEq] at e
      subst e
      exact .lst (SqL.of (le _ _ h)) (Reps.dp le r q)
theorem Reps.dp (le : ∀ a o, W a = some o → H a = some o) : ∀ {ds : List D} {vs : List V} {ps : List PyData}, Reps K W ds vs → D.dataL ds = some ps → DpAll K H vs ps
  | _, _, ps, .nil, e => by simp only [D.dataL, Option.some.injEq] at e; subst e; exact .nil
  | _, _, ps, .cons (d := d) (ds := ds) h r, e => by
    simp only [D.dataL] at e
    split at e
    · next x xs e1 e2 =>
      cases e
      exact .cons (Rep.dp le h e1) (Reps.dp le r e2)
    · cases e
end
end
theorem pd_of {K : PySem.W.Frag} {H : Hp} {G : GHp} {Z : Addr → Bool} {x : D} {v : V} {p : PyData} (ok : Ok K H G Z) (r : Rep K (U H G Z) x v) (h : pdOf G x = some p) : Dp K H v p := by
  cases r with
  | ref a =>
    unfold pdOf at h
    simp only at h
    split at h
    · next ds e =>
      obtain ⟨_, xs, h1, h2⟩ := ok.ok a _ e
      cases q : D.dataL ds with
      | none => rw [q] at h; simp at h
      | some ps =>
        rw [q] at h
        simp only [Option.map_some, Option.some.injEq] at h
        subst h
        exact .lst (SqL.of h1) (Reps.dp U_le h2 q)
    · cases h
  | tup q s => exact Rep.dp U_le (.tup q s) h
  | lst q s => exact Rep.dp U_le (.lst q s) h
  | non => exact Rep.dp (K := K) (W := U H G Z) U_le .non h
  | bl b => exact Rep.dp (K := K) (W := U H G Z) U_le (.bl b) h
  | int b => exact Rep.dp (K := K) (W := U H G Z) U_le (.int b) h
  | str b => exact Rep.dp (K := K) (W := U H G Z) U_le (.str b) h
  | ty b => exact Rep.dp (K := K) (W := U H G Z) U_le (.ty b) h
  | scr q s => exact Rep.dp U_le (.scr q s) h
def dEqR : DR2 := fun x y G Q => match x, y with
  | .int i, .int j => Q (.bl (decide (i = j))) G
  | .str i, .str j => Q (.bl (decide (i = j))) G
  | .bl i, .bl j => Q (.bl (decide (i = j))) G
  | x, y => match pdOf G x, pdOf G y with
    | some p, some q => SeqAt.shaped p = true ∧ SeqAt.shaped q = true ∧ Q (.bl (PyData.eqv p q)) G
    | _, _ => False
def dNeR : DR2 := fun x y G Q => match x, y with
  | .int i, .int j => Q (.bl (!decide (i = j))) G
  | .str i, .str j => Q (.bl (!decide (i = j))) G
  | .bl i, .bl j => Q (.bl (!decide (i = j))) G
  | x, y => match pdOf G x, pdOf G y with
    | some p, some q => SeqAt.shaped p = true ∧ SeqAt.shaped q = true ∧ Q (.bl (!PyData.eqv p q)) G
    | _, _ => False
section
variable {X : Cx}
theorem dop_eq (hu : X.A.units + 64 < cLine) : DOp X (compareOp .Eq) dEqR :=
  OpR.imp (OpR.or op_eq (op_eqD hu)) fun v u H Q ⟨x, y, G, Z, Q0, ok, r1, r2, h, k⟩ => by
    have gen : (match pdOf G x, pdOf G y with
      | some p, some q => SeqAt.shaped p = true ∧ SeqAt.shaped q = true ∧ Q0 (.bl (PyData.eqv p q)) G
      | _, _ => False) → rEqD X.K v u H Q := by
      intro h
      split at h
      · next p q e1 e2 => exact ⟨p, q, pd_of ok r1 e1, pd_of ok r2 e2, h.1, h.2.1, k _ _ _ _ h.2.2 .refl ok (.bl _)⟩
      · exact h.elim
    cases r1 with
    | int i =>
      cases r2 with
      | int j => exact .inl ⟨rfl, by have := k _ _ _ _ h .refl ok (.bl _); simpa using this⟩
      | _ => exact .inr (gen h)
    | str i =>
      cases r2 with
      | str j => exact .inl ⟨rfl, by have := k _ _ _ _ h .refl ok (.bl _); simpa using this⟩
      | _ => exact .inr (gen h)
    | bl i =>
      cases r2 with
      | bl j => exact .inl ⟨rfl, by have := k _ _ _ _ h .refl ok (.bl _); simpa using this⟩
      | _ => exact .inr (gen h)
    | _ => cases r2 <;> exact .inr (gen h)
theorem dop_ne (hu : X.A.units + 64 < cLine) : DOp X (compareOp .NotEq) dNeR :=
  OpR.imp (OpR.or op_ne (op_neD hu)) fun v u H Q ⟨x, y, G, Z, Q0, ok, r1, r2, h, k⟩ => by
    have gen : (match pdOf G x, pdOf G y with
      | some p, some q => SeqAt.shaped p = true ∧ SeqAt.shaped q = true ∧ Q0 (.bl (!PyData.eqv p q)) G
      | _, _ => False) → rNeD X.K v u H Q := by
      intro h
      split at h
      · next p q e1 e2 => exact ⟨p, q, pd_of ok r1 e1, pd_of ok r2 e2, h.1, h.2.1, k _ _ _ _ h.2.2 .refl ok (.bl _)⟩
      · exact h.elim
    cases r1 with
    | int i =>
      cases r2 with
      | int j => exact .inl ⟨rfl, by have := k _ _ _ _ h .refl ok (.bl _); simpa using this⟩
      | _ => exact .inr (gen h)
    | str i =>
      cases r2 with
      | str j => exact .inl ⟨rfl, by have := k _ _ _ _ h .refl ok (.bl _); simpa using this⟩
      | _ => exact .inr (gen h)
    | bl i =>
      cases r2 with
      | bl j => exact .inl ⟨rfl, by have := k _ _ _ _ h .refl ok (.bl _); simpa using this⟩
      | _ => exact .inr (gen h)
    | _ => cases r2 <;> exact .inr (gen h)

/-! ### <, <=, >, >= of ints and texts -/
def dCmpR (f : Int → Int → Bool) (g : List Nat → List Nat → Bool) : DR2 := fun x y G Q => match x, y with
  | .int i, .int j => Q (.bl (f i j)) G
  | .str a, .str b => Q (.bl (g a.cps.toList b.cps.toList)) G
  | _, _ => False
theorem dop_cmp {op : CmpOp} {f : Int → Int → Bool} {g : List Nat → List Nat → Bool} (h1 : OpR X (compareOp op) (rI0 fun i j => .bl (f i j)))
    (h2 : OpR X (compareOp op) (fun x y H Q => ∃ i j, x = .str i ∧ y = .str j ∧ Q (.bl (g i.cps.toList j.cps.toList)) H)) : DOp X (compareOp op) (dCmpR f g) :=
  OpR.imp (OpR.or h1 h2) fun v u H Q ⟨x, y, G, Z, Q0, ok, r1, r2, h, k⟩ => by
    cases r1 with
    | int i =>
      cases r2 with
      | int j => exact .inl ⟨i, j, rfl, rfl, k _ _ _ _ h .refl ok (.bl _)⟩
      | _ => exact False.elim h
    | str i =>
      cases r2 with
      | str j => exact .inr ⟨i, j, rfl, rfl, k _ _ _ _ h .refl ok (.bl _)⟩
      | _ => exact False.elim h
    | _ => cases r2 <;> exact False.elim h
theorem dop_lt : DOp X (compareOp .Lt) (dCmpR (fun i j => decide (i < j)) (fun a b => decide (a < b))) := dop_cmp op_lt op_lt_str
theorem dop_le : DOp X (compareOp .LtE) (dCmpR (fun i j => decide (i ≤ j)) (fun a b => !decide (b < a))) := dop_cmp op_le op_le_str
theorem dop_gt : DOp X (compareOp .Gt) (dCmpR (fun i j => decide (j < i)) (fun a b => decide (b < a))) := dop_cmp op_gt op_gt_str
theorem dop_ge : DOp X (compareOp .GtE) (dCmpR (fun i j => decide (j ≤ i)) (fun a b => !decide (a < b))) := dop_cmp op_ge op_ge_str

/-! ### is -/
def isNon : D → Bool
  | .non => true
  | _ => false
/-- is None, is True, is False -/
def dIsR : DR2 := fun x y G Q => match y, x with
  | .non, x => Q (.bl (isNon x)) G
  | .bl j, .bl i => Q (.bl (decide (i = j))) G
  | _, _ => False
def dIsNR : DR2 := fun x y G Q => match y, x with
  | .non, x => Q (.bl (!isNon x)) G
  | .bl j, .bl i => Q (.bl (!decide (i = j))) G
  | _, _ => False
theorem isNon_of {K : PySem.W.Frag} {W : Hp} {x : D} {v : V} (r : Rep K W x v) : decide (v = .non) = isNon x := by cases r <;> rfl
theorem dop_is : DOp X (compareOp .Is) dIsR :=
  OpR.imp (OpR.or op_isN op_isBl) fun v u H Q ⟨x, y, G, Z, Q0, ok, r1, r2, h, k⟩ => by
    cases r2 with
    | non => exact .inl ⟨rfl, k _ _ _ _ h .refl ok (by rw [isNon_of r1]; exact .bl _)⟩
    | bl j =>
      cases r1 with
      | bl i => exact .inr ⟨i, j, rfl, rfl, k _ _ _ _ h .refl ok (.bl _)⟩
      | _ => exact False.elim h
    | _ => cases r1 <;> exact False.elim h
theorem dop_isN : DOp X (compareOp .IsNot) dIsNR :=
  OpR.imp (OpR.or op_notN op_notBl) fun v u H Q ⟨x, y, G, Z, Q0, ok, r1, r2, h, k⟩ => by
    cases r2 with
    | non => exact .inl ⟨rfl, k _ _ _ _ h .refl ok (by rw [isNon_of r1]; exact .bl _)⟩
    | bl j =>
      cases r1 with
      | bl i => exact .inr ⟨i, j, rfl, rfl, k _ _ _ _ h .refl ok (.bl _)⟩
      | _ => exact False.elim h
    | _ => cases r1 <;> exact False.elim h
end

/-! ### subscripts -/
/-- a place of any sign -/
def atD (ds : List D) (i : Int) (Q : D → Prop) : Prop := match atI ds i with
  | some d => Q d
  | none => False
theorem atI_rep {K : PySem.W.Frag} {W : Hp} {ds : List D} {vs : List V} {i : Int} {d : D} (r : Reps K W ds vs) (h : atI ds i = some d) : ∃ v, atI vs i = some v ∧ Rep K W d v := by
  unfold atI at h ⊢
  rw [← r.length]
  cases e : ixN ds.length i with
  | none => rw [e] at h; simp at h
  | some j =>
    rw [e] at h
    exact r.get h
def dIxR : DR2 := fun x y G Q => match y with
  | .int i => match x with
    | .tup ds => atD ds i fun d => Q d G
    | .scr ds => atD ds i fun d => Q d G
    | .str z => z.length ≤ sizeLine ∧ ∃ c, atI z.cps.toList i = some c ∧ Q (.str ⟨#[c]⟩) G
    | x => match lsOf G x with
      | some ds => atD ds i fun d => Q d G
      | none => False
  | _ => False
def DIx (X : Cx) (r : DR2) : Prop := IxR X (cR2 X.K r)
section
variable {X : Cx} {a b : Expr} {ta tb : DTE} {pos : Pos}
theorem de_ix {r : DR2} (hr : DIx X r) (ha : DE X a ta) (hb : DE X b tb) (hs : PlainIx b) : DE X (.Subscript a b pos) (dOp r ta tb) :=
  PE.mono (pe_ix hr ha hb hs) fun _ _ _ h => op_split h
theorem dix_seq : DIx X dIxR :=
  IxR.imp (ix_seq) fun v u H Q ⟨x, y, G, Z, Q0, ok, r1, r2, h, k⟩ => by
    unfold dIxR at h
    split at h
    · next i =>
      cases r2
      have lst : (match lsOf G x with | some ds => atD ds i fun d => Q0 d G | none => False) → rIxL X.K v (.int i) H Q := by
        intro h
        split at h
        · next ds e =>
          obtain ⟨a, vs, rfl, ha, ra⟩ := lsOf_of ok r1 e
          unfold atD at h
          split at h
          · next d ed =>
            obtain ⟨w, e1, rw'⟩ := atI_rep ra ed
            exact ⟨a, vs, i, w, rfl, rfl, SqL.of ha, e1, k _ _ _ _ h .refl ok rw'⟩
          · exact h.elim
        · exact h.elim
      cases r1 with
      | tup q s =>
        have h : atD _ i fun d => Q0 d G := h
        unfold atD at h
        split at h
        · next d ed =>
          obtain ⟨w, e1, rw'⟩ := atI_rep s ed
          exact .inr (.inl ⟨_, _, i, w, rfl, rfl, SqT.mono U_le q, e1, k _ _ _ _ h .refl ok rw'⟩)
        · exact h.elim
      | scr q s =>
        have h : atD _ i fun d => Q0 d G := h
        unfold atD at h
        split at h
        · next d ed =>
          obtain ⟨w, e1, rw'⟩ := atI_rep s ed
          exact .inl ⟨_, _, i, w, rfl, rfl, SqL.mono U_le q, e1, k _ _ _ _ h .refl ok rw'⟩
        · exact h.elim
      | str z =>
        obtain ⟨hz, c, hc, q⟩ := h
        exact .inr (.inr ⟨z, i, c, rfl, rfl, hz, hc, k _ _ _ _ q .refl ok (.str _)⟩)
      | _ => exact .inl (lst h)
    · exact h.elim
end
/-! slices -/
abbrev DTO := DSt → GHp → (Option Int → GHp → Prop) → Prop
def cO (K : PySem.W.Frag) (t : DTO) : TO := fun σ H Q => ∃ (δ : DSt) (G : GHp) (Z : Addr → Bool) (Q0 : Option Int → GHp → Prop), Ok K H G Z ∧ RepSt K (U H G Z) δ σ ∧ t δ G Q0 ∧
  ∀ b G' H', Q0 b G' → Kp H G Z H' G' → Ok K H' G' Z → Q b H'
def DO (X : Cx) (e : Option Expr) (t : DTO) : Prop := PO X e (cO X.K t)
theorem PO.mono {X : Cx} {e : Option Expr} {t u : TO} (h : PO X e t) (k : ∀ σ H Q, u σ H Q → t σ H Q) : PO X e u :=
  ⟨fun pins s σ H Q I q => h.run pins s σ H Q I (k σ H Q q)⟩
def dNoPart : DTO := fun _ G Q => Q none G
def dPart (t : DTE) : DTO := fun δ G Q => t δ G fun x G1 => match x with
  | .int i => Q (some i) G1
  | _ => False
/-- the items of ds[lo:hi] -/
def cutD (ds : List D) (lo hi : Option Int) : List D := (ds.drop (HT.sIx ds.length 0 lo)).take (HT.sIx ds.length ds.length hi - HT.sIx ds.length 0 lo)
theorem Reps.cut {K : PySem.W.Frag} {W : Hp} {ds : List D} {vs : List V} (r : Reps K W ds vs) (lo hi : Option Int) : Reps K W (cutD ds lo hi) (cutV vs lo hi) := by
  unfold cutD cutV
  rw [r.length]
  exact (r.drop _).take _
def dSlR (m : Bool) : D → Option Int → Option Int → GHp → DK → Prop := fun x lo hi G Q => match x with
  | .str z => z.length ≤ sizeLine ∧ Q (.str (cutS z lo hi)) G
  | .tup ds => ¬ (HT.sIx ds.length 0 lo = 0 ∧ HT.sIx ds.length ds.length hi = ds.length) ∧ Q (.tup (cutD ds lo hi)) G
  | x => match lsOf G x with
    | some ds => lcEnd m (cutD ds lo hi) G Q
    | none => False
def dSl (r : D → Option Int → Option Int → GHp → DK → Prop) (te : DTE) (tl th : DTO) : DTE := fun δ G Q => te δ G fun x G1 => tl δ G1 fun l G2 => th δ G2 fun u G3 => r x l u G3 Q
section
variable {X : Cx} {e : Expr} {te : DTE} {lo hi : Option Expr} {tl th : DTO} {pos p2 : Pos}
theorem do_none : DO X none dNoPart := PO.mono po_none fun σ H Q ⟨δ, G, Z, Q0, ok, rs, h, k⟩ => k _ _ _ h .refl ok
theorem do_some (h : DE X e te) : DO X (some e) (dPart te) :=
  PO.mono (po_some h) fun σ H Q ⟨δ, G, Z, Q0, ok, rs, h, k⟩ =>
    ⟨δ, G, Z, _, ok, rs, h, fun x G1 v H1 h1 k1 ok1 r1 => by
      cases r1 with
      | int i => exact ⟨i, rfl, k _ _ _ h1 k1 ok1⟩
      | _ => exact False.elim h1⟩
def cSl (K : PySem.W.Frag) (r : D → Option Int → Option Int → GHp → DK → Prop) : V → Option Int → Option Int → Hp → VK → Prop := fun v lo hi H Q => ∃ (x : D) (G : GHp) (Z : Addr → Bool) (Q0 : DK), Ok K H G Z ∧ Rep K (U H G Z) x v ∧ r x lo hi G Q0 ∧
  ∀ d G' v' H', Q0 d G' → Kp H G Z H' G' → Ok K H' G' Z → Rep K (U H' G' Z) d v' → Q v' H'
theorem slr (m : Bool) : SlR X (cSl X.K (dSlR m)) :=
  SlR.imp (SlR.or sl_list (SlR.or sl_tup sl_str)) fun v lo hi H Q ⟨x, G, Z, Q0, ok, r1, h, k⟩ => by
    have lst : (match lsOf G x with | some ds => lcEnd m (cutD ds lo hi) G Q0 | none => False) → rSlL X.K v lo hi H Q := by
      intro h
      split at h
      · next ds e =>
        obtain ⟨a, vs, rfl, ha, ra⟩ := lsOf_of ok r1 e
        exact ⟨a, vs, rfl, SqL.of ha, fun p hp => lcEnd_of ok hp (ra.cut lo hi) h k⟩
      · exact h.elim
    cases r1 with
    | str z => exact .inr (.inr ⟨z, rfl, h.1, k _ _ _ _ h.2 .refl ok (.str _)⟩)
    | tup q s =>
      refine .inr (.inl ⟨_, _, rfl, SqT.mono U_le q, by rw [← s.length]; exact h.1, fun p hp => ?_⟩)
      exact k _ _ _ _ h.2 (Kp.laid hp) (ok.laid hp) (.tup (SqT.of (U_laid ok hp)) ((s.cut lo hi).mono (Kp.laid hp).keep))
    | _ => exact .inl (lst h)
theorem de_slice (m : Bool) (he : DE X e te) (hl : DO X lo tl) (hu : DO X hi th) : DE X (.Subscript e (.Slice lo hi none p2) pos) (dSl (dSlR m) te tl th) :=
  PE.mono (pe_slice (slr m) he hl hu) fun σ H Q ⟨δ, G, Z, Q0, ok, rs, h, k⟩ =>
    ⟨δ, G, Z, _, ok, rs, h, fun x G1 v H1 h1 k1 ok1 r1 => ⟨δ, G1, Z, _, ok1, rs.mono k1.keep, h1, fun l G2 H2 h2 k2 ok2 => ⟨δ, G2, Z, _, ok2, rs.mono (k1.trans k2).keep, h2, fun u G3 H3 h3 k3 ok3 =>
      ⟨x, G3, Z, Q0, ok3, r1.mono (k2.trans k3).keep, h3, fun d G' v' H' q k4 ok4 r4 => k _ _ _ _ q (k1.trans (k2.trans (k3.trans k4))) ok4 r4⟩⟩⟩⟩
/-- xs[::-1] -/
def dRevR (m : Bool) (te : DTE) : DTE := fun δ G Q => te δ G fun x G1 => match lsOf G1 x with
  | some ds => lcEnd m ds.reverse G1 Q
  | none => False
theorem de_rev (m : Bool) {k : Nat} {p1 p3 p4 : Pos} (he : DE X e te) : DE X (.Subscript e (.Slice none none (some (.UnaryOp .USub (.Constant (.int 1) k p1) p2)) p3) pos) (dRevR m te) :=
  PE.mono (pe_revL he) fun σ H Q ⟨δ, G, Z, Q0, ok, rs, h, k⟩ =>
    ⟨δ, G, Z, _, ok, rs, h, fun x G1 v H1 h1 k1 ok1 r1 => by
      have h1 : (match lsOf G1 x with | some ds => lcEnd m ds.reverse G1 Q0 | none => False) := h1
      split at h1
      · next ds e =>
        obtain ⟨a, vs, rfl, ha, ra⟩ := lsOf_of ok1 r1 e
        exact ⟨a, vs, rfl, SqL.of ha, fun p hp => lcEnd_of ok1 hp ra.reverse h1 fun d G' v' H' q k2 ok2 r2 => k _ _ _ _ q (k1.trans k2) ok2 r2⟩
      · exact h1.elim⟩
/-- xs[i] = v -/
def dSetL : D → D → D → GHp → (GHp → Prop) → Prop := fun o i v G Q => match o, i with
  | .ref p, .int k => match G p with
    | some (.lst ds) => match ixN ds.length k with
      | some j => Q (gupd G p (.lst (ds.set j v)))
      | none => False
    | _ => False
  | _, _ => False
theorem dSetL_inv {o i v : D} {G : GHp} {Q : GHp → Prop} (h : dSetL o i v G Q) : ∃ p n ds j, o = .ref p ∧ i = .int n ∧ G p = some (.lst ds) ∧ ixN ds.length n = some j ∧ Q (gupd G p (.lst (ds.set j v))) := by
  cases o with
  | ref p =>
    cases i with
    | int n =>
      unfold dSetL at h
      simp only at h
      cases eg : G p with
      | none => rw [eg] at h; exact h.elim
      | some o =>
        rw [eg] at h
        cases o with
        | lst ds =>
          simp only at h
          cases ej : ixN ds.length n with
          | none => rw [ej] at h; exact h.elim
          | some j => rw [ej] at h; exact ⟨p, n, ds, j, rfl, rfl, eg, ej, h⟩
        | _ => exact h.elim
    | _ => exact False.elim h
  | _ => exact False.elim h
def dSub (te to ti : DTE) : DTS := fun D δ G => te δ G fun v G1 => to δ G1 fun o G2 => ti δ G2 fun i G3 => dSetL o i v G3 fun G4 => D.nx δ G4
theorem ds_sub {o i : Expr} {to ti : DTE} {tpos : Pos} (he : DE X e te) (ho : DE X o to) (hi : DE X i ti)
    (ha : ∀ v, assign (.Subscript o i tpos) X.env v = (do
      let ov ← holding [v] (eval o X.env)
      let iv ← holding [v, ov] (eval i X.env)
      standAt tpos
      holding [v, ov, iv] (setItem ov iv v)
      release [v, ov, iv] []) := by intro _; rfl)
    (hs : swapsWithSole [.Subscript o i tpos] e pos.line X.env = pure false := by rfl) (hw : swappedStores [.Subscript o i tpos] e X.env = pure none := by rfl)
    (h1 : (assignEach [.Subscript o i tpos] X.env).map (·.2) = [assign (.Subscript o i tpos) X.env] := by rfl) : DS X W (.Assign [.Subscript o i tpos] e pos) (dSub te to ti) :=
  PS.mono (ps_asg he (pg_sub ho hi set_list ha) hs hw h1) fun E σ H ⟨δ, G, Z, D0, ok, rs, h, l⟩ =>
    ⟨δ, G, Z, _, ok, rs, h, fun v G1 v' H1 h1 k1 ok1 r1 => ⟨δ, G1, Z, _, ok1, rs.mono k1.keep, h1, fun o G2 o' H2 h2 k2 ok2 r2 => ⟨δ, G2, Z, _, ok2, rs.mono (k1.trans k2).keep, h2, fun i G3 i' H3 h3 k3 ok3 r3 => by
      have q1 := r1.mono (k2.trans k3).keep
      have q2 := r2.mono k3.keep
      obtain ⟨p, n, ds, j, rfl, rfl, eg, ej, h3⟩ := dSetL_inv h3
      cases q2
      cases r3
      obtain ⟨hz, xs, hx, rx⟩ := ok3.ok p _ eg
      refine ⟨p, xs, n, j, rfl, rfl, hx, by rw [← rx.length]; exact ej, ?_⟩
      have kk : Kp H3 G3 Z (upd H3 p (.lst (xs.set j v'))) (gupd G3 p (.lst (ds.set j v))) := Kp.wrote eg hz
      have k13 := k1.trans (k2.trans k3)
      exact l.nx _ _ _ _ h3 (k13.trans kk) (ok3.wrote eg ⟨_, upd_same, ((rx.set q1 j)).mono kk.keep⟩) (rs.mono (k13.trans kk).keep)⟩⟩⟩
end
end DL
set_option Elab.async false
set_option linter.all false
set_option maxRecDepth 100000
set_option maxHeartbeats 1000000
/-! DL, part 5: built-in functions and methods. -/
namespace DL
open PySem PySem.Spec L2

/-! ### one and two arguments -/
def dR1 (r : D → GHp → DK → Prop) : DRC := fun ds G Q => match ds with
  | [x] => r x G Q
  | _ => False
def dR2 (r : D → D → GHp → DK → Prop) : DRC := fun ds G Q => match ds with
  | [x, y] => r x y G Q
  | _ => False
section
variable {X : Cx} {f : Value}
theorem dcall1 {r0 : List V → Hp → VK → Prop} {r : D → GHp → DK → Prop} (ho : CallR X f r0) (h : ∀ x v H G Z (Q : VK) (Q0 : DK), Ok X.K H G Z → Rep X.K (U H G Z) x v → r x G Q0 →
    (∀ d G' v' H', Q0 d G' → Kp H G Z H' G' → Ok X.K H' G' Z → Rep X.K (U H' G' Z) d v' → Q v' H') → r0 [v] H Q) : DCall X f (dR1 r) :=
  CallR.imp ho fun vs H Q ⟨ds, G, Z, Q0, ok, rs, q, k⟩ => by
    rcases rs with _ | ⟨r1, rs⟩
    · exact False.elim q
    rcases rs with _ | ⟨r2, rs⟩
    · exact h _ _ _ _ _ _ _ ok r1 q k
    · exact False.elim q
theorem dcall2 {r0 : List V → Hp → VK → Prop} {r : D → D → GHp → DK → Prop} (ho : CallR X f r0) (h : ∀ x y v u H G Z (Q : VK) (Q0 : DK), Ok X.K H G Z → Rep X.K (U H G Z) x v → Rep X.K (U H G Z) y u → r x y G Q0 →
    (∀ d G' v' H', Q0 d G' → Kp H G Z H' G' → Ok X.K H' G' Z → Rep X.K (U H' G' Z) d v' → Q v' H') → r0 [v, u] H Q) : DCall X f (dR2 r) :=
  CallR.imp ho fun vs H Q ⟨ds, G, Z, Q0, ok, rs, q, k⟩ => by
    rcases rs with _ | ⟨r1, rs⟩
    · exact False.elim q
    rcases rs with _ | ⟨r2, rs⟩
    · exact False.elim q
    rcases rs with _ | ⟨r3, rs⟩
    · exact h _ _ _ _ _ _ _ _ _ ok r1 r2 q k
    · exact False.elim q
/-! len -/
def dLenR (x : D) (G : GHp) (Q : DK) : Prop := match x with
  | .str y => y.length ≤ sizeLine ∧ Q (.int y.length) G
  | .tup ds => Q (.int ds.length) G
  | .scr ds => Q (.int ds.length) G
  | x => match lsOf G x with
    | some ds => Q (.int ds.length) G
    | none => False
theorem dcall_len : DCall X (.builtin "len") (dR1 dLenR) :=
  dcall1 call_len fun x v H G Z Q Q0 ok r h k => by
    have lst : (match lsOf G x with | some ds => Q0 (.int ds.length) G | none => False) → ∃ x n, [v] = [x] ∧ LenV X.K x H n ∧ Q (.int n) H := by
      intro h
      split at h
      · next ds e =>
        obtain ⟨a, vs, rfl, ha, ra⟩ := lsOf_of ok r e
        exact ⟨_, vs.length, rfl, .inl ⟨vs, SqL.of ha, rfl⟩, k _ _ _ _ h .refl ok (by rw [ra.length]; exact .int _)⟩
      · exact h.elim
    cases r with
    | str y => exact ⟨_, _, rfl, ⟨h.1, rfl⟩, k _ _ _ _ h.2 .refl ok (.int _)⟩
    | tup q s => exact ⟨_, _, rfl, .inr ⟨_, SqT.mono U_le q, rfl⟩, k _ _ _ _ h .refl ok (by rw [s.length]; exact .int _)⟩
    | scr q s => exact ⟨_, _, rfl, .inl ⟨_, SqL.mono U_le q, rfl⟩, k _ _ _ _ h .refl ok (by rw [s.length]; exact .int _)⟩
    | _ => exact lst h
/-! abs, int, max and min of two ints -/
def dAbsR (x : D) (G : GHp) (Q : DK) : Prop := match x with
  | .int i => Q (.int (i.natAbs : Int)) G
  | _ => False
theorem abs_ite (i : Int) : (if i < 0 then -i else i) = (i.natAbs : Int) := by split <;> omega
theorem dcall_abs : DCall X (.builtin "abs") (dR1 dAbsR) :=
  dcall1 call_abs fun x v H G Z Q Q0 ok r h k => by
    cases r with
    | int i => exact ⟨i, rfl, k _ _ _ _ h .refl ok (by rw [abs_ite]; exact .int _)⟩
    | _ => exact False.elim h
def dIntR (x : D) (G : GHp) (Q : DK) : Prop := match x with
  | .int i => Q (.int i) G
  | .bl b => Q (.int (if b then 1 else 0)) G
  | _ => False
theorem dcall_int : DCall X (.type "int") (dR1 dIntR) :=
  dcall1 call_int1 fun x v H G Z Q Q0 ok r h k => by
    cases r with
    | int i => exact .inl ⟨i, rfl, k _ _ _ _ h .refl ok (.int _)⟩
    | bl i => exact .inr ⟨i, rfl, k _ _ _ _ h .refl ok (.int _)⟩
    | _ => exact False.elim h
def dMax2R (x y : D) (G : GHp) (Q : DK) : Prop := match x, y with
  | .int i, .int j => Q (.int (max i j)) G
  | _, _ => False
def dMin2R (x y : D) (G : GHp) (Q : DK) : Prop := match x, y with
  | .int i, .int j => Q (.int (min i j)) G
  | _, _ => False
theorem max_ite (i j : Int) : (if j > i then j else i) = max i j := by split <;> omega
theorem min_ite (i j : Int) : (if j < i then j else i) = min i j := by split <;> omega
theorem dcall_max2 (hc : X.calm = true) : DCall X (.builtin "max") (dR2 dMax2R) :=
  dcall2 (call_max2 hc) fun x y v u H G Z Q Q0 ok r1 r2 h k => by
    cases r1 with
    | int i =>
      cases r2 with
      | int j => exact ⟨i, j, rfl, k _ _ _ _ h .refl ok (by rw [max_ite]; exact .int _)⟩
      | _ => exact False.elim h
    | _ => cases r2 <;> exact False.elim h
theorem dcall_min2 (hc : X.calm = true) : DCall X (.builtin "min") (dR2 dMin2R) :=
  dcall2 (call_min2 hc) fun x y v u H G Z Q Q0 ok r1 r2 h k => by
    cases r1 with
    | int i =>
      cases r2 with
      | int j => exact ⟨i, j, rfl, k _ _ _ _ h .refl ok (by rw [min_ite]; exact .int _)⟩
      | _ => exact False.elim h
    | _ => cases r2 <;> exact False.elim h
/-! lists of ints -/
def intsOf : List D → Option (List Int)
  | [] => some []
  | .int i :: r => (intsOf r).map (i :: ·)
  | _ :: _ => none
theorem intsOf_map : ∀ ns : List Int, intsOf (ns.map D.int) = some ns
  | [] => rfl
  | n :: r => by simp [intsOf, intsOf_map r]
theorem intsOf_eq : ∀ {ds : List D} {ns : List Int}, intsOf ds = some ns → ds = ns.map D.int
  | [], ns, e => by simp [intsOf] at e; subst e; rfl
  | d :: r, ns, e => by
    cases d with
    | int i =>
      simp only [intsOf] at e
      cases q : intsOf r with
      | none => rw [q] at e; simp at e
      | some ms =>
        rw [q] at e
        simp at e
        subst e
        rw [List.map_cons, ← intsOf_eq q]
    | _ => simp [intsOf] at e
def intsG (G : GHp) (x : D) : Option (List Int) := (lsOf G x).bind intsOf
theorem intsG_of {K : PySem.W.Frag} {H : Hp} {G : GHp} {Z : Addr → Bool} {x : D} {v : V} {ns : List Int} (ok : Ok K H G Z) (r : Rep K (U H G Z) x v) (h : intsG G x = some ns) : ∃ a, v = .ref a ∧ H a = some (.lst (ns.map V.int)) := by
  unfold intsG at h
  cases e : lsOf G x with
  | none => rw [e] at h; simp at h
  | some ds =>
    rw [e] at h
    simp only [Option.bind_some] at h
    obtain ⟨a, vs, rfl, ha, ra⟩ := lsOf_of ok r e
    rw [intsOf_eq h] at ra
    exact ⟨a, rfl, by rw [ha, ra.ints]⟩
def maxI : List Int → Int
  | [] => 0
  | [a] => a
  | a :: b :: r => max a (maxI (b :: r))
def minI : List Int → Int
  | [] => 0
  | [a] => a
  | a :: b :: r => min a (minI (b :: r))
theorem maxI_mem : ∀ {ns : List Int}, ns ≠ [] → maxI ns ∈ ns ∧ ∀ y ∈ ns, y ≤ maxI ns
  | [a], _ => by simp [maxI]
  | a :: b :: r, _ => by
    have ih := maxI_mem (ns := b :: r) (by simp)
    rw [maxI]
    refine ⟨?_, fun y hy => ?_⟩
    · by_cases h : a ≤ maxI (b :: r)
      · rw [Int.max_eq_right h]; exact List.mem_cons_of_mem _ ih.1
      · rw [Int.max_eq_left (by omega)]; exact List.mem_cons_self
    · rcases List.mem_cons.mp hy with rfl | hy
      · omega
      · have := ih.2 y hy; omega
theorem minI_mem : ∀ {ns : List Int}, ns ≠ [] → minI ns ∈ ns ∧ ∀ y ∈ ns, minI ns ≤ y
  | [a], _ => by simp [minI]
  | a :: b :: r, _ => by
    have ih := minI_mem (ns := b :: r) (by simp)
    rw [minI]
    refine ⟨?_, fun y hy => ?_⟩
    · by_cases h : a ≤ minI (b :: r)
      · rw [Int.min_eq_left h]; exact List.mem_cons_self
      · rw [Int.min_eq_right (by omega)]; exact List.mem_cons_of_mem _ ih.1
    · rcases List.mem_cons.mp hy with rfl | hy
      · omega
      · have := ih.2 y hy; omega
def dOnInts (C : List Int → Prop) (g : List Int → D) (x : D) (G : GHp) (Q : DK) : Prop := match intsG G x with
  | some ns => C ns ∧ Q (g ns) G
  | none => False
theorem dcall_sum (hc : X.calm = true) : DCall X (.builtin "sum") (dR1 (dOnInts (fun _ => True) fun ns => .int ns.sum)) :=
  dcall1 (cr_sum hc) fun x v H G Z Q Q0 ok r h k => by
    unfold dOnInts at h
    split at h
    · next ns e =>
      obtain ⟨a, rfl, ha⟩ := intsG_of ok r e
      exact ⟨a, ns, rfl, SqL.of ha, k _ _ _ _ h.2 .refl ok (.int _)⟩
    · exact h.elim
theorem dcall_maxL (hc : X.calm = true) : DCall X (.builtin "max") (dR1 (dOnInts (fun ns => ns ≠ []) fun ns => .int (maxI ns))) :=
  dcall1 (cr_max hc) fun x v H G Z Q Q0 ok r h k => by
    unfold dOnInts at h
    split at h
    · next ns e =>
      obtain ⟨a, rfl, ha⟩ := intsG_of ok r e
      refine ⟨a, ns, rfl, SqL.of ha, List.length_pos_iff.mpr h.1, fun m hm hle => ?_⟩
      have e : m = maxI ns := by
        have h1 := maxI_mem h.1
        have h2 := hle _ h1.1
        have h3 := h1.2 _ hm
        omega
      subst e
      exact k _ _ _ _ h.2 .refl ok (.int _)
    · exact h.elim
theorem dcall_minL (hc : X.calm = true) : DCall X (.builtin "min") (dR1 (dOnInts (fun ns => ns ≠ []) fun ns => .int (minI ns))) :=
  dcall1 (cr_min hc) fun x v H G Z Q Q0 ok r h k => by
    unfold dOnInts at h
    split at h
    · next ns e =>
      obtain ⟨a, rfl, ha⟩ := intsG_of ok r e
      refine ⟨a, ns, rfl, SqL.of ha, List.length_pos_iff.mpr h.1, fun m hm hle => ?_⟩
      have e : m = minI ns := by
        have h1 := minI_mem h.1
        have h2 := hle _ h1.1
        have h3 := h1.2 _ hm
        omega
      subst e
      exact k _ _ _ _ h.2 .refl ok (.int _)
    · exact h.elim
/-! sorted of ints -/
def insI (n : Int) : List Int → List Int
  | [] => [n]
  | a :: r => if n ≤ a then n :: a :: r else a :: insI n r
def sortI : List Int → List Int
  | [] => []
  | a :: r => insI a (sortI r)
theorem insI_perm (n : Int) : ∀ l, (insI n l).Perm (n :: l)
  | [] => .refl _
  | a :: r => by
    rw [insI]
    split
    · exact .refl _
    · exact (List.Perm.cons a (insI_perm n r)).trans (.swap _ _ _)
theorem insI_sorted (n : Int) : ∀ {l}, l.Pairwise (· ≤ ·) → (insI n l).Pairwise (· ≤ ·)
  | [], _ => by simp [insI]
  | a :: r, h => by
    rw [insI]
    obtain ⟨h1, h2⟩ := List.pairwise_cons.mp h
    split
    · next hn =>
      refine List.pairwise_cons.mpr ⟨fun y hy => ?_, h⟩
      rcases List.mem_cons.mp hy with rfl | hy
      · exact hn
      · have := h1 y hy; omega
    · next hn =>
      refine List.pairwise_cons.mpr ⟨fun y hy => ?_, insI_sorted n h2⟩
      rcases List.mem_cons.mp ((insI_perm n r).mem_iff.mp hy) with rfl | hy
      · omega
      · exact h1 y hy
theorem sortI_perm : ∀ l, (sortI l).Perm l
  | [] => .refl _
  | a :: r => (insI_perm a _).trans (.cons a (sortI_perm r))
theorem sortI_sorted : ∀ l, (sortI l).Pairwise (· ≤ ·)
  | [] => .nil
  | a :: r => insI_sorted a (sortI_sorted r)
theorem sorted_unique {l m : List Int} (hp : l.Perm m) (hl : l.Pairwise (· ≤ ·)) (hm : m.Pairwise (· ≤ ·)) : l = m := by
  induction l generalizing m with
  | nil => exact (List.nil_perm.mp hp).symm
  | cons a r ih =>
    cases m with
    | nil => exact absurd hp (by simp)
    | cons b s =>
      obtain ⟨h1, h2⟩ := List.pairwise_cons.mp hl
      obtain ⟨h3, h4⟩ := List.pairwise_cons.mp hm
      have e : a = b := by
        have ha : a ∈ b :: s := hp.mem_iff.mp List.mem_cons_self
        have hb : b ∈ a :: r := hp.mem_iff.mpr List.mem_cons_self
        rcases List.mem_cons.mp ha with ea | ha
        · exact ea
        · rcases List.mem_cons.mp hb with eb | hb
          · exact eb.symm
          · have := h3 a ha
            have := h1 b hb
            omega
      subst e
      rw [ih (List.Perm.cons_inv hp) h2 h4]
def dSortedR (m : Bool) (x : D) (G : GHp) (Q : DK) : Prop := match intsG G x with
  | some ns => lcEnd m ((sortI ns).map .int) G Q
  | none => False
theorem dcall_sorted (m : Bool) : DCall X (.builtin "sorted") (dR1 (dSortedR m)) :=
  dcall1 cr_sortedI fun x v H G Z Q Q0 ok r h k => by
    unfold dSortedR at h
    split at h
    · next ns e =>
      obtain ⟨a, rfl, ha⟩ := intsG_of ok r e
      refine ⟨a, ns, rfl, SqL.of ha, fun ns' p hp hs hn => ?_⟩
      have e : ns' = sortI ns := sorted_unique (hp.trans (sortI_perm ns).symm) hs (sortI_sorted ns)
      subst e
      exact lcEnd_of ok hn (Reps.of_ints _) h k
    · exact h.elim
/-! list(x), tuple(x) -/
def sqOf (G : GHp) : D → Option (List D)
  | .tup ds => some ds
  | x => lsOf G x
def dListR (m : Bool) (x : D) (G : GHp) (Q : DK) : Prop := match sqOf G x with
  | some ds => lcEnd m ds G Q
  | none => False
theorem dcall_list (m : Bool) : DCall X (.type "list") (dR1 (dListR m)) :=
  dcall1 call_list_of fun x v H G Z Q Q0 ok r h k => by
    have lst : (match lsOf G x with | some ds => lcEnd m ds G Q0 | none => False) → ∃ p ys, [v] = [V.ref p] ∧ (SqL X.K H p ys ∨ SqT X.K H p ys) ∧ ∀ l, H l = none → Q (.ref l) (upd H l (.lst ys)) := by
      intro h
      split at h
      · next ds e =>
        obtain ⟨a, vs, rfl, ha, ra⟩ := lsOf_of ok r e
        exact ⟨a, vs, rfl, .inl (SqL.of ha), fun p hp => lcEnd_of ok hp ra h k⟩
      · exact h.elim
    cases r with
    | tup q s => exact ⟨_, _, rfl, .inr (SqT.mono U_le q), fun p hp => lcEnd_of ok hp s h k⟩
    | _ => exact lst h
def dTupleR (x : D) (G : GHp) (Q : DK) : Prop := match sqOf G x with
  | some ds => Q (.tup ds) G
  | none => False
theorem dcall_tuple : DCall X (.type "tuple") (dR1 dTupleR) :=
  dcall1 call_tuple_of fun x v H G Z Q Q0 ok r h k => by
    have lst : (match lsOf G x with | some ds => Q0 (.tup ds) G | none => False) → ∃ p ys, [v] = [V.ref p] ∧ ((SqL X.K H p ys ∧ ∀ l, H l = none → Q (.ref l) (upd H l (.tup ys))) ∨ (SqT X.K H p ys ∧ Q (.ref p) H)) := by
      intro h
      split at h
      · next ds e =>
        obtain ⟨a, vs, rfl, ha, ra⟩ := lsOf_of ok r e
        exact ⟨a, vs, rfl, .inl ⟨SqL.of ha, fun p hp => k _ _ _ _ h (Kp.laid hp) (ok.laid hp) (.tup (SqT.of (U_laid ok hp)) (ra.mono (Kp.laid hp).keep))⟩⟩
      · exact h.elim
    cases r with
    | tup q s => exact ⟨_, _, rfl, .inr ⟨SqT.mono U_le q, k _ _ _ _ h .refl ok (.tup q s)⟩⟩
    | _ => exact lst h
/-! all, any of bools -/
def bsOf : List D → Option (List Bool)
  | [] => some []
  | .bl i :: r => (bsOf r).map (i :: ·)
  | _ :: _ => none
theorem bsOf_map : ∀ ns : List Bool, bsOf (ns.map D.bl) = some ns
  | [] => rfl
  | n :: r => by simp [bsOf, bsOf_map r]
theorem bsOf_eq : ∀ {ds : List D} {ns : List Bool}, bsOf ds = some ns → ds = ns.map D.bl
  | [], ns, e => by simp [bsOf] at e; subst e; rfl
  | d :: r, ns, e => by
    cases d with
    | bl i =>
      simp only [bsOf] at e
      cases q : bsOf r with
      | none => rw [q] at e; simp at e
      | some ms =>
        rw [q] at e
        simp at e
        subst e
        rw [List.map_cons, ← bsOf_eq q]
    | _ => simp [bsOf] at e
def dOnBls (g : List Bool → Bool) (x : D) (G : GHp) (Q : DK) : Prop := match (lsOf G x).bind bsOf with
  | some ns => Q (.bl (g ns)) G
  | none => False
theorem bls_of {K : PySem.W.Frag} {H : Hp} {G : GHp} {Z : Addr → Bool} {x : D} {v : V} {ns : List Bool} (ok : Ok K H G Z) (r : Rep K (U H G Z) x v) (h : (lsOf G x).bind bsOf = some ns) : ∃ a, v = .ref a ∧ H a = some (.lst (ns.map V.bl)) := by
  cases e : lsOf G x with
  | none => rw [e] at h; simp at h
  | some ds =>
    rw [e] at h
    simp only [Option.bind_some] at h
    obtain ⟨a, vs, rfl, ha, ra⟩ := lsOf_of ok r e
    rw [bsOf_eq h] at ra
    exact ⟨a, rfl, by rw [ha, ra.bls]⟩
theorem dcall_all (hc : X.calm = true) : DCall X (.builtin "all") (dR1 (dOnBls fun bs => bs.all id)) :=
  dcall1 (cr_all hc) fun x v H G Z Q Q0 ok r h k => by
    unfold dOnBls at h
    split at h
    · next ns e =>
      obtain ⟨a, rfl, ha⟩ := bls_of ok r e
      exact ⟨a, ns, rfl, SqL.of ha, k _ _ _ _ h .refl ok (.bl _)⟩
    · exact h.elim
theorem dcall_any (hc : X.calm = true) : DCall X (.builtin "any") (dR1 (dOnBls fun bs => bs.any id)) :=
  dcall1 (cr_any hc) fun x v H G Z Q Q0 ok r h k => by
    unfold dOnBls at h
    split at h
    · next ns e =>
      obtain ⟨a, rfl, ha⟩ := bls_of ok r e
      exact ⟨a, ns, rfl, SqL.of ha, k _ _ _ _ h .refl ok (.bl _)⟩
    · exact h.elim
/-! isinstance -/
def tgOf (G : GHp) : D → Option Tg
  | .non => some .non
  | .bl _ => some .bool
  | .int _ => some .int
  | .str _ => some .str
  | .tup _ => some .tup
  | .lst _ => some .lst
  | .ref a => match G a with
    | some (.lst _) => some .lst
    | some (.dK _) => some .dct
    | _ => none
  | _ => none
def isA : Tg → Tg → Bool
  | .bool, .int => true
  | a, b => decide (a = b)
theorem kit_isA : ∀ a c : Tg, kitB a.name c.name = some (isA a c) := by
  intro a c
  cases a <;> cases c <;> decide +kernel
theorem tg_of {K : PySem.W.Frag} {H : Hp} {G : GHp} {Z : Addr → Bool} {x : D} {v : V} {t : Tg} (ok : Ok K H G Z) (r : Rep K (U H G Z) x v) (h : tgOf G x = some t) : TyX K H v (.type t.name) := by
  cases r with
  | non => cases h; exact .base .non
  | bl b => cases h; exact .base (.bl b)
  | int b => cases h; exact .base (.int b)
  | str b => cases h; exact .base (.str b)
  | ty b => cases h
  | scr q s => cases h
  | lst q s => cases h; exact .base (.lst (U_le _ _ q))
  | tup q s =>
    cases h
    rcases q with (q | ⟨o, q⟩) | ⟨o, its, n, q, c, _⟩
    · exact .base (.tup (U_le _ _ q))
    · exact .fTuple (U_le _ _ q)
    · exact .kTuple q c
  | ref a =>
    unfold tgOf at h
    simp only at h
    split at h
    · next ds e =>
      cases h
      obtain ⟨_, xs, h1, _⟩ := ok.ok a _ e
      exact .base (.lst h1)
    · next ds e =>
      cases h
      obtain ⟨_, xs, h1, _⟩ := ok.ok a _ e
      exact .base (.dK h1)
    · cases h
def dIsiR (x y : D) (G : GHp) (Q : DK) : Prop := match tgOf G x, y with
  | some t, .ty c => Q (.bl (isA t c)) G
  | _, _ => False
theorem dcall_isi : DCall X (.builtin "isinstance") (dR2 dIsiR) :=
  dcall2 call_isi fun x y v u H G Z Q Q0 ok r1 r2 h k => by
    unfold dIsiR at h
    split at h
    · next t c e =>
      cases r2
      exact ⟨v, _, _, _, _, rfl, .ty _, tg_of ok r1 e, kit_ty (kit_isA t c), k _ _ _ _ h .refl ok (.bl _)⟩
    · exact h.elim
end
/-- isinstance(x, (c1, c2, ..)) with written classes -/
def tysT (cs : List Tg) : TE := fun _ H Q => ∀ p, H p = none → Q (.ref p) (upd H p (.tup (cs.map fun c => V.ty c.name)))
def dIsiT (cs : List Tg) (te : DTE) : DTE := fun δ G Q => te δ G fun x G1 => match tgOf G1 x with
  | some t => Q (.bl (cs.any fun c => isA t c)) G1
  | none => False
theorem kitAny_of {K : PySem.W.Frag} {t : Tg} : ∀ cs : List Tg, PySem.W.kitAny K (.type t.name) (cs.map fun c => Value.type c.name) = some (cs.any fun c => isA t c)
  | [] => kitAny_nil
  | c :: cs => by
    refine kitAny_cons (kit_ty (kit_isA t c)) (fun e => ?_) (fun e => ?_)
    · rw [kitAny_of cs, List.any_cons, e, Bool.false_or]
    · rw [List.any_cons, e, Bool.true_or]
section
variable {X : Cx} {p pos : Pos} {e tt : Expr} {te : DTE} {cs : List Tg}
theorem clsv_all : ∀ cs : List Tg, Paired ClsV (cs.map fun c => V.ty c.name) (cs.map fun c => Value.type c.name)
  | [] => .nil
  | c :: cs => .cons (.ty _) (clsv_all cs)
theorem de_isiT (he : DE X e te) (ht : PE X tt (tysT cs)) (hg : Gl X "isinstance") (hm : X.mg "isinstance" = none)
    (hs : starEach [e, tt] X.env = (false, eval e X.env) :: starEach [tt] X.env := by rfl) (hs2 : starEach [tt] X.env = (false, eval tt X.env) :: starEach [] X.env := by rfl) (hpl : (backTo pos (starEach [tt] X.env)).any (·.1) = false := by rfl) :
    DE X (.Call (.Name "isinstance" p) [e, tt] [] pos) (dIsiT cs te) :=
  PE.mono (pe_callB call_isiT hg hm (by decide +kernel) (pa_cons he (pa_cons ht pa_nil hs2) hs) (by decide) (by decide) hs hpl) fun σ H Q ⟨δ, G, Z, Q0, ok, rs, h, k⟩ =>
    ⟨δ, G, Z, _, ok, rs, h, fun x G1 v H1 h1 k1 ok1 r1 => fun p hp => by
      have h1 : (match tgOf G1 x with | some t => Q0 (.bl (cs.any fun c => isA t c)) G1 | none => False) := h1
      split at h1
      · next t e =>
        have kl : Kp H1 G1 Z (upd H1 p (.tup (cs.map fun c => V.ty c.name))) G1 := Kp.laid hp
        have okl := ok1.laid (o := .tup (cs.map fun c => V.ty c.name)) hp
        exact ⟨v, p, _, _, _, _, rfl, upd_same, clsv_all cs, tg_of okl (r1.mono kl.keep) e, kitAny_of cs, k _ _ _ _ h1 (k1.trans kl) okl (.bl _)⟩
      · exact h1.elim⟩
/-- the tuple of written classes -/
theorem pa_tys : ∀ {es : List Expr} {cs : List Tg}, PA X es (fun _ H Q => Q (cs.map fun c => V.ty c.name) H) → cs.length ≤ sizeLine → ∀ {x1 : Nat} {pos : Pos}, PE X (.Tuple es x1 pos) (tysT cs) :=
  fun h hz _ _ => PE.mono (pe_tup h) fun σ H Q q => ⟨by rw [List.length_map]; exact hz, q⟩
theorem pa_ty0 : PA X [] (fun _ H Q => Q (([] : List Tg).map fun c => V.ty c.name) H) := pa_nil
theorem pa_tyc {es : List Expr} {c : Tg} {cs : List Tg} (h : PE X e (tC (.ty c.name))) (hr : PA X es (fun _ H Q => Q (cs.map fun c => V.ty c.name) H)) (hs : starEach (e :: es) X.env = (false, eval e X.env) :: starEach es X.env := by rfl) :
    PA X (e :: es) (fun _ H Q => Q ((c :: cs).map fun c => V.ty c.name) H) := pa_cons h hr hs
end

/-! ### in, not in -/
def flatD : D → Bool
  | .non => true
  | .bl _ => true
  | .int _ => true
  | .str _ => true
  | _ => false
def eqD : D → D → Bool
  | .non, .non => true
  | .bl a, .bl b => a == b
  | .bl a, .int b => (if a then 1 else 0) == b
  | .int a, .bl b => a == (if b then 1 else 0)
  | .int a, .int b => a == b
  | .str a, .str b => a == b
  | _, _ => false
theorem Rep.flat {K : PySem.W.Frag} {W : Hp} {x : D} {v : V} (r : Rep K W x v) (h : flatD x = true) : flatV v = true := by cases r <;> first | rfl | (simp [flatD] at h)
theorem Reps.flat {K : PySem.W.Frag} {W : Hp} : ∀ {ds : List D} {vs : List V}, Reps K W ds vs → ds.all flatD = true → vs.all flatV = true
  | _, _, .nil, _ => rfl
  | _, _, .cons h r, e => by
    rw [List.all_cons, Bool.and_eq_true] at e ⊢
    exact ⟨h.flat e.1, Reps.flat r e.2⟩
theorem Rep.eqD {K : PySem.W.Frag} {W : Hp} {x y : D} {v u : V} (r : Rep K W x v) (q : Rep K W y u) (hx : flatD x = true) (hy : flatD y = true) : eqV v u = DL.eqD x y := by
  cases r <;> cases q <;> first | rfl | (simp [flatD] at hx) | (simp [flatD] at hy)
def inD (x : D) (ds : List D) : Bool := ds.any fun y => eqD y x
theorem inD_of {K : PySem.W.Frag} {W : Hp} {x : D} {v : V} (r : Rep K W x v) (hx : flatD x = true) : ∀ {ds : List D} {vs : List V}, Reps K W ds vs → ds.all flatD = true → inV v vs = inD x ds
  | _, _, .nil, _ => rfl
  | _, _, .cons h q, e => by
    rw [List.all_cons, Bool.and_eq_true] at e
    have ih := inD_of r hx q e.2
    unfold inV inD at *
    rw [List.any_cons, List.any_cons, ih, h.eqD r e.1 hx]
/-- flat things in a list or tuple; one sign in a text -/
def dInR (neg : Bool) : DR2 := fun x y G Q => match y with
  | .str z => ∃ c, x = .str ⟨#[c]⟩ ∧ Q (.bl (if neg then !decide (c ∈ z.cps.toList) else decide (c ∈ z.cps.toList))) G
  | y => match sqOf G y with
    | some ds => flatD x = true ∧ ds.all flatD = true ∧ Q (.bl (if neg then !inD x ds else inD x ds)) G
    | none => False
section
variable {X : Cx}
theorem in_flat {K : PySem.W.Frag} {H : Hp} {G : GHp} {Z : Addr → Bool} {x y : D} {v u : V} {neg : Bool} {Q : VK} {Q0 : DK} (ok : Ok K H G Z) (r1 : Rep K (U H G Z) x v) (r2 : Rep K (U H G Z) y u)
    (h : match sqOf G y with
      | some ds => flatD x = true ∧ ds.all flatD = true ∧ Q0 (.bl (if neg then !inD x ds else inD x ds)) G
      | none => False) (k : ∀ d G' v' H', Q0 d G' → Kp H G Z H' G' → Ok K H' G' Z → Rep K (U H' G' Z) d v' → Q v' H') : rIn K neg v u H Q := by
  have lst : (match lsOf G y with
      | some ds => flatD x = true ∧ ds.all flatD = true ∧ Q0 (.bl (if neg then !inD x ds else inD x ds)) G
      | none => False) → rIn K neg v u H Q := by
    intro h
    split at h
    · next ds e =>
      obtain ⟨a, vs, rfl, ha, ra⟩ := lsOf_of ok r2 e
      exact ⟨a, vs, rfl, .inl (SqL.of ha), r1.flat h.1, ra.flat h.2.1, k _ _ _ _ h.2.2 .refl ok (by rw [inD_of r1 h.1 ra h.2.1]; exact .bl _)⟩
    · exact h.elim
  cases r2 with
  | tup q s => exact ⟨_, _, rfl, .inr (SqT.mono U_le q), r1.flat h.1, s.flat h.2.1, k _ _ _ _ h.2.2 .refl ok (by rw [inD_of r1 h.1 s h.2.1]; exact .bl _)⟩
  | _ => exact lst h
theorem dop_in : DOp X (compareOp .In) (dInR false) :=
  OpR.imp (OpR.or op_in_sign op_in_seq) fun v u H Q ⟨x, y, G, Z, Q0, ok, r1, r2, h, k⟩ => by
    cases r2 with
    | str z =>
      obtain ⟨c, rfl, q⟩ := h
      cases r1
      exact .inl ⟨c, z, rfl, rfl, k _ _ _ _ q .refl ok (.bl _)⟩
    | non => exact .inr (in_flat ok r1 .non h k)
    | bl b => exact .inr (in_flat ok r1 (.bl b) h k)
    | int b => exact .inr (in_flat ok r1 (.int b) h k)
    | ty b => exact .inr (in_flat ok r1 (.ty b) h k)
    | scr q s => exact .inr (in_flat ok r1 (.scr q s) h k)
    | ref b => exact .inr (in_flat ok r1 (.ref b) h k)
    | tup q s => exact .inr (in_flat ok r1 (.tup q s) h k)
    | lst q s => exact .inr (in_flat ok r1 (.lst q s) h k)
theorem dop_notIn : DOp X (compareOp .NotIn) (dInR true) :=
  OpR.imp (OpR.or op_notIn_sign op_notIn_seq) fun v u H Q ⟨x, y, G, Z, Q0, ok, r1, r2, h, k⟩ => by
    cases r2 with
    | str z =>
      obtain ⟨c, rfl, q⟩ := h
      cases r1
      exact .inl ⟨c, z, rfl, rfl, k _ _ _ _ q .refl ok (.bl _)⟩
    | non => exact .inr (in_flat ok r1 .non h k)
    | bl b => exact .inr (in_flat ok r1 (.bl b) h k)
    | int b => exact .inr (in_flat ok r1 (.int b) h k)
    | ty b => exact .inr (in_flat ok r1 (.ty b) h k)
    | scr q s => exact .inr (in_flat ok r1 (.scr q s) h k)
    | ref b => exact .inr (in_flat ok r1 (.ref b) h k)
    | tup q s => exact .inr (in_flat ok r1 (.tup q s) h k)
    | lst q s => exact .inr (in_flat ok r1 (.lst q s) h k)
end

/-! ### methods of lists -/
abbrev DMt := D → List D → GHp → DK → Prop
def cMt (K : PySem.W.Frag) (r : DMt) : V → List V → Hp → VK → Prop := fun v us H Q => ∃ (x : D) (ds : List D) (G : GHp) (Z : Addr → Bool) (Q0 : DK), Ok K H G Z ∧ Rep K (U H G Z) x v ∧ Reps K (U H G Z) ds us ∧ r x ds G Q0 ∧
  ∀ d G' v' H', Q0 d G' → Kp H G Z H' G' → Ok K H' G' Z → Rep K (U H' G' Z) d v' → Q v' H'
theorem MtR.imp {X : Cx} {id : String} {r r' : V → List V → Hp → VK → Prop} (ho : MtR X id r) (h : ∀ x xs H Q, r' x xs H Q → r x xs H Q) : MtR X id r' := fun pins s σ H x xs v us Q I rx rs q => ho pins s σ H x xs v us Q I rx rs (h x xs H Q q)
/-- the receiver is a list -/
def dMtL (r : DMt) (to : DTE) (t : DTA) : DTE := fun δ G Q => to δ G fun x G1 => match lsOf G1 x with
  | some _ => t δ G1 fun ds G2 => r x ds G2 Q
  | none => False
section
variable {X : Cx} {o e : Expr} {es : List Expr} {to : DTE} {t : DTA} {name : Str} {apos cpos : Pos} {id : String} {r : DMt}
theorem de_mtL (slot : Slot "list" name id) (hty : typeOf (.builtin id) = pure (.type "method_descriptor")) (hm : MtR X id (cMt X.K r)) (ho : DE X o to) (ha : DA X (e :: es) t)
    (hbase : attributeBase o name X.env (eval o X.env) = eval o X.env := by rfl)
    (hfew : ((backTo cpos (starEach (e :: es) X.env)).all (fun x => !x.1) && (backToKw cpos (keywordEach [] X.env)).all (fun x => x.1.isSome)
      && decide ((e :: es).length + ([] : List Keyword).length + (if ([] : List Keyword).isEmpty then 0 else 1) < 30)) = true := by rfl)
    (hline : (apos.endLine == cpos.line) = true := by rfl) (hs : starEach (e :: es) X.env = (false, eval e X.env) :: starEach es X.env := by rfl) (hplain : (backTo cpos (starEach es X.env)).any (·.1) = false := by rfl) :
    DE X (.Call (.Attribute o name apos) (e :: es) [] cpos) (dMtL r to t) :=
  PE.mono (pe_bm PySem.F.plainAttrs_list slot hty hm ho ha hbase hfew hline hs hplain) fun σ H Q ⟨δ, G, Z, Q0, ok, rs, h, k⟩ =>
    ⟨δ, G, Z, _, ok, rs, h, fun x G1 v H1 h1 k1 ok1 r1 => by
      have h1 : (match lsOf G1 x with | some _ => t δ G1 fun ds G2 => r x ds G2 Q0 | none => False) := h1
      split at h1
      · next ds0 e =>
        obtain ⟨a, vs, rfl, ha, ra⟩ := lsOf_of ok1 r1 e
        exact ⟨.inl ⟨rfl, vs, SqL.of ha⟩, δ, G1, Z, _, ok1, rs.mono k1.keep, h1, fun ds G2 us H2 h2 k2 ok2 r2 => ⟨x, ds, G2, Z, Q0, ok2, r1.mono k2.keep, r2, h2, fun d G' v' H' q k3 ok3 r3 => k _ _ _ _ q (k1.trans (k2.trans k3)) ok3 r3⟩⟩
      · exact h1.elim⟩
theorem de_mtL0 (slot : Slot "list" name id) (hty : typeOf (.builtin id) = pure (.type "method_descriptor")) (hm : MtR X id (cMt X.K r)) (ho : DE X o to)
    (hbase : attributeBase o name X.env (eval o X.env) = eval o X.env := by rfl) (hline : (apos.endLine == cpos.line) = true := by rfl) : DE X (.Call (.Attribute o name apos) [] [] cpos) (dMtL r to dNil) :=
  PE.mono (pe_bm0 PySem.F.plainAttrs_list slot hty hm ho hbase hline) fun σ H Q ⟨δ, G, Z, Q0, ok, rs, h, k⟩ =>
    ⟨δ, G, Z, _, ok, rs, h, fun x G1 v H1 h1 k1 ok1 r1 => by
      have h1 : (match lsOf G1 x with | some _ => r x [] G1 Q0 | none => False) := h1
      split at h1
      · next ds0 e =>
        obtain ⟨a, vs, rfl, ha, ra⟩ := lsOf_of ok1 r1 e
        exact ⟨.inl ⟨rfl, vs, SqL.of ha⟩, x, [], G1, Z, Q0, ok1, r1, .nil, h1, fun d G' v' H' q k3 ok3 r3 => k _ _ _ _ q (k1.trans k3) ok3 r3⟩
      · exact h1.elim⟩
/-- the tracked list itself -/
def onL (x : D) (G : GHp) (f : Addr → List D → Prop) : Prop := match x with
  | .ref a => match G a with
    | some (.lst ds) => f a ds
    | _ => False
  | _ => False
theorem onL_inv {x : D} {G : GHp} {f : Addr → List D → Prop} (h : onL x G f) : ∃ a ds, x = .ref a ∧ G a = some (.lst ds) ∧ f a ds := by
  cases x with
  | ref a =>
    unfold onL at h
    simp only at h
    cases e : G a with
    | none => rw [e] at h; exact h.elim
    | some o =>
      rw [e] at h
      cases o with
      | lst ds => exact ⟨a, ds, rfl, e, h⟩
      | _ => exact h.elim
  | _ => exact False.elim h
theorem wrote_l {K : PySem.W.Frag} {H : Hp} {G : GHp} {Z : Addr → Bool} {a : Addr} {ds ds' : List D} {vs' : List V} (ok : Ok K H G Z) (e : G a = some (.lst ds)) (r : Reps K (U H G Z) ds' vs') :
    Kp H G Z (upd H a (.lst vs')) (gupd G a (.lst ds')) ∧ Ok K (upd H a (.lst vs')) (gupd G a (.lst ds')) Z := by
  have hz := (ok.ok a _ e).1
  have kk : Kp H G Z (upd H a (.lst vs')) (gupd G a (.lst ds')) := Kp.wrote e hz
  exact ⟨kk, ok.wrote e ⟨_, upd_same, r.mono kk.keep⟩⟩
def dAppend : DMt := fun x ds G Q => match ds with
  | [y] => onL x G fun a xs => xs.length < sizeLine ∧ Q .non (gupd G a (.lst (xs ++ [y])))
  | _ => False
theorem dmt_append : MtR X "list.append" (cMt X.K dAppend) :=
  MtR.imp mt_append fun v us H Q ⟨x, ds, G, Z, Q0, ok, r, rs, h, k⟩ => by
    rcases rs with _ | ⟨r1, rs⟩
    · exact False.elim h
    rcases rs with _ | ⟨r2, rs⟩
    · obtain ⟨a, xs, rfl, e, h1, h2⟩ := onL_inv h
      cases r
      obtain ⟨hz, vs, hv, rv⟩ := ok.ok a _ e
      obtain ⟨kk, ok'⟩ := wrote_l ok e (rv.append (.cons r1 .nil))
      exact ⟨a, vs, _, rfl, rfl, hv, by rw [← rv.length]; exact h1, k _ _ _ _ h2 kk ok' .non⟩
    · exact False.elim h
def dExtend : DMt := fun x ds G Q => match ds with
  | [y] => onL x G fun a xs => match lsOf G y with
    | some zs => xs.length + zs.length ≤ sizeLine ∧ Q .non (gupd G a (.lst (xs ++ zs)))
    | none => False
  | _ => False
theorem dmt_extend : MtR X "list.extend" (cMt X.K dExtend) :=
  MtR.imp mt_extend fun v us H Q ⟨x, ds, G, Z, Q0, ok, r, rs, h, k⟩ => by
    rcases rs with _ | ⟨r1, rs⟩
    · exact False.elim h
    rcases rs with _ | ⟨r2, rs⟩
    · obtain ⟨a, xs, rfl, e, h⟩ := onL_inv h
      split at h
      · next zs ez =>
        cases r
        obtain ⟨hz, vs, hv, rv⟩ := ok.ok a _ e
        obtain ⟨b, us, rfl, hb, rb⟩ := lsOf_of ok r1 ez
        obtain ⟨kk, ok'⟩ := wrote_l ok e (rv.append rb)
        exact ⟨a, b, vs, us, rfl, rfl, hv, hb, by rw [← rv.length, ← rb.length]; exact h.1, k _ _ _ _ h.2 kk ok' .non⟩
      · exact h.elim
    · exact False.elim h
/-- xs.pop(), xs.pop(i) -/
def dPop : DMt := fun x ds G Q => match ds with
  | [] => onL x G fun a xs => match xs[xs.length - 1]? with
    | some y => Q y (gupd G a (.lst xs.dropLast))
    | none => False
  | [.int i] => onL x G fun a xs => match ixN xs.length i with
    | some j => match xs[j]? with
      | some y => -(2 ^ 63) ≤ i ∧ i < 2 ^ 63 ∧ Q y (gupd G a (.lst (xs.eraseIdx j)))
      | none => False
    | none => False
  | _ => False
theorem Reps.eraseIdx {K : PySem.W.Frag} {W : Hp} : ∀ {ds : List D} {vs : List V} (i : Nat), Reps K W ds vs → Reps K W (ds.eraseIdx i) (vs.eraseIdx i)
  | _, _, _, .nil => .nil
  | _, _, 0, .cons h r => r
  | _, _, i + 1, .cons h r => .cons h (Reps.eraseIdx i r)
theorem Reps.dropLast {K : PySem.W.Frag} {W : Hp} {ds : List D} {vs : List V} (r : Reps K W ds vs) : Reps K W ds.dropLast vs.dropLast := by
  rw [List.dropLast_eq_take, List.dropLast_eq_take, r.length]
  exact r.take _
theorem dmt_pop : MtR X "list.pop" (cMt X.K dPop) :=
  MtR.imp (MtR.or mt_pop mt_popAt) fun v us H Q ⟨x, ds, G, Z, Q0, ok, r, rs, h, k⟩ => by
    rcases rs with _ | ⟨r1, rs⟩
    · obtain ⟨a, xs, rfl, e, h⟩ := onL_inv h
      split at h
      · next y ey =>
        cases r
        obtain ⟨hz, vs, hv, rv⟩ := ok.ok a _ e
        obtain ⟨w, e1, r1⟩ := rv.get ey
        obtain ⟨kk, ok'⟩ := wrote_l ok e rv.dropLast
        exact .inl ⟨a, vs, w, rfl, rfl, hv, by rw [← rv.length]; exact e1, k _ _ _ _ h kk ok' (r1.mono kk.keep)⟩
      · exact h.elim
    rcases rs with _ | ⟨r2, rs⟩
    · cases r1 with
      | int i =>
        obtain ⟨a, xs, rfl, e, h⟩ := onL_inv h
        split at h
        · next j ej =>
          split at h
          · next y ey =>
            cases r
            obtain ⟨hz, vs, hv, rv⟩ := ok.ok a _ e
            obtain ⟨w, e1, r1⟩ := rv.get ey
            obtain ⟨kk, ok'⟩ := wrote_l ok e (rv.eraseIdx j)
            obtain ⟨s1, s2, s3, s4⟩ := ixN_seq ej
            exact .inr ⟨a, vs, i, j, w, rfl, rfl, hv, h.1, h.2.1, by rw [← rv.length]; exact s1, e1, k _ _ _ _ h.2.2 kk ok' (r1.mono kk.keep)⟩
          · exact h.elim
        · exact h.elim
      | _ => exact False.elim h
    · cases r1 <;> exact False.elim h
def dReverse : DMt := fun x ds G Q => match ds with
  | [] => onL x G fun a xs => Q .non (gupd G a (.lst xs.reverse))
  | _ => False
theorem dmt_reverse : MtR X "list.reverse" (cMt X.K dReverse) :=
  MtR.imp mt_reverse fun v us H Q ⟨x, ds, G, Z, Q0, ok, r, rs, h, k⟩ => by
    rcases rs with _ | ⟨r1, rs⟩
    · obtain ⟨a, xs, rfl, e, h⟩ := onL_inv h
      cases r
      obtain ⟨hz, vs, hv, rv⟩ := ok.ok a _ e
      obtain ⟨kk, ok'⟩ := wrote_l ok e rv.reverse
      exact ⟨a, vs, rfl, rfl, hv, k _ _ _ _ h kk ok' .non⟩
    · exact False.elim h
def dClear : DMt := fun x ds G Q => match ds with
  | [] => onL x G fun a _ => Q .non (gupd G a (.lst []))
  | _ => False
theorem dmt_clear : MtR X "list.clear" (cMt X.K dClear) :=
  MtR.imp mt_clear fun v us H Q ⟨x, ds, G, Z, Q0, ok, r, rs, h, k⟩ => by
    rcases rs with _ | ⟨r1, rs⟩
    · obtain ⟨a, xs, rfl, e, h⟩ := onL_inv h
      cases r
      obtain ⟨hz, vs, hv, rv⟩ := ok.ok a _ e
      obtain ⟨kk, ok'⟩ := wrote_l ok e .nil
      exact ⟨a, vs, rfl, rfl, hv, k _ _ _ _ h kk ok' .non⟩
    · exact False.elim h
end
end DL
set_option Elab.async false
set_option linter.all false
set_option maxRecDepth 100000
set_option maxHeartbeats 1000000
/-! DL, part 6: keywords alone, more statements, defs by their number of parameters, the law's end. -/
namespace DL
open PySem PySem.Spec L2

/-! ### keywords -/
/-- the values in the parameters' order -/
def kperm {α : Type} (ix : List Nat) (us ws : List α) : List α := ix.filterMap fun i => (us ++ ws)[i]?
theorem Reps.pick {K : PySem.W.Frag} {W : Hp} {ds : List D} {vs : List V} (r : Reps K W ds vs) : ∀ ix : List Nat, Reps K W (ix.filterMap fun i => ds[i]?) (ix.filterMap fun i => vs[i]?)
  | [] => .nil
  | i :: ix => by
    have ih := Reps.pick r ix
    rw [List.filterMap_cons, List.filterMap_cons]
    cases e : ds[i]? with
    | none =>
      have e2 : vs[i]? = none := by
        rw [List.getElem?_eq_none_iff] at e ⊢
        rw [← r.length]; exact e
      rw [e2]; exact ih
    | some d =>
      obtain ⟨v, e2, r2⟩ := r.get e
      rw [e2]; exact .cons r2 ih
theorem Reps.kperm {K : PySem.W.Frag} {W : Hp} (ix : List Nat) {ds es : List D} {vs us : List V} (r : Reps K W ds vs) (q : Reps K W es us) : Reps K W (DL.kperm ix ds es) (DL.kperm ix vs us) := (r.append q).pick ix
theorem Vals.pick {vs : List V} {us : List Value} (r : Vals vs us) : ∀ ix : List Nat, Vals (ix.filterMap fun i => vs[i]?) (ix.filterMap fun i => us[i]?)
  | [] => .nil
  | i :: ix => by
    have ih := Vals.pick r ix
    rw [List.filterMap_cons, List.filterMap_cons]
    cases e : vs[i]? with
    | none => rw [r.none_of e]; exact ih
    | some d =>
      obtain ⟨v, e2, r2⟩ := r.get e
      rw [e2]; exact .cons r2 ih
/-- a plain def called with keywords -/
theorem kbn_of {K : PySem.W.Frag} {fd : FuncData} {ps ks : List Str} {n : Nat} (ix : List Nat) (h : ∀ (s : Shared) (us ws : List Value), us.length = n → ws.length = ks.length → BindsTo s fd ⟨us, ks.zip ws⟩ (ps.zip (kperm ix us ws))) : KBn K fd ps n ks (kperm ix) (kperm ix) :=
  ⟨fun s us ws _ h1 h2 => h s us ws h1 h2, fun r z => Vals.pick (Vals.append r z) ix⟩
section
variable {X : Cx} {CX : CXT} {k : Nat} {f C : Addr} {fd : FuncData} {ps ks : List Str} {E : XK} {x m : Str} {p pos apos : Pos} {e o : Expr} {es : List Expr} {kws : List Keyword}
theorem pe_callN0 {sp : Sp} {tk : TA} {g : List Value → List Value → List Value} {gV : List V → List V → List V} (F : FnOk X.prog X.w X.K X.mg X.base CX k f fd ps sp) (hr : Room k X.A) (hg : Gl X x) (hm : X.mg x = some (.ref f)) (hk : PySem.W.keepIn X.K (.ref f) = true) (hb : KBn X.K fd ps 0 ks g gV) (hx : Passes CX X E)
    (hkw : PK X kws tk) (hall : (backToKw pos (keywordEach kws X.env)).all (·.1.isSome) = true := by rfl) (hks : (backToKw pos (keywordEach kws X.env)).filterMap (·.1) = ks := by rfl)
    (hdb : (x == ("__debug__" : Str)) = false := by decide) (hpl : ((backTo pos (starEach [] X.env)).any (·.1) || (backToKw pos (keywordEach kws X.env)).any (·.1.isNone)) = false := by rfl) :
    PE X (.Call (.Name x p) [] kws pos) (fun σ H Q => tk σ H fun zs H2 => zs.length = ks.length ∧ sp (gV [] zs) H2 Q E) := by
  constructor
  intro pins s σ H Q I h
  apply wpAny_Call_Name_kw
  apply ld_glob I hg hm _ hdb
  apply PySem.W.callWith_KW0 (h₀ := X.base) I.ok.mod.kin hk hall _ hpl
  refine thn (hkw.run pos pins s σ H _ I h) fun ws s2 ⟨zs, H2, I2, rz, l2, q2⟩ => ⟨I2.kIn, ?_⟩
  rw [hks]
  exact run_fnN (us := []) F hr hb hx I2 .nil rz rfl l2 q2
theorem de_callN0 {sp : DSp} {tk : DTA} {g : List Value → List Value → List Value} {gV : List V → List V → List V} {gD : List D → List D → List D} (F : FnOk X.prog X.w X.K X.mg X.base CX k f fd ps (cSp X.K sp)) (hr : Room k X.A) (hg : Gl X x) (hm : X.mg x = some (.ref f)) (hk : PySem.W.keepIn X.K (.ref f) = true) (hb : KBn X.K fd ps 0 ks g gV)
    (hgD : ∀ W ds vs es us, Reps X.K W ds vs → Reps X.K W es us → Reps X.K W (gD ds es) (gV vs us)) (hx : Passes CX X E)
    (hkw : DKw X kws tk) (hall : (backToKw pos (keywordEach kws X.env)).all (·.1.isSome) = true := by rfl) (hks : (backToKw pos (keywordEach kws X.env)).filterMap (·.1) = ks := by rfl)
    (hdb : (x == ("__debug__" : Str)) = false := by decide) (hpl : ((backTo pos (starEach [] X.env)).any (·.1) || (backToKw pos (keywordEach kws X.env)).any (·.1.isNone)) = false := by rfl) :
    DE X (.Call (.Name x p) [] kws pos) (dCallN 0 ks.length sp gD dNil tk) :=
  PE.mono (pe_callN0 F hr hg hm hk hb hx hkw hall hks hdb hpl) fun σ H Q ⟨δ, G, Z, Q0, ok, rs, h, k⟩ =>
    ⟨δ, G, Z, _, ok, rs, h, fun es G2 us H2 h2 k2 ok2 r2 => ⟨r2.length.symm.trans h2.2.1, _, G2, Z, Q0, _, ok2, hgD _ _ _ _ _ .nil r2, h2.2.2, fun d G' v H' q k3 ok3 r3 => k _ _ _ _ q (k2.trans k3) ok3 r3, .none⟩⟩
end

/-! ### more statements -/
section
variable {X : Cx} {e : Expr} {te : DTE} {pos : Pos}
/-- name op= e -/
def dAug (i : Nat) (te : DTE) (r : DR2) : DTS := fun D δ G => match δ[i]? with
  | some (some x) => te δ G fun y G1 => r x y G1 fun z G2 => D.nx (δ.set i (some z)) G2
  | _ => False
theorem ds_aug {i : Nat} {x : Str} {op : Operator} {r : DR2} {pos' : Pos} (hN : X.N.Nodup) (hi : X.N[i]? = some x) (hx : Loc X.env.scope x) (he : DE X e te) (ho : DOp X (inplaceOp op) r) (hf : X.fn x = true ∨ X.env.scope.names.lookup x = some .local := by first | exact .inl rfl | exact .inr rfl | assumption) :
    DS X W (.AugAssign (.Name x pos') op e pos) (dAug i te r) :=
  PS.mono (ps_aug hN hi hx he (show PIp X op (cR2 X.K r) from ho) hf) fun E σ H ⟨δ, G, Z, D0, ok, rs, h, l⟩ => by
    unfold dAug at h
    split at h
    · next d ed =>
      obtain ⟨v, ev, rv⟩ := rs.get ed
      exact ⟨v, ev, δ, G, Z, _, ok, rs, h, fun y G1 u H1 h1 k1 ok1 r1 => ⟨d, y, G1, Z, _, ok1, rv.mono k1.keep, r1, h1, fun z G2 w H2 h2 k2 ok2 r2 => l.nx _ _ _ _ h2 (k1.trans k2) ok2 ((rs.mono (k1.trans k2).keep).set r2 i)⟩⟩
    · exact h.elim
/-- a, b, c = x, y, z -/
def dPar3 (i j l : Nat) (ta : DTA) : DTS := fun D δ G => ta δ G fun ds G1 => match ds with
  | [u, v, w] => D.nx (((δ.set i (some u)).set j (some v)).set l (some w)) G1
  | _ => False
theorem ds_par3 {i j l : Nat} {x y z : Str} {a b c : Expr} {ta : DTA} {px py pz pt : Pos} {kt k2 pt2} (hc : X.calm = true) (hN : X.N.Nodup) (hi : X.N[i]? = some x) (hj : X.N[j]? = some y) (hl : X.N[l]? = some z) (hij : i ≠ j) (hil : i ≠ l) (hjl : j ≠ l)
    (hx : X.env.scope.names.lookup x = some .local) (hy : X.env.scope.names.lookup y = some .local) (hz : X.env.scope.names.lookup z = some .local) (ha : DA X [a, b, c] ta)
    (hw : swappedStores [.Tuple [.Name x px, .Name y py, .Name z pz] kt pt] (.Tuple [a, b, c] k2 pt2) X.env = pure (some [x, y, z]))
    (hs : swapsWithSole [.Tuple [.Name x px, .Name y py, .Name z pz] kt pt] (.Tuple [a, b, c] k2 pt2) pos.line X.env = pure false := by rfl) :
    DS X W (.Assign [.Tuple [.Name x px, .Name y py, .Name z pz] kt pt] (.Tuple [a, b, c] k2 pt2) pos) (dPar3 i j l ta) :=
  PS.mono (ps_par3 hc hN hi hj hl hij hil hjl hx hy hz ha hw hs) fun E σ H ⟨δ, G, Z, D0, ok, rs, h, l⟩ =>
    ⟨δ, G, Z, _, ok, rs, h, fun ds G1 vs H1 h1 k1 ok1 r1 => by
      rcases r1 with _ | ⟨ra, r1⟩
      · exact False.elim h1
      rcases r1 with _ | ⟨rb, r1⟩
      · exact False.elim h1
      rcases r1 with _ | ⟨rc, r1⟩
      · exact False.elim h1
      rcases r1 with _ | ⟨rd, r1⟩
      · exact ⟨_, _, _, rfl, l.nx _ _ _ _ h1 k1 ok1 ((((rs.mono k1.keep).set ra _).set rb _).set rc _)⟩
      · exact False.elim h1⟩
/-- list(range(..)) -/
def dListRg1 (m : Bool) (ta : DTE) : DTE := fun δ G Q => ta δ G fun x G1 => match x with
  | .int n => RgOk 0 n ∧ lcEnd m (rngD 0 n.toNat) G1 Q
  | _ => False
def dListRg2 (m : Bool) (ta tb : DTE) : DTE := fun δ G Q => ta δ G fun x G1 => tb δ G1 fun y G2 => match x, y with
  | .int i, .int j => RgOk i j ∧ lcEnd m (rngD i (j - i).toNat) G2 Q
  | _, _ => False
theorem rg_rep {K : PySem.W.Frag} {W : Hp} (a b : Int) : Reps K W (rngD a (b - a).toNat) (rgV a b) := by
  unfold rngD rgV
  have e1 : (List.range (b - a).toNat).map (fun (i : Nat) => D.int (a + i)) = ((List.range (b - a).toNat).map fun (i : Nat) => (a + i : Int)).map D.int := by rw [List.map_map]; rfl
  have e2 : (List.range (b - a).toNat).map (fun (i : Nat) => V.int (a + i)) = ((List.range (b - a).toNat).map fun (i : Nat) => (a + i : Int)).map V.int := by rw [List.map_map]; rfl
  rw [e1, e2]
  exact Reps.of_ints _
theorem de_listRg1 (m : Bool) {a : Expr} {ta : DTE} {p p2 pos2 : Pos} (hc : X.calm = true) (hg : Gl X "list") (hm : X.mg "list" = none) (hg2 : Gl X "range") (hm2 : X.mg "range" = none) (ha : DE X a ta)
    (na : starEach [a] X.env = (false, eval a X.env) :: starEach [] X.env := by rfl) (nl : starEach [Expr.Call (.Name "range" p2) [a] [] pos2] X.env = (false, eval (.Call (.Name "range" p2) [a] [] pos2) X.env) :: starEach [] X.env := by rfl) :
    DE X (.Call (.Name "list" p) [.Call (.Name "range" p2) [a] [] pos2] [] pos) (dListRg1 m ta) :=
  PE.mono (pe_listRg hc hg hm (prg_1 hg2 hm2 ha na) nl) fun σ H Q ⟨δ, G, Z, Q0, ok, rs, h, k⟩ =>
    ⟨δ, G, Z, _, ok, rs, h, fun x G1 v H1 h1 k1 ok1 r1 => by
      cases r1 with
      | int n =>
        have h1 : RgOk 0 n ∧ lcEnd m (rngD 0 n.toNat) G1 Q0 := h1
        refine ⟨n, rfl, h1.1, fun q hq => lcEnd_of (m := m) ok1 hq (rg_rep 0 n) ?_ fun d G' v' H' q k2 ok2 r2 => k _ _ _ _ q (k1.trans k2) ok2 r2⟩
        rw [show (n - 0) = n by omega]
        exact h1.2
      | _ => exact False.elim h1⟩
theorem de_listRg2 (m : Bool) {a b : Expr} {ta tb : DTE} {p p2 pos2 : Pos} (hc : X.calm = true) (hg : Gl X "list") (hm : X.mg "list" = none) (hg2 : Gl X "range") (hm2 : X.mg "range" = none) (ha : DE X a ta) (hb : DE X b tb)
    (na : starEach [a, b] X.env = (false, eval a X.env) :: starEach [b] X.env := by rfl) (nb : starEach [b] X.env = (false, eval b X.env) :: starEach [] X.env := by rfl) (hp : (backTo pos2 (starEach [b] X.env)).any (·.1) = false := by rfl)
    (nl : starEach [Expr.Call (.Name "range" p2) [a, b] [] pos2] X.env = (false, eval (.Call (.Name "range" p2) [a, b] [] pos2) X.env) :: starEach [] X.env := by rfl) :
    DE X (.Call (.Name "list" p) [.Call (.Name "range" p2) [a, b] [] pos2] [] pos) (dListRg2 m ta tb) :=
  PE.mono (pe_listRg hc hg hm (prg_2 hg2 hm2 ha hb na nb hp) nl) fun σ H Q ⟨δ, G, Z, Q0, ok, rs, h, k⟩ =>
    ⟨δ, G, Z, _, ok, rs, h, fun x G1 v H1 h1 k1 ok1 r1 => ⟨δ, G1, Z, _, ok1, rs.mono k1.keep, h1, fun y G2 u H2 h2 k2 ok2 r2 => by
      cases r1 with
      | int i =>
        cases r2 with
        | int j => exact ⟨i, j, rfl, rfl, h2.1, fun q hq => lcEnd_of ok2 hq (rg_rep i j) h2.2 fun d G' v' H' q k3 ok3 r3 => k _ _ _ _ q (k1.trans (k2.trans k3)) ok3 r3⟩
        | _ => exact False.elim h2
      | _ => cases r2 <;> exact False.elim h2⟩⟩
/-- str(n) -/
def dStrR (x : D) (G : GHp) (Q : DK) : Prop := match x with
  | .int i => i.natAbs.log2 < 1920 ∧ Q (.str (toString i)) G
  | _ => False
theorem dcall_str : DCall X (.type "str") (dR1 dStrR) :=
  dcall1 call_str_int fun x v H G Z Q Q0 ok r h k => by
    cases r with
    | int i => exact ⟨i, rfl, h.1, k _ _ _ _ h.2 .refl ok (.str _)⟩
    | _ => exact False.elim h
/-- sep.join(a list of texts) -/
def strsOf : List D → Option (List Str)
  | [] => some []
  | .str i :: r => (strsOf r).map (i :: ·)
  | _ :: _ => none
theorem strsOf_map : ∀ ns : List Str, strsOf (ns.map D.str) = some ns
  | [] => rfl
  | n :: r => by simp [strsOf, strsOf_map r]
theorem strsOf_eq : ∀ {ds : List D} {ns : List Str}, strsOf ds = some ns → ds = ns.map D.str
  | [], ns, e => by simp [strsOf] at e; subst e; rfl
  | d :: r, ns, e => by
    cases d with
    | str i =>
      simp only [strsOf] at e
      cases q : strsOf r with
      | none => rw [q] at e; simp at e
      | some ms =>
        rw [q] at e
        simp at e
        subst e
        rw [List.map_cons, ← strsOf_eq q]
    | _ => simp [strsOf] at e
def dJoin (to te : DTE) : DTE := fun δ G Q => to δ G fun x G1 => match x with
  | .str a => te δ G1 fun y G2 => match (lsOf G2 y).bind strsOf with
    | some ys => (ys.map (·.length)).sum + ys.length * a.length ≤ 16777216 ∧ Q (.str (Txt.join a ys)) G2
    | none => False
  | _ => False
theorem de_join {o : Expr} {to : DTE} {apos : Pos} (ho : DE X o to) (he : DE X e te) (hs : starEach [e] X.env = [(false, eval e X.env)] := by rfl) (hbase : attributeBase o "join" X.env (eval o X.env) = eval o X.env := by rfl) (hline : (apos.endLine == pos.line) = true := by rfl) :
    DE X (.Call (.Attribute o "join" apos) [e] [] pos) (dJoin to te) :=
  PE.mono (pe_join ho he hs hbase hline) fun σ H Q ⟨δ, G, Z, Q0, ok, rs, h, k⟩ =>
    ⟨δ, G, Z, _, ok, rs, h, fun x G1 v H1 h1 k1 ok1 r1 => by
      cases r1 with
      | str a =>
        refine ⟨⟨a, rfl⟩, δ, G1, Z, _, ok1, rs.mono k1.keep, h1, fun y G2 u H2 h2 k2 ok2 r2 => ?_⟩
        have h2 : (match (lsOf G2 y).bind strsOf with
          | some ys => (ys.map (·.length)).sum + ys.length * a.length ≤ 16777216 ∧ Q0 (.str (Txt.join a ys)) G2
          | none => False) := h2
        split at h2
        · next ys e =>
          cases el : lsOf G2 y with
          | none => rw [el] at e; simp at e
          | some ds =>
            rw [el] at e
            simp only [Option.bind_some] at e
            obtain ⟨b, vs, rfl, hb, rb⟩ := lsOf_of ok2 r2 el
            rw [strsOf_eq e] at rb
            exact ⟨a, b, ys, rfl, rfl, .inl (SqL.of (by rw [hb, rb.strs])), h2.1, k _ _ _ _ h2.2 (k1.trans k2) ok2 (.str _)⟩
        · exact h2.elim
      | _ => exact False.elim h1⟩
end

/-! ### defs by their number of parameters -/
def sp0 (p : GHp → DK → DXK → Prop) : DSp := fun ds G Q E => match ds with
  | [] => p G Q E
  | _ => False
def sp1 (p : D → GHp → DK → DXK → Prop) : DSp := fun ds G Q E => match ds with
  | [a] => p a G Q E
  | _ => False
def sp2 (p : D → D → GHp → DK → DXK → Prop) : DSp := fun ds G Q E => match ds with
  | [a, b] => p a b G Q E
  | _ => False
def sp3 (p : D → D → D → GHp → DK → DXK → Prop) : DSp := fun ds G Q E => match ds with
  | [a, b, c] => p a b c G Q E
  | _ => False
def sp4 (p : D → D → D → D → GHp → DK → DXK → Prop) : DSp := fun ds G Q E => match ds with
  | [a, b, c, d] => p a b c d G Q E
  | _ => False
def sp5 (p : D → D → D → D → D → GHp → DK → DXK → Prop) : DSp := fun ds G Q E => match ds with
  | [a, b, c, d, e] => p a b c d e G Q E
  | _ => False
/-- where a body starts: the parameters, then no values -/
abbrev DRun (t : DTS) (δ : DSt) (G : GHp) (Q : DK) : Prop := t { nx := fun _ G' => Q .non G', rt := Q } δ G
section
variable {P : Program} {w : World} {K : PySem.W.Frag} {mg : Str → Option Value} {base : Heap} {x qual : Str} {st : Stmt} {f : Addr} {fd : FuncData} {N ps : List Str} {k : Nat} {t : DTS} {l : DSt} {dv : List V} {kv : List (Str × V)}
abbrev Der (P : Program) (w : World) (K : PySem.W.Frag) (mg : Str → Option Value) (base : Heap) (N : List Str) (qual : Str) (st : Stmt) (f : Addr) (k : Nat) (t : DTS) : Prop :=
  ∀ (cdv : Value) (A : Around) (outer : List Env) (s : Shared) (H : Hp) (E : XK), Room k (A.deeper (PyProof.Rows.envOfC qual (defScope st) s.heap.objs.size f cdv)) → DSs (cxOf CX0 P w K mg base N qual (defScope st) f cdv A outer s H E).nox W0 (defBody st) t
theorem DFunD.ok {sp : DSp} (F : FunD K x qual (defArgs st) (defBody st) (defScope st) dv kv f fd) (S : FnScope N ps (defScope st)) (len : ∀ ds G Q E, sp ds G Q E → ds.length = ps.length)
    (hbody : ∀ (cdv : Value) (A : Around) (outer : List Env) (s : Shared) (H : Hp) (E : XK) (ds : List D) (G : GHp) (Q : DK) (E0 : DXK), Room k (A.deeper (PyProof.Rows.envOfC qual (defScope st) s.heap.objs.size f cdv)) → sp ds G Q E0 →
      ∃ t, DSs (cxOf CX0 P w K mg base N qual (defScope st) f cdv A outer s H E).nox W0 (defBody st) t ∧ t { nx := fun _ G' => Q .non G', rt := Q } (dstart N ds) G) : FnOk P w K mg base CX0 (k + 1) f fd ps (cSp K sp) := by
  refine F.ok S (fun vs H Q E ⟨ds, G, Z, Q0, E0, ok, rs, h, k, x⟩ => rs.length.symm.trans (len _ _ _ _ h)) fun cdv A outer s H vs Q E hr ⟨ds, G, Z, Q0, E0, ok, rs, h, k, x⟩ => ?_
  obtain ⟨t, d, q⟩ := hbody cdv A outer s H E ds G Q0 E0 hr h
  exact ⟨_, PSs.nox d, _, G, Z, _, ok, RepSt.start rs, q, ⟨fun δ' G' σ' H' q k1 ok1 _ => k _ _ _ _ q k1 ok1 .non, fun _ _ _ _ q => q.elim, fun _ _ _ _ q => q.elim, fun d G' v H' q k1 ok1 r1 => k _ _ _ _ q k1 ok1 r1, fun _ _ _ _ _ q => q.elim, fun _ _ _ _ _ _ _ _ q => q.elim⟩⟩
theorem DFun.ok0 {p : GHp → DK → DXK → Prop} (F : FunD K x qual (defArgs st) (defBody st) (defScope st) dv kv f fd) (S : FnScope N ps (defScope st)) (hp : ps.length = 0) (hl : List.replicate (N.length - 0) none = l) (d : Der P w K mg base N qual st f k t) (rd : ∀ G Q E, p G Q E → DRun t l G Q) :
    FnOk P w K mg base CX0 (k + 1) f fd ps (cSp K (sp0 p)) :=
  DFunD.ok F S (fun ds G Q E h => by
    match ds, h with
    | [], _ => exact hp.symm) fun cdv A outer s H E ds G Q E0 hr h => by
    match ds, h with
    | [], h => exact ⟨t, d cdv A outer s H E hr, by subst hl; exact rd G Q E0 h⟩
theorem DFun.ok1 {p : D → GHp → DK → DXK → Prop} (F : FunD K x qual (defArgs st) (defBody st) (defScope st) dv kv f fd) (S : FnScope N ps (defScope st)) (hp : ps.length = 1) (hl : List.replicate (N.length - 1) none = l) (d : Der P w K mg base N qual st f k t) (rd : ∀ a G Q E, p a G Q E → DRun t (some a :: l) G Q) :
    FnOk P w K mg base CX0 (k + 1) f fd ps (cSp K (sp1 p)) :=
  DFunD.ok F S (fun ds G Q E h => by
    match ds, h with
    | [_], _ => exact hp.symm) fun cdv A outer s H E ds G Q E0 hr h => by
    match ds, h with
    | [a], h => exact ⟨t, d cdv A outer s H E hr, by subst hl; exact rd a G Q E0 h⟩
theorem DFun.ok2 {p : D → D → GHp → DK → DXK → Prop} (F : FunD K x qual (defArgs st) (defBody st) (defScope st) dv kv f fd) (S : FnScope N ps (defScope st)) (hp : ps.length = 2) (hl : List.replicate (N.length - 2) none = l) (d : Der P w K mg base N qual st f k t) (rd : ∀ a b G Q E, p a b G Q E → DRun t (some a :: some b :: l) G Q) :
    FnOk P w K mg base CX0 (k + 1) f fd ps (cSp K (sp2 p)) :=
  DFunD.ok F S (fun ds G Q E h => by
    match ds, h with
    | [_, _], _ => exact hp.symm) fun cdv A outer s H E ds G Q E0 hr h => by
    match ds, h with
    | [a, b], h => exact ⟨t, d cdv A outer s H E hr, by subst hl; exact rd a b G Q E0 h⟩
theorem DFun.ok3 {p : D → D → D → GHp → DK → DXK → Prop} (F : FunD K x qual (defArgs st) (defBody st) (defScope st) dv kv f fd) (S : FnScope N ps (defScope st)) (hp : ps.length = 3) (hl : List.replicate (N.length - 3) none = l) (d : Der P w K mg base N qual st f k t) (rd : ∀ a b c G Q E, p a b c G Q E → DRun t (some a :: some b :: some c :: l) G Q) :
    FnOk P w K mg base CX0 (k + 1) f fd ps (cSp K (sp3 p)) :=
  DFunD.ok F S (fun ds G Q E h => by
    match ds, h with
    | [_, _, _], _ => exact hp.symm) fun cdv A outer s H E ds G Q E0 hr h => by
    match ds, h with
    | [a, b, c], h => exact ⟨t, d cdv A outer s H E hr, by subst hl; exact rd a b c G Q E0 h⟩
theorem DFun.ok4 {p : D → D → D → D → GHp → DK → DXK → Prop} (F : FunD K x qual (defArgs st) (defBody st) (defScope st) dv kv f fd) (S : FnScope N ps (defScope st)) (hp : ps.length = 4) (hl : List.replicate (N.length - 4) none = l) (d : Der P w K mg base N qual st f k t) (rd : ∀ a b c e G Q E, p a b c e G Q E → DRun t (some a :: some b :: some c :: some e :: l) G Q) :
    FnOk P w K mg base CX0 (k + 1) f fd ps (cSp K (sp4 p)) :=
  DFunD.ok F S (fun ds G Q E h => by
    match ds, h with
    | [_, _, _, _], _ => exact hp.symm) fun cdv A outer s H E ds G Q E0 hr h => by
    match ds, h with
    | [a, b, c, e], h => exact ⟨t, d cdv A outer s H E hr, by subst hl; exact rd a b c e G Q E0 h⟩
theorem DFun.ok5 {p : D → D → D → D → D → GHp → DK → DXK → Prop} (F : FunD K x qual (defArgs st) (defBody st) (defScope st) dv kv f fd) (S : FnScope N ps (defScope st)) (hp : ps.length = 5) (hl : List.replicate (N.length - 5) none = l) (d : Der P w K mg base N qual st f k t) (rd : ∀ a b c e g G Q E, p a b c e g G Q E → DRun t (some a :: some b :: some c :: some e :: some g :: l) G Q) :
    FnOk P w K mg base CX0 (k + 1) f fd ps (cSp K (sp5 p)) :=
  DFunD.ok F S (fun ds G Q E h => by
    match ds, h with
    | [_, _, _, _, _], _ => exact hp.symm) fun cdv A outer s H E ds G Q E0 hr h => by
    match ds, h with
    | [a, b, c, e, g], h => exact ⟨t, d cdv A outer s H E hr, by subst hl; exact rd a b c e g G Q E0 h⟩
end
/-- a def of the text: its address, what stands at its name, how its arguments bind -/
structure FnT (K : PySem.W.Frag) (mg : Str → Option Value) (name : Str) (st : Stmt) (ps : List Str) where
  f : Addr
  fd : FuncData
  F : FunD K name name (defArgs st) (defBody st) (defScope st) [] [] f fd
  m : mg name = some (.ref f)
  b : Binds K fd ps []

/-- a plain def called with keywords -/
theorem kb_of_fun {K : PySem.W.Frag} {x qual : Str} {params : Arguments} {body : List Stmt} {scope : Scope} {f : Addr} {fd : FuncData} {ps ks : List Str} {n : Nat} (F : FunD K x qual params body scope [] [] f fd) (ix : List Nat)
    (h : ∀ (kV doc pm : Value) (an : Option Addr) (cdv ct : Value) (us ws : List Value), us.length = n → ws.length = ks.length → bindArgs (PySem.W.fnOf x qual params body scope .none kV doc pm an cdv ct) ⟨us, ks.zip ws⟩ = pure (ps.zip (kperm ix us ws))) : KBn K fd ps n ks (kperm ix) (kperm ix) := by
  obtain ⟨oc, od, dV, kV, doc, pm, an, cdv, ct, osl, rfl, _, _, hd, _⟩ := F.ex
  have e : dV = .none := by
    rcases hd with ⟨_, e⟩ | ⟨e, _⟩
    · exact e
    · exact absurd rfl e
  subst e
  exact kbn_of ix fun s us ws h1 h2 => .of_eq (h kV doc pm an cdv ct us ws h1 h2)

/-! ### the law -/
/-- the law's promise: at every script of at most n ints, each of at most 2 ^ 20 bits, it returns True -/
def spLaw (n : Nat) : DSp := sp1 fun a G Q _ => ∃ ns : List Int, a = .scr (ns.map .int) ∧ ns.length ≤ n ∧ (∀ z ∈ ns, Builtin.Int.intBits z ≤ 1048576) ∧ (∀ a, G a = none) ∧ Q (.bl true) G
theorem law_sp {K : PySem.W.Frag} {H : Hp} {a : Addr} {ns : List Int} {n : Nat} (hn : ns.length ≤ n) (hb : ∀ z ∈ ns, Builtin.Int.intBits z ≤ 1048576) (hs : SqL K H a (ns.map V.int)) :
    cSp K (spLaw n) [.ref a] H (fun v _ => v = .bl true) (fun _ _ _ => False) := by
  refine ⟨[.scr (ns.map .int)], fun _ => none, fun _ => false, fun d _ => d = .bl true, DX0, ⟨fun _ _ e => (nomatch e), fun _ e => (nomatch e)⟩, .cons (.scr (SqL.mono (fun b o e => U_of rfl rfl e) hs) (Reps.of_ints _)) .nil, ⟨ns, rfl, hn, hb, fun _ => rfl, rfl⟩, fun d G' v H' q _ _ r => ?_, .none⟩
  subst q
  cases r
  rfl
theorem walk_law {l : PySem.W.OpenLaw} {n k : Nat} {q : Program} {loose : List Str} {XP : (Str → Option Value) → Heap → Prop} {YP : World → Heap → Prop} {d : DefRec} {K : Params → PySem.W.Frag} {x : Str}
    (hn : l.most = some n) (hn2 : n ≤ sizeLine) (hdf : d.params.defaults = []) (hr : Room k callerA)
    (hY : ∀ (w : World) (h : Heap), YP w h → (K w.params).In h)
    (F : ∀ (w : World) (mg : Str → Option Value) (fa : Addr) (h : Heap), (K w.params).In h → h.Ns mainGlobals mg → mg d.name = some (.ref fa) →
      ∃ fd : FuncData, (∀ (s : Shared) (u : Value), BindsTo s fd ⟨[u], []⟩ [(x, u)]) ∧
        ∀ base : Heap, (K w.params).In base → base.Ns mainGlobals mg → FnOk l.prog w (K w.params) mg base CX0 k fa fd [x] (cSp (K w.params) (spLaw n))) :
    PySem.W.WalkO q loose XP YP l.row.toRowW d [] (fun f vs => PySem.call f vs) :=
  walk_ofB hn hn2 hdf hr hY F (fun w H a ns hl hb _ hS => law_sp hl hb hS) fun _ _ _ _ _ z => z
theorem walk_lawE {l : PySem.W.OpenLaw} {n k : Nat} {q : Program} {loose : List Str} {XP : (Str → Option Value) → Heap → Prop} {YP : World → Heap → Prop} {d : DefRec} {x : Str}
    (hn : l.most = some n) (hn2 : n ≤ sizeLine) (hdf : d.params.defaults = []) (hr : Room k callerA)
    (F : ∀ (w : World) (mg : Str → Option Value) (fa : Addr) (h : Heap), YP w h → h.Ns mainGlobals mg → mg d.name = some (.ref fa) →
      ∃ (K : PySem.W.Frag) (fd : FuncData), K.In h ∧ (∀ (s : Shared) (u : Value), BindsTo s fd ⟨[u], []⟩ [(x, u)]) ∧ ∀ base : Heap, K.In base → base.Ns mainGlobals mg → FnOk l.prog w K mg base CX0 k fa fd [x] (cSp K (spLaw n))) :
    PySem.W.WalkO q loose XP YP l.row.toRowW d [] (fun f vs => PySem.call f vs) := by
  apply Att.attach_callB hn hdf
  intro w s₀ s₁ mg mb fa o pm cd doc a vs ns g y ho hd hcd hmg hobj hints hlen hbits hg
  obtain ⟨K, fd, KX, hb, hF⟩ := F w mg fa _ y g.T.g hmg
  exact law_call KX g.T.g g.T.b g.T.builtins g.T.nolimit hg hobj hints (Nat.le_trans hlen hn2) hr hF hb (fun H _ hS => law_sp hlen hbits hS) fun _ _ _ z => z
end DL
set_option Elab.async false
set_option linter.all false
set_option maxRecDepth 100000
set_option maxHeartbeats 1000000
/-! DL, part 7: how readings are shown: loops by what remains, the small heap, trees, the law's draws. -/
namespace DL
open PySem PySem.Spec L2

/-! ### loops -/
theorem for_ind {gd : Gd} {g : Tgt} {tb : DTS} {E : DEnds} {α : Type} {enc : α → D} (I : List α → DSt → GHp → Prop) (hd : ∀ δ G, I [] δ G → gd.ok G ∧ E.nx δ G)
    (hs : ∀ x r δ G, I (x :: r) δ G → gd.ok G ∧ ∃ δ', g.set (enc x) δ = some δ' ∧ ∀ N : DSt → GHp → Prop, (∀ δ G, I r δ G → N δ G) → tb { E with nx := N, ct := N, bk := E.nx } δ' G) :
    ∀ (xs : List α) (δ : DSt) (G : GHp), I xs δ G → dForL gd g tb (xs.map enc) E δ G
  | [], δ, G, h => hd δ G h
  | x :: r, δ, G, h => by
    obtain ⟨h1, δ', e, h2⟩ := hs x r δ G h
    refine ⟨h1, ?_⟩
    rw [e]
    exact h2 _ fun δ G q => for_ind I hd hs r δ G q
theorem while_ind {c : DTT} {tb : DTS} {E : DEnds} {δ : DSt} {G : GHp} (I : Nat → DSt → GHp → Prop) (n : Nat) (h0 : I n δ G)
    (hs : ∀ n δ G, I n δ G → ∀ N : DSt → GHp → Prop, (∀ m δ G, m < n → I m δ G → N δ G) → c δ G fun b G1 => dIte b (tb { E with nx := N, ct := N, bk := E.nx } δ G1) (E.nx δ G1)) : dWhile c tb E δ G := by
  refine ⟨n + 1, ?_⟩
  have key : ∀ n m δ G, m ≤ n → I m δ G → dWhN c tb (n + 1) E δ G := by
    intro n
    induction n with
    | zero =>
      intro m δ G hm h
      exact hs m δ G h _ fun k δ G hk _ => absurd hk (by omega)
    | succ n ih =>
      intro m δ G hm h
      exact hs m δ G h _ fun k δ G hk q => ih k δ G (by omega) q
  exact key n n δ G (Nat.le_refl _) h0
theorem lc_ind {m : Bool} {gd : Gd} {g : Tgt} {tt : DTT} {te : DTE} {δw : DSt} {Q : DK} {α : Type} {enc : α → D} (I : List α → List D → GHp → Prop) (hd : ∀ acc G, I [] acc G → gd.ok G ∧ lcEnd m acc G Q)
    (hs : ∀ x r acc G, I (x :: r) acc G → gd.ok G ∧ ∃ δ', g.set (enc x) δw = some δ' ∧ ∀ N : List D → GHp → Prop, (∀ acc G, I r acc G → N acc G) →
      tt δ' G fun b G1 => dIte b (te δ' G1 fun y G2 => acc.length < sizeLine ∧ N (acc ++ [y]) G2) (N acc G1)) :
    ∀ (xs : List α) (acc : List D) (G : GHp), I xs acc G → dLcL m gd g tt te δw (xs.map enc) acc G Q
  | [], acc, G, h => hd acc G h
  | x :: r, acc, G, h => by
    obtain ⟨h1, δ', e, h2⟩ := hs x r acc G h
    refine ⟨h1, ?_⟩
    rw [e]
    exact h2 _ fun acc G q => lc_ind I hd hs r acc G q
/-- te gives v, and leaves all as it is -/
def Ev (te : DTE) (δ : DSt) (G : GHp) (v : D) : Prop := ∀ R : DK, R v G → te δ G R
def EvT (t : DTT) (δ : DSt) (G : GHp) (b : Bool) : Prop := ∀ R : Bool → GHp → Prop, R b G → t δ G R
theorem evT_yes {δ : DSt} {G : GHp} : EvT dYes δ G true := fun _ h => h
/-- a comprehension that changes nothing -/
theorem lc_map {m : Bool} {gd : Gd} {i : Nat} {tt : DTT} {te : DTE} {δw : DSt} {G : GHp} {Q : DK} {α : Type} {enc : α → D} {keep : α → Bool} {f : α → D} {xs : List α} (hz : xs.length ≤ sizeLine) (hg : gd.ok G)
    (ht : ∀ x ∈ xs, EvT tt (δw.set i (some (enc x))) G (keep x)) (he : ∀ x ∈ xs, keep x = true → Ev te (δw.set i (some (enc x))) G (f x)) (h : lcEnd m ((xs.filter keep).map f) G Q) :
    dLcL m gd (.nm i) tt te δw (xs.map enc) [] G Q := by
  refine lc_ind (fun r acc G' => G' = G ∧ ∃ pre, xs = pre ++ r ∧ acc = (pre.filter keep).map f) ?_ ?_ xs [] G ⟨rfl, [], rfl, rfl⟩
  · rintro acc _ ⟨rfl, pre, e, rfl⟩
    rw [List.append_nil] at e
    subst e
    exact ⟨hg, h⟩
  · rintro x r acc _ ⟨rfl, pre, e, rfl⟩
    refine ⟨hg, _, rfl, fun N hN => ?_⟩
    have hx : x ∈ xs := by rw [e]; simp
    refine ht x hx _ ⟨fun hk => ?_, fun hk => ?_⟩
    · refine he x hx hk _ ⟨?_, hN _ _ ⟨rfl, pre ++ [x], by rw [e]; simp, ?_⟩⟩
      · have h1 : ((pre.filter keep).map f).length ≤ pre.length := by rw [List.length_map]; exact List.length_filter_le _ _
        have h2 : xs.length = pre.length + (r.length + 1) := by rw [e]; simp
        omega
      · rw [List.filter_append, List.map_append]
        simp [hk]
    · refine hN _ _ ⟨rfl, pre ++ [x], by rw [e]; simp, ?_⟩
      rw [List.filter_append, List.map_append]
      simp [hk]

/-! ### the small heap -/
theorem gne {G : GHp} {p q : Addr} {o : GO} (h : G q = some o) (h' : G p = none) : q ≠ p := fun e => by rw [e, h'] at h; cases h
theorem lsOf_ref {G : GHp} {p : Addr} {ds : List D} (h : G p = some (.lst ds)) : lsOf G (.ref p) = some ds := by unfold lsOf; simp only [h]
theorem lsOf_lst {G : GHp} {ds : List D} : lsOf G (.lst ds) = some ds := rfl
theorem pdOf_ref {G : GHp} {p : Addr} {ds : List D} (h : G p = some (.lst ds)) : pdOf G (.ref p) = (D.dataL ds).map .list := by unfold pdOf; simp only [h]
theorem gupd_at {G : GHp} {a b : Addr} {o u : GO} (h : b ≠ a) (q : G b = some u) : gupd G a o b = some u := (gupd_ne h).trans q
theorem gupd_none {G : GHp} {a b : Addr} {o : GO} (h : gupd G a o b = none) : b ≠ a ∧ G b = none := by
  by_cases e : b = a
  · subst e; rw [gupd_same] at h; cases h
  · exact ⟨e, by rw [gupd_ne e] at h; exact h⟩
theorem gupd_comm {G : GHp} {a b : Addr} {o u : GO} (h : a ≠ b) : gupd (gupd G a o) b u = gupd (gupd G b u) a o := by
  funext c; unfold gupd
  by_cases e1 : c = a
  · by_cases e2 : c = b
    · exact absurd (e1.symm.trans e2) h
    · simp [e1, h]
  · by_cases e2 : c = b
    · subst e2; simp [e1]
    · simp [e1, e2]
/-- what was tracked at p is tracked no more -/
def gdel (G : GHp) (p : Addr) : GHp := fun b => if b = p then none else G b
theorem gdel_gupd {G : GHp} {p : Addr} {o : GO} (h : G p = none) : gdel (gupd G p o) p = G := by
  funext b; unfold gdel gupd
  split
  · next e => rw [e, h]
  · rfl
theorem gdel_ne {G : GHp} {p b : Addr} (h : b ≠ p) : gdel G p b = G b := by unfold gdel; rw [if_neg h]
theorem gdel_same {G : GHp} {p : Addr} : gdel G p p = none := by unfold gdel; rw [if_pos rfl]

/-! ### trees: lists at the addresses in S become trees -/
mutual
inductive Tree (G : GHp) (S : Addr → Prop) : D → D → Prop
  | same (d : D) : Tree G S d d
  | ref {a : Addr} {ds ts : List D} : S a → G a = some (.lst ds) → Trees G S ds ts → Tree G S (.ref a) (.lst ts)
  | tup {ds ts : List D} : Trees G S ds ts → Tree G S (.tup ds) (.tup ts)
  | lst {ds ts : List D} : Trees G S ds ts → Tree G S (.lst ds) (.lst ts)
inductive Trees (G : GHp) (S : Addr → Prop) : List D → List D → Prop
  | nil : Trees G S [] []
  | cons {d t : D} {ds ts : List D} : Tree G S d t → Trees G S ds ts → Trees G S (d :: ds) (t :: ts)
end
theorem Trees.same {G : GHp} {S : Addr → Prop} : ∀ ds : List D, Trees G S ds ds
  | [] => .nil
  | d :: r => .cons (.same d) (Trees.same r)
theorem Trees.append {G : GHp} {S : Addr → Prop} : ∀ {ds ts es us : List D}, Trees G S ds ts → Trees G S es us → Trees G S (ds ++ es) (ts ++ us)
  | _, _, _, _, .nil, q => q
  | _, _, _, _, .cons h r, q => .cons h (Trees.append r q)
theorem Trees.length {G : GHp} {S : Addr → Prop} : ∀ {ds ts : List D}, Trees G S ds ts → ds.length = ts.length
  | _, _, .nil => rfl
  | _, _, .cons h r => by simp [Trees.length r]
theorem Trees.get {G : GHp} {S : Addr → Prop} : ∀ {ds ts : List D} {i : Nat} {d : D}, Trees G S ds ts → ds[i]? = some d → ∃ t, ts[i]? = some t ∧ Tree G S d t
  | _, _, 0, d, .cons h r, e => by
    simp at e; subst e; exact ⟨_, rfl, h⟩
  | _, _, i + 1, d, .cons h r, e => by
    obtain ⟨v, h1, h2⟩ := Trees.get (i := i) (d := d) r (by simpa using e)
    exact ⟨v, by simpa using h1, h2⟩
theorem Trees.get' {G : GHp} {S : Addr → Prop} : ∀ {ds ts : List D} {i : Nat} {t : D}, Trees G S ds ts → ts[i]? = some t → ∃ d, ds[i]? = some d ∧ Tree G S d t
  | _, _, 0, d, .cons h r, e => by
    simp at e; subst e; exact ⟨_, rfl, h⟩
  | _, _, i + 1, d, .cons h r, e => by
    obtain ⟨v, h1, h2⟩ := Trees.get' (i := i) (t := d) r (by simpa using e)
    exact ⟨v, by simpa using h1, h2⟩
section
variable {K : PySem.W.Frag} {H : Hp} {G G' : GHp} {Z : Addr → Bool} {S : Addr → Prop}
mutual
theorem Tree.rep (ok : Ok K H G Z) (k : ∀ a o, U H G Z a = some o → U H G' Z a = some o) (hS : ∀ a, S a → G' a = none) : ∀ {d t : D} {v : V}, Tree G S d t → Rep K (U H G Z) d v → Rep K (U H G' Z) t v
  | _, _, _, .same d, r => r.mono k
  | _, _, _, .ref (a := a) hs hg ts, r => by
    cases r
    obtain ⟨hz, xs, hx, rx⟩ := ok.ok a _ hg
    exact .lst (U_of (hS a hs) hz hx) (Trees.rep ok k hS ts rx)
  | _, _, _, .tup ts, r => by
    cases r with
    | tup q rr => exact .tup (SqT.mono k q) (Trees.rep ok k hS ts rr)
  | _, _, _, .lst ts, r => by
    cases r with
    | lst q rr => exact .lst (k _ _ q) (Trees.rep ok k hS ts rr)
theorem Trees.rep (ok : Ok K H G Z) (k : ∀ a o, U H G Z a = some o → U H G' Z a = some o) (hS : ∀ a, S a → G' a = none) : ∀ {ds ts : List D} {vs : List V}, Trees G S ds ts → Reps K (U H G Z) ds vs → Reps K (U H G' Z) ts vs
  | _, _, _, .nil, r => by cases r; exact .nil
  | _, _, _, .cons h q, r => by
    cases r with
    | cons r rr => exact .cons (Tree.rep ok k hS h r) (Trees.rep ok k hS q rr)
end
end
/-- slots told by trees, or forgotten -/
inductive TreeO (G : GHp) (S : Addr → Prop) : Option D → Option D → Prop
  | no (o : Option D) : TreeO G S o none
  | so {d t : D} : Tree G S d t → TreeO G S (some d) (some t)
abbrev TreeSt (G : GHp) (S : Addr → Prop) (δ δ' : DSt) : Prop := Paired (TreeO G S) δ δ'
theorem TreeSt.same {G : GHp} {S : Addr → Prop} : ∀ δ : DSt, TreeSt G S δ δ
  | [] => .nil
  | none :: r => .cons (.no _) (TreeSt.same r)
  | some d :: r => .cons (.so (.same d)) (TreeSt.same r)
theorem TreeSt.set {G : GHp} {S : Addr → Prop} {d t : D} (q : Tree G S d t) : ∀ {δ : DSt} {i : Nat}, δ[i]? = some (some d) → TreeSt G S δ (δ.set i (some t))
  | [], i, e => by simp at e
  | o :: r, 0, e => by
    simp at e; subst e
    exact .cons (.so q) (TreeSt.same r)
  | o :: r, i + 1, e => by
    have ih := TreeSt.set q (δ := r) (i := i) (by simpa using e)
    refine .cons ?_ ih
    cases o with
    | none => exact .no _
    | some d => exact .so (.same d)
/-- THE GHOST: the lists at S become trees; of the others those that G' tells stay tracked, with trees in them -/
theorem View.tree {K : PySem.W.Frag} {δ δ' : DSt} {G G' : GHp} (S : Addr → Prop) (hS : ∀ a, S a → G' a = none) (hG : ∀ a o, G' a = some o → G a = some o ∨ ∃ ds ts, G a = some (.lst ds) ∧ o = .lst ts ∧ Trees G S ds ts) (hd : TreeSt G S δ δ') : View K δ G δ' G' := by
  intro H Z σ ok rs
  have none_of : ∀ a, G a = none → G' a = none := fun a e => by
    cases e' : G' a with
    | none => rfl
    | some o =>
      rcases hG a o e' with q | ⟨ds, ts, q, _⟩ <;> (rw [e] at q; cases q)
  have k : ∀ a o, U H G Z a = some o → U H G' Z a = some o := fun a o e => by
    obtain ⟨e1, e2, e3⟩ := U_some e
    exact U_of (none_of a e1) e2 e3
  refine ⟨⟨k, fun _ _ _ e => e⟩, ⟨fun a o e => ?_, ok.hid⟩, ?_⟩
  · rcases hG a o e with q | ⟨ds, ts, q, rfl, tr⟩
    · obtain ⟨z, g⟩ := ok.ok a o q
      exact ⟨z, g.mono k rfl⟩
    · obtain ⟨z, xs, hx, rx⟩ := ok.ok a _ q
      exact ⟨z, xs, hx, Trees.rep ok k hS tr rx⟩
  · have key : ∀ {δ δ' : DSt} {σ : L2.St}, TreeSt G S δ δ' → RepSt K (U H G Z) δ σ → RepSt K (U H G' Z) δ' σ := by
      intro δ δ' σ h
      induction h generalizing σ with
      | nil => intro r; cases r; exact .nil
      | cons q t ih =>
        intro r
        cases r with
        | cons r1 r2 =>
          refine .cons ?_ (ih r2)
          cases q with
          | no o => exact .no _
          | so q =>
            cases r1 with
            | so r1 => exact .so (Tree.rep ok k hS q r1)
    exact key hd rs
theorem View.refl {K : PySem.W.Frag} {δ : DSt} {G : GHp} : View K δ G δ G := fun H Z σ ok rs => ⟨.refl, ok, rs⟩

/-- a tracked list is tracked no more -/
theorem View.forget {K : PySem.W.Frag} {δ : DSt} {G : GHp} {q : Addr} {o : GO} (h : G q = none) : View K δ (gupd G q o) δ G :=
  View.tree (fun a => a = q) (fun a e => by rw [e]; exact h) (fun a u e => .inl (by rw [gupd_ne (fun e2 => by rw [e2, h] at e; cases e)]; exact e)) (TreeSt.same δ)
/-! ### places in lists -/
theorem atI_of_lt {α : Type} {xs : List α} {i : Int} (h0 : 0 ≤ i) (h1 : i < xs.length) : atI xs i = xs[i.toNat]? := by
  unfold atI ixN
  rw [if_pos h0, if_pos h1]
  rfl
theorem atD_of {ds : List D} {i : Int} {Q : D → Prop} (h0 : 0 ≤ i) (h1 : i < ds.length) (h : ∀ d ∈ ds, Q d) : atD ds i Q := by
  unfold atD
  rw [atI_of_lt h0 h1]
  have hl : i.toNat < ds.length := by omega
  rw [List.getElem?_eq_getElem hl]
  exact h _ (List.getElem_mem hl)
theorem atD_get {ds : List D} {i : Int} {d : D} {Q : D → Prop} (h0 : 0 ≤ i) (h1 : i < ds.length) (e : ds[i.toNat]? = some d) (h : Q d) : atD ds i Q := by
  unfold atD
  rw [atI_of_lt h0 h1, e]
  exact h
theorem atD_nat {ds : List D} {i : Nat} {d : D} {Q : D → Prop} (e : ds[i]? = some d) (h : Q d) : atD ds (i : Int) Q := by
  have hl := (List.getElem?_eq_some_iff.mp e).1
  exact atD_get (by omega) (by omega) (by simpa using e) h
theorem atI_neg1 {α : Type} {xs : List α} (h : xs ≠ []) : atI xs (-1) = some (xs.getLast h) := by
  have hl : 0 < xs.length := List.length_pos_iff.mpr h
  unfold atI ixN
  rw [if_neg (by omega), if_pos (by omega)]
  have e : ((-1 : Int) + (xs.length : Int)).toNat = xs.length - 1 := by omega
  show xs[((-1 : Int) + (xs.length : Int)).toNat]? = _
  rw [e, List.getLast_eq_getElem, List.getElem?_eq_getElem]
theorem atD_last {ds : List D} {d : D} {Q : D → Prop} (h : Q d) : atD (ds ++ [d]) (-1) Q := by
  unfold atD
  rw [atI_neg1 (by simp)]
  simpa using h

/-! ### a law's draws: a box of three numbers -/
structure Bx where
  a : Int
  b : Int
  c : Int
def Bx.go (s : Bx) : GO := .lst [.int s.a, .int s.b, .int s.c]
structure Bx.Ok (s : Bx) (k : Nat) : Prop where
  a0 : 0 ≤ s.a
  b0 : 0 ≤ s.b
  b1 : s.b < 2147483648
  c0 : 0 ≤ s.c
  c1 : s.c ≤ k
theorem Bx.Ok.mono {s : Bx} {j k : Nat} (h : s.Ok j) (hk : j ≤ k) : s.Ok k := ⟨h.a0, h.b0, h.b1, h.c0, by have := h.c1; omega⟩
/-- box, many: any number below many is drawn -/
def spTake : DSp := sp2 fun x m G Q _ => ∃ (p : Addr) (s : Bx) (k : Nat) (n : Int), x = .ref p ∧ G p = some s.go ∧ s.Ok k ∧ k < 2 ^ 30 ∧ m = .int n ∧ 0 < n ∧ n.natAbs < 2 ^ 1000 ∧
  ∀ (v : Int) (s' : Bx), 0 ≤ v → v < n → s'.Ok (k + 1) → Q (.int v) (gupd G p s'.go)
/-- a new box -/
def spBox : DSp := sp1 fun x G Q _ => ∃ z : Int, x = .int z ∧ ∀ (p : Addr) (s : Bx), G p = none → s.Ok 0 → Q (.ref p) (gupd G p s.go)
/-- the k-th number of the script, or one that is made up -/
def spCell : DSp := sp2 fun x m G Q _ => ∃ (ns : List Int) (k : Int), x = .scr (ns.map .int) ∧ m = .int k ∧ 0 ≤ k ∧ k < 2 ^ 40 ∧ ∀ z : Int, Q (.int z) G
end DL
set_option Elab.async false
set_option linter.all false
set_option maxRecDepth 100000
set_option maxHeartbeats 1000000
/-! DL, part 8: max, min, sorted of tuples of ints, too. -/
namespace DL
open PySem PySem.Spec L2 PyProof.Rows

section
variable {prog : Program} {w : World} {A : Around} {E : Value → Shared → Prop} {s : Shared} {l : Addr}
theorem best_gtT {xs : Array (Int × Tok)} {Q : Value → Shared → Prop} (hh : A.handled = none) (hl : s.heap.IsTuple l (intItems xs)) (hne : 0 < xs.size)
    (h : ∀ v h' tk, (intItems xs)[argBest (fun i j => decide (numAt xs i > numAt xs j)) (xs.size - 1)]? = some v → (∀ b o, s.heap.get? b = some o → h'.get? b = some o) → Q v { s with heap := h', toks := tk }) :
    wpAny (model prog w) A (call (.builtin "max") [.ref l]) Q E s := by
  have hlt : l < s.heap.objs.size := by obtain ⟨_, e, _⟩ := hl; exact Heap.lt_size e
  refine call_max_walk (wpAny_pyIter_tuple hl ?_)
  refine ⟨_, _, _, _, _, _, _, rfl, Walks.tuple (A := A.in1) hh _ l (Nat.ne_of_lt hlt) (intItems xs), ⟨⟨_, Heap.get?_push_size _ rfl, rfl, rfl⟩, hl.push _⟩, fun b hb => ?_, by simpa [intItems] using hne, CmpOf.ints_gt (numAt xs) (fun _ _ => intItems_at), fun v h' tk hP hk => ?_⟩
  · show b < (s.heap.push _).objs.size
    rw [Heap.size_push]
    simp only [List.mem_cons, List.not_mem_nil, or_false] at hb
    rcases hb with rfl | rfl
    · exact Nat.lt_succ_self _
    · exact Nat.lt_succ_of_lt hlt
  · refine h v h' tk (by simpa [intItems] using hP) fun b o e => hk b o (fun hm => ?_) (Heap.get?_push_of_some _ e)
    simp only [List.mem_cons, List.not_mem_nil, or_false] at hm
    exact absurd (hm ▸ Heap.lt_size e) (Nat.lt_irrefl _)
theorem best_ltT {xs : Array (Int × Tok)} {Q : Value → Shared → Prop} (hh : A.handled = none) (hl : s.heap.IsTuple l (intItems xs)) (hne : 0 < xs.size)
    (h : ∀ v h' tk, (intItems xs)[argBest (fun i j => decide (numAt xs i < numAt xs j)) (xs.size - 1)]? = some v → (∀ b o, s.heap.get? b = some o → h'.get? b = some o) → Q v { s with heap := h', toks := tk }) :
    wpAny (model prog w) A (call (.builtin "min") [.ref l]) Q E s := by
  have hlt : l < s.heap.objs.size := by obtain ⟨_, e, _⟩ := hl; exact Heap.lt_size e
  refine call_min_walk (wpAny_pyIter_tuple hl ?_)
  refine ⟨_, _, _, _, _, _, _, rfl, Walks.tuple (A := A.in1) hh _ l (Nat.ne_of_lt hlt) (intItems xs), ⟨⟨_, Heap.get?_push_size _ rfl, rfl, rfl⟩, hl.push _⟩, fun b hb => ?_, by simpa [intItems] using hne, CmpOf.ints_lt (numAt xs) (fun _ _ => intItems_at), fun v h' tk hP hk => ?_⟩
  · show b < (s.heap.push _).objs.size
    rw [Heap.size_push]
    simp only [List.mem_cons, List.not_mem_nil, or_false] at hb
    rcases hb with rfl | rfl
    · exact Nat.lt_succ_self _
    · exact Nat.lt_succ_of_lt hlt
  · refine h v h' tk (by simpa [intItems] using hP) fun b o e => hk b o (fun hm => ?_) (Heap.get?_push_of_some _ e)
    simp only [List.mem_cons, List.not_mem_nil, or_false] at hm
    exact absurd (hm ▸ Heap.lt_size e) (Nat.lt_irrefl _)
variable {its : List Value} {ns : List Int} {Q : Value → Shared → Prop}
theorem max_rawT (hh : A.handled = none) (hl : s.heap.IsTuple l its.toArray) (hi : IntsAre its ns) (hne : ns ≠ [])
    (h : ∀ h' tk t', (∀ b o, s.heap.get? b = some o → h'.get? b = some o) → Q (.int (maxI ns) t') { s with heap := h', toks := tk }) : wpAny (model prog w) A (call (.builtin "max") [.ref l]) Q E s := by
  obtain ⟨xs, e⟩ := hi.allInts.items
  have hn : numsOf (intItems xs).toList = ns := by rw [← e]; exact hi.numsOf
  rw [nums_intItems] at hn
  subst hn
  rw [e] at hl
  have hsz : 0 < xs.size := by
    have := List.length_pos_iff.mpr hne
    simpa using this
  refine best_gtT hh hl hsz fun v h' tk hv hk => ?_
  obtain ⟨t, rfl⟩ := intItems_at hv
  obtain ⟨h1, h2⟩ := argBest_gt (numAt xs) (xs.size - 1)
  have e : numAt xs (argBest (fun i j => decide (numAt xs i > numAt xs j)) (xs.size - 1)) = maxI (List.map (fun x => x.fst) xs.toList) := by
    have h3 := maxI_mem hne
    have h4 : numAt xs (argBest (fun i j => decide (numAt xs i > numAt xs j)) (xs.size - 1)) ∈ List.map (fun x => x.fst) xs.toList := by
      rw [numAt_eq]; exact PySem.getD_mem (by rw [List.length_map, Array.length_toList]; omega)
    have h5 := h3.2 _ h4
    obtain ⟨j, hj, ej⟩ := mem_getD h3.1
    rw [List.length_map, Array.length_toList] at hj
    have h6 := h2 j (by omega)
    rw [numAt_eq] at h6
    have : maxI (List.map (fun x => x.fst) xs.toList) ≤ numAt xs (argBest (fun i j => decide (numAt xs i > numAt xs j)) (xs.size - 1)) := by rw [← ej]; exact h6
    omega
  rw [e]
  exact h h' tk t hk
theorem min_rawT (hh : A.handled = none) (hl : s.heap.IsTuple l its.toArray) (hi : IntsAre its ns) (hne : ns ≠ [])
    (h : ∀ h' tk t', (∀ b o, s.heap.get? b = some o → h'.get? b = some o) → Q (.int (minI ns) t') { s with heap := h', toks := tk }) : wpAny (model prog w) A (call (.builtin "min") [.ref l]) Q E s := by
  obtain ⟨xs, e⟩ := hi.allInts.items
  have hn : numsOf (intItems xs).toList = ns := by rw [← e]; exact hi.numsOf
  rw [nums_intItems] at hn
  subst hn
  rw [e] at hl
  have hsz : 0 < xs.size := by
    have := List.length_pos_iff.mpr hne
    simpa using this
  refine best_ltT hh hl hsz fun v h' tk hv hk => ?_
  obtain ⟨t, rfl⟩ := intItems_at hv
  obtain ⟨h1, h2⟩ := argBest_lt (numAt xs) (xs.size - 1)
  have e : numAt xs (argBest (fun i j => decide (numAt xs i < numAt xs j)) (xs.size - 1)) = minI (List.map (fun x => x.fst) xs.toList) := by
    have h3 := minI_mem hne
    have h4 : numAt xs (argBest (fun i j => decide (numAt xs i < numAt xs j)) (xs.size - 1)) ∈ List.map (fun x => x.fst) xs.toList := by
      rw [numAt_eq]; exact PySem.getD_mem (by rw [List.length_map, Array.length_toList]; omega)
    have h5 := h3.2 _ h4
    obtain ⟨j, hj, ej⟩ := mem_getD h3.1
    rw [List.length_map, Array.length_toList] at hj
    have h6 := h2 j (by omega)
    rw [numAt_eq xs j] at h6
    have : numAt xs (argBest (fun i j => decide (numAt xs i < numAt xs j)) (xs.size - 1)) ≤ minI (List.map (fun x => x.fst) xs.toList) := by rw [← ej]; exact h6
    omega
  rw [e]
  exact h h' tk t hk
theorem gatherT {vs : List Value} {Q : List Value → Shared → Prop} (hl : s.heap.IsTuple l vs.toArray)
    (h : Q vs { s with heap := (s.heap.push (seqObj "list" #[] 0)).update s.heap.objs.size (Obj.mapSeq (· ++ vs.toArray)) }) (hz : vs.length ≤ sizeLine) :
    wpAny (model prog w) A (collect (.ref l)) Q E s := by
  obtain ⟨o, ho, hc, n, hd⟩ := id hl
  unfold collect
  refine wpAny_bind (wpAny_runValue (codeAny_builtin PyProof.Rows.entry_proto_collect' ?_))
  show wpAny _ _ (do again (.builtin "list.__iadd__" ⟨[← newList [], .ref l], []⟩)) _ _ s
  refine wpAny_bind (wpAny_newList (wpAny_pure ⟨Code.quiet_builtin _ (by decide +kernel), codeAny_builtin PyProof.Rows.entry_list_iadd' ?_⟩))
  show wpAny _ _ (Builtin.List.listExtendWith (.ref s.heap.objs.size) (.ref l) (.ref s.heap.objs.size)) _ _ { s with heap := s.heap.push (seqObj "list" #[] 0) }
  unfold Builtin.List.listExtendWith
  have ho' : (s.heap.push (seqObj "list" #[] 0)).get? l = some o := Heap.get?_push_of_some _ ho
  refine wpAny_bind (wpAny_typeOf (T := "tuple") ⟨o, ho', hc⟩ ?_)
  rw [if_pos (by have ht : (Value.type "tuple" == Value.type "tuple") = true := by rfl
                 rw [ht]; simp)]
  refine wpAny_bind (PyProof.Rows.listItems_at ho' hd ?_)
  refine wpAny_bind (PyProof.Rows.listItems_at (xs := #[]) (n := 0) (Heap.get?_push_size _ rfl) rfl ?_)
  rw [if_neg (by simp)]
  refine wpAny_bind (PyProof.Rows.listUpdate_at (xs := #[]) (n := 0) (Heap.get?_push_size _ rfl) rfl ?_ (Nat.zero_le _) (by show (#[] ++ vs.toArray).size ≤ sizeLine + 1; simp only [Array.size_append, List.size_toArray, List.length_nil]; omega))
  refine wpAny_pure ?_
  show wpAny (model prog w) A (do
      let o ← load s.heap.objs.size
      match o.data with
      | .seq xs _ => pure xs.toList
      | _ => unsupported "internal:collect") Q E { s with heap := (s.heap.push (seqObj "list" #[] 0)).update s.heap.objs.size (Obj.mapSeq (· ++ vs.toArray)) }
  refine wpAny_bind (wpAny_load (PyProof.Rows.get?_update_seq (Heap.get?_push_size _ rfl) _) ?_)
  show wpAny _ _ (pure ((#[] : Array Value) ++ vs.toArray).toList) Q E _
  rw [show ((#[] : Array Value) ++ vs.toArray).toList = vs by simp]
  exact wpAny_pure h
open PyProof.Rows in
theorem sortedT {vs : List Value} {ltv : Value → Value → Bool} {Q : Value → Shared → Prop} (O : SrtO.Swo ltv) (hl : s.heap.IsTuple l vs.toArray) (hz : vs.length ≤ sizeLine)
    (hS : 2 ≤ vs.length → ∀ (h₁ : Heap) (a : Addr), SrtO.SortableO prog w A.in1.in1 { s with heap := h₁ } a vs ltv)
    (h : ∀ out : List Value, SrtO.Srtd ltv out → SrtO.Stb ltv out vs → Q (.ref (s.heap.objs.size + 1)) { s with heap := sortedAll s.heap vs out.toArray }) :
    wpAny (model prog w) A (call (.builtin "sorted") [.ref l]) Q E s := by
  refine Calls.call_function_entry kind_sorted plain_sorted entry_sorted (args_sorted1 _) ?_
  unfold Builtin.«sorted»
  refine wpAny_bind (m := checkCount "sorted" 1 1 _) (wpAny_pure ?_)
  refine wpAny_bind (gatherT hl ?_ hz)
  refine wpAny_bind (wpAny_newList ?_ hz)
  have hsz : ((s.heap.push (seqObj "list" #[] 0)).update s.heap.objs.size (Obj.mapSeq (· ++ vs.toArray))).objs.size = s.heap.objs.size + 1 := by
    rw [Heap.size_update, Heap.size_push]
  have hoL : (((s.heap.push (seqObj "list" #[] 0)).update s.heap.objs.size (Obj.mapSeq (· ++ vs.toArray))).push (seqObj "list" vs.toArray 0)).get? (s.heap.objs.size + 1) = some (seqObj "list" vs.toArray 0) := by
    rw [← hsz]; exact Heap.get?_push_size _ rfl
  show wpAny _ _ _ _ _ { s with heap := ((s.heap.push (seqObj "list" #[] 0)).update s.heap.objs.size (Obj.mapSeq (· ++ vs.toArray))).push (seqObj "list" vs.toArray 0) }
  rw [hsz]
  refine wpAny_bind (wpAny_holding (wpAny_call_entry slot_list_sort ⟨_, hoL, rfl⟩ entry_list_sort (SrtO.list_sort_ord O hoL hz (fun h2 => hS h2 _ _) fun out hs hb => ⟨_, rfl, ?_⟩) (args_list_sort _)))
  exact wpAny_pure ⟨_, rfl, h out hs hb⟩
end

section
variable {X : Cx}
theorem cr_maxT (hc : X.calm = true) : CallR X (.builtin "max") (fun vs H Q => ∃ (a : Addr) (ns : List Int), vs = [V.ref a] ∧ SqT X.K H a (ns.map V.int) ∧ ns ≠ [] ∧ Q (.int (maxI ns)) H) := by
  intro pins s σ H vs us Q I r h
  obtain ⟨a, ns, rfl, hs, hne, q⟩ := h
  obtain ⟨its, rv, hl, _⟩ := I.tuple hs
  rw [Vals.ref1 r]
  exact max_rawT (I.ok.hd hc) hl rv.ints hne fun h' tk t' hk => ⟨.int _, H, I.kept hk, ⟨_, rfl⟩, q⟩
theorem cr_minT (hc : X.calm = true) : CallR X (.builtin "min") (fun vs H Q => ∃ (a : Addr) (ns : List Int), vs = [V.ref a] ∧ SqT X.K H a (ns.map V.int) ∧ ns ≠ [] ∧ Q (.int (minI ns)) H) := by
  intro pins s σ H vs us Q I r h
  obtain ⟨a, ns, rfl, hs, hne, q⟩ := h
  obtain ⟨its, rv, hl, _⟩ := I.tuple hs
  rw [Vals.ref1 r]
  exact min_rawT (I.ok.hd hc) hl rv.ints hne fun h' tk t' hk => ⟨.int _, H, I.kept hk, ⟨_, rfl⟩, q⟩
theorem cr_sortedT : CallR X (.builtin "sorted") (fun vs H Q => ∃ (a : Addr) (ns : List Int), vs = [V.ref a] ∧ SqT X.K H a (ns.map V.int) ∧
    ∀ (ns' : List Int) (p : Addr), ns'.Perm ns → ns'.Pairwise (· ≤ ·) → H p = none → Q (.ref p) (upd H p (.lst (ns'.map V.int)))) := by
  intro pins s σ H vs us Q I r h
  obtain ⟨a, ns, rfl, hs, q⟩ := h
  obtain ⟨its, rv, hl, hz⟩ := I.tuple hs
  rw [Vals.ref1 r]
  have hi := rv.ints
  refine sortedT SrtO.swo_int hl (by rw [← rv.length]; exact hz) (fun h2 h₁ a' => SrtO.ints_sortable hi h2) fun out h1 h2 => ?_
  obtain ⟨k1, k2, k3⟩ := SrtO.ints_out hi h1 h2
  obtain ⟨ep, he'⟩ := PyProof.Rows.sortedAll_at s.heap its out.toArray
  have hlen : ((out.map SrtO.iv).map V.int).length ≤ sizeLine := by
    rw [List.length_map, k2.length_eq]
    rw [List.length_map] at hz
    exact hz
  exact ⟨.ref _, upd H (s.heap.objs.size + 1) (.lst ((out.map SrtO.iv).map V.int)), I.laid (t' := s.toks) (fun _ _ => PyProof.Rows.sortedAll_old) (Nat.le_succ _) ⟨hlen, out, ep, vals_of_ints k1, he'⟩, rfl, q _ _ k2 k3 (I.hok.fresh (Nat.le_succ _))⟩

/-- ints of a list, or of a tuple -/
def intsQ (G : GHp) : D → Option (List Int)
  | .tup ds => intsOf ds
  | x => intsG G x
theorem intsQ_of {K : PySem.W.Frag} {H : Hp} {G : GHp} {Z : Addr → Bool} {x : D} {v : V} {ns : List Int} (ok : Ok K H G Z) (r : Rep K (U H G Z) x v) (h : intsQ G x = some ns) : ∃ a, v = .ref a ∧ (H a = some (.lst (ns.map V.int)) ∨ SqT K H a (ns.map V.int)) := by
  cases x with
  | tup ds =>
    cases r with
    | tup q rr =>
      have h : intsOf ds = some ns := h
      rw [intsOf_eq h] at rr
      refine ⟨_, rfl, .inr ?_⟩
      rw [rr.ints] at q
      exact SqT.mono (fun a o e => (U_some e).2.2) q
  | _ => obtain ⟨a, e, q⟩ := intsG_of (x := _) ok r h; exact ⟨a, e, .inl q⟩
def dOnIntsQ (C : List Int → Prop) (g : List Int → D) (x : D) (G : GHp) (Q : DK) : Prop := match intsQ G x with
  | some ns => C ns ∧ Q (g ns) G
  | none => False
theorem dcall_maxQ (hc : X.calm = true) : DCall X (.builtin "max") (dR1 (dOnIntsQ (fun ns => ns ≠ []) fun ns => .int (maxI ns))) :=
  dcall1 (CallR.or (cr_max hc) (cr_maxT hc)) fun x v H G Z Q Q0 ok r h k => by
    unfold dOnIntsQ at h
    split at h
    · next ns e =>
      obtain ⟨a, rfl, ha | ha⟩ := intsQ_of ok r e
      · refine .inl ⟨a, ns, rfl, SqL.of ha, List.length_pos_iff.mpr h.1, fun m hm hle => ?_⟩
        have e : m = maxI ns := by
          have h1 := maxI_mem h.1
          have h2 := hle _ h1.1
          have h3 := h1.2 _ hm
          omega
        subst e
        exact k _ _ _ _ h.2 .refl ok (.int _)
      · exact .inr ⟨a, ns, rfl, ha, h.1, k _ _ _ _ h.2 .refl ok (.int _)⟩
    · exact h.elim
theorem dcall_minQ (hc : X.calm = true) : DCall X (.builtin "min") (dR1 (dOnIntsQ (fun ns => ns ≠ []) fun ns => .int (minI ns))) :=
  dcall1 (CallR.or (cr_min hc) (cr_minT hc)) fun x v H G Z Q Q0 ok r h k => by
    unfold dOnIntsQ at h
    split at h
    · next ns e =>
      obtain ⟨a, rfl, ha | ha⟩ := intsQ_of ok r e
      · refine .inl ⟨a, ns, rfl, SqL.of ha, List.length_pos_iff.mpr h.1, fun m hm hle => ?_⟩
        have e : m = minI ns := by
          have h1 := minI_mem h.1
          have h2 := hle _ h1.1
          have h3 := h1.2 _ hm
          omega
        subst e
        exact k _ _ _ _ h.2 .refl ok (.int _)
      · exact .inr ⟨a, ns, rfl, ha, h.1, k _ _ _ _ h.2 .refl ok (.int _)⟩
    · exact h.elim
def dSortedQ (m : Bool) (x : D) (G : GHp) (Q : DK) : Prop := match intsQ G x with
  | some ns => lcEnd m ((sortI ns).map .int) G Q
  | none => False
theorem dcall_sortedQ (m : Bool) : DCall X (.builtin "sorted") (dR1 (dSortedQ m)) :=
  dcall1 (CallR.or cr_sortedI cr_sortedT) fun x v H G Z Q Q0 ok r h k => by
    unfold dSortedQ at h
    split at h
    · next ns e =>
      obtain ⟨a, rfl, ha⟩ := intsQ_of ok r e
      have fin : ∀ (ns' : List Int) (p : Addr), ns'.Perm ns → ns'.Pairwise (· ≤ ·) → H p = none → Q (.ref p) (upd H p (.lst (ns'.map V.int))) := fun ns' p hp hs hn => by
        have e : ns' = sortI ns := sorted_unique (hp.trans (sortI_perm ns).symm) hs (sortI_sorted ns)
        subst e
        exact lcEnd_of ok hn (Reps.of_ints _) h k
      rcases ha with ha | ha
      · exact .inl ⟨a, ns, rfl, SqL.of ha, fin⟩
      · exact .inr ⟨a, ns, rfl, ha, fin⟩
    · exact h.elim
end
end DL
set_option Elab.async false
set_option linter.all false
set_option maxRecDepth 100000
set_option maxHeartbeats 1000000
/-! DL, part 9: == and != of anything whose data is told, tracked lists within tracked lists too. -/
namespace DL
open PySem PySem.Spec L2

mutual
inductive DD (G : GHp) : D → PyData → Prop
  | non : DD G .non .none
  | bl (b : Bool) : DD G (.bl b) (.bool b)
  | int (i : Int) : DD G (.int i) (.int i)
  | str (x : Str) : DD G (.str x) (.str x)
  | tup {ds : List D} {ps : List PyData} : DDs G ds ps → DD G (.tup ds) (.tuple ps)
  | lst {ds : List D} {ps : List PyData} : DDs G ds ps → DD G (.lst ds) (.list ps)
  | ref {a : Addr} {ds : List D} {ps : List PyData} : G a = some (.lst ds) → DDs G ds ps → DD G (.ref a) (.list ps)
inductive DDs (G : GHp) : List D → List PyData → Prop
  | nil : DDs G [] []
  | cons {d : D} {p : PyData} {ds : List D} {ps : List PyData} : DD G d p → DDs G ds ps → DDs G (d :: ds) (p :: ps)
end
section
variable {K : PySem.W.Frag} {H : Hp} {G : GHp} {Z : Addr → Bool}
mutual
theorem DD.dp (ok : Ok K H G Z) : ∀ {d : D} {p : PyData} {v : V}, DD G d p → Rep K (U H G Z) d v → Dp K H v p
  | _, _, _, .non, r => by cases r; exact .non
  | _, _, _, .bl b, r => by cases r; exact .bl b
  | _, _, _, .int b, r => by cases r; exact .int b
  | _, _, _, .str b, r => by cases r; exact .str b
  | _, _, _, .tup h, r => by
    cases r with
    | tup q rr => exact .tup (SqT.mono U_le q) (DDs.dp ok h rr)
  | _, _, _, .lst h, r => by
    cases r with
    | lst q rr => exact .lst (SqL.of (U_le _ _ q)) (DDs.dp ok h rr)
  | _, _, _, .ref e h, r => by
    cases r with
    | ref a =>
      obtain ⟨_, xs, h1, h2⟩ := ok.ok _ _ e
      exact .lst (SqL.of h1) (DDs.dp ok h h2)
theorem DDs.dp (ok : Ok K H G Z) : ∀ {ds : List D} {ps : List PyData} {vs : List V}, DDs G ds ps → Reps K (U H G Z) ds vs → DpAll K H vs ps
  | _, _, _, .nil, r => by cases r; exact .nil
  | _, _, _, .cons h t, r => by
    cases r with
    | cons r rr => exact .cons (DD.dp ok h r) (DDs.dp ok t rr)
end
end
def dEqQ : DR2 := fun x y G Q => match x, y with
  | .int i, .int j => Q (.bl (decide (i = j))) G
  | .str i, .str j => Q (.bl (decide (i = j))) G
  | .bl i, .bl j => Q (.bl (decide (i = j))) G
  | x, y => ∃ p q, DD G x p ∧ DD G y q ∧ SeqAt.shaped p = true ∧ SeqAt.shaped q = true ∧ Q (.bl (PyData.eqv p q)) G
def dNeQ : DR2 := fun x y G Q => match x, y with
  | .int i, .int j => Q (.bl (!decide (i = j))) G
  | .str i, .str j => Q (.bl (!decide (i = j))) G
  | .bl i, .bl j => Q (.bl (!decide (i = j))) G
  | x, y => ∃ p q, DD G x p ∧ DD G y q ∧ SeqAt.shaped p = true ∧ SeqAt.shaped q = true ∧ Q (.bl (!PyData.eqv p q)) G
section
variable {X : Cx}
theorem dop_eqQ (hu : X.A.units + 64 < cLine) : DOp X (compareOp .Eq) dEqQ :=
  OpR.imp (OpR.or op_eq (op_eqD hu)) fun v u H Q ⟨x, y, G, Z, Q0, ok, r1, r2, h, k⟩ => by
    have gen : (∃ p q, DD G x p ∧ DD G y q ∧ SeqAt.shaped p = true ∧ SeqAt.shaped q = true ∧ Q0 (.bl (PyData.eqv p q)) G) → rEqD X.K v u H Q :=
      fun ⟨p, q, e1, e2, s1, s2, h⟩ => ⟨p, q, e1.dp ok r1, e2.dp ok r2, s1, s2, k _ _ _ _ h .refl ok (.bl _)⟩
    cases r1 with
    | int i =>
      cases r2 with
      | int j => exact .inl ⟨rfl, by have := k _ _ _ _ h .refl ok (.bl _); simpa using this⟩
      | _ => exact .inr (gen h)
    | str i =>
      cases r2 with
      | str j => exact .inl ⟨rfl, by have := k _ _ _ _ h .refl ok (.bl _); simpa using this⟩
      | _ => exact .inr (gen h)
    | bl i =>
      cases r2 with
      | bl j => exact .inl ⟨rfl, by have := k _ _ _ _ h .refl ok (.bl _); simpa using this⟩
      | _ => exact .inr (gen h)
    | _ => cases r2 <;> exact .inr (gen h)
theorem dop_neQ (hu : X.A.units + 64 < cLine) : DOp X (compareOp .NotEq) dNeQ :=
  OpR.imp (OpR.or op_ne (op_neD hu)) fun v u H Q ⟨x, y, G, Z, Q0, ok, r1, r2, h, k⟩ => by
    have gen : (∃ p q, DD G x p ∧ DD G y q ∧ SeqAt.shaped p = true ∧ SeqAt.shaped q = true ∧ Q0 (.bl (!PyData.eqv p q)) G) → rNeD X.K v u H Q :=
      fun ⟨p, q, e1, e2, s1, s2, h⟩ => ⟨p, q, e1.dp ok r1, e2.dp ok r2, s1, s2, k _ _ _ _ h .refl ok (.bl _)⟩
    cases r1 with
    | int i =>
      cases r2 with
      | int j => exact .inl ⟨rfl, by have := k _ _ _ _ h .refl ok (.bl _); simpa using this⟩
      | _ => exact .inr (gen h)
    | str i =>
      cases r2 with
      | str j => exact .inl ⟨rfl, by have := k _ _ _ _ h .refl ok (.bl _); simpa using this⟩
      | _ => exact .inr (gen h)
    | bl i =>
      cases r2 with
      | bl j => exact .inl ⟨rfl, by have := k _ _ _ _ h .refl ok (.bl _); simpa using this⟩
      | _ => exact .inr (gen h)
    | _ => cases r2 <;> exact .inr (gen h)
end
/-! shapes -/
/-- laid with depth n at most -/
def Shp (n : Nat) (p : PyData) : Prop := p.canLay0 = true ∧ p.depth ≤ n
def Shps (n : Nat) (ps : List PyData) : Prop := PyData.canLayAll0 ps = true ∧ PyData.depthAll ps ≤ n
theorem Shp.ok {n : Nat} {p : PyData} (h : Shp n p) (hn : n ≤ 64) : SeqAt.shaped p = true := by
  unfold SeqAt.shaped
  rw [Bool.and_eq_true_iff]
  exact ⟨h.1, decide_eq_true (by have := h.2; omega)⟩
theorem Shp.int {n : Nat} (i : Int) : Shp n (.int i) := ⟨by simp [PyData.canLay0], by simp [PyData.depth]⟩
theorem Shp.bl {n : Nat} (i : Bool) : Shp n (.bool i) := ⟨by simp [PyData.canLay0], by simp [PyData.depth]⟩
theorem Shp.non {n : Nat} : Shp n .none := ⟨by simp [PyData.canLay0], by simp [PyData.depth]⟩
theorem Shps.nil {n : Nat} : Shps n [] := ⟨by simp [PyData.canLayAll0], by simp [PyData.depthAll]⟩
theorem Shps.cons {n : Nat} {p : PyData} {ps : List PyData} (h : Shp n p) (t : Shps n ps) : Shps n (p :: ps) :=
  ⟨by simp only [PyData.canLayAll0, h.1, t.1, Bool.and_self], by have := h.2; have := t.2; simp only [PyData.depthAll]; omega⟩
theorem Shps.of {n : Nat} : ∀ {ps : List PyData}, (∀ p ∈ ps, Shp n p) → Shps n ps
  | [], _ => .nil
  | p :: r, h => .cons (h p List.mem_cons_self) (Shps.of fun q hq => h q (List.mem_cons_of_mem _ hq))
theorem Shps.list {n : Nat} {ps : List PyData} (h : Shps n ps) : Shp (n + 1) (.list ps) := ⟨by simpa only [PyData.canLay0] using h.1, by have := h.2; simp only [PyData.depth]; omega⟩
theorem Shps.tuple {n : Nat} {ps : List PyData} (h : Shps n ps) : Shp (n + 1) (.tuple ps) := ⟨by simpa only [PyData.canLay0] using h.1, by have := h.2; simp only [PyData.depth]; omega⟩
theorem Shps.ints {n : Nat} (ns : List Int) : Shps n (ns.map .int) := .of fun p hp => by
  obtain ⟨i, _, rfl⟩ := List.mem_map.mp hp
  exact .int i
theorem DDs.ints {G : GHp} : ∀ ns : List Int, DDs G (ns.map .int) (ns.map .int)
  | [] => .nil
  | n :: r => .cons (.int n) (DDs.ints r)
theorem eqv_nil_r : ∀ ps : List PyData, PyData.eqv (.list ps) (.list []) = ps.isEmpty
  | [] => by simp [PyData.eqv, PyData.eqvAll]
  | p :: r => by simp [PyData.eqv, PyData.eqvAll]
mutual
theorem DD.len {G : GHp} : ∀ {ds : List D} {ps : List PyData}, DDs G ds ps → ds.length = ps.length
  | _, _, .nil => rfl
  | _, _, .cons _ t => by simp [DD.len t]
end
/-- xs == [] -/
theorem eq_nilL {G : GHp} {Q : DK} {ds : List D} {ps : List PyData} (d : DDs G ds ps) (s : Shps 63 ps) (h : Q (.bl ds.isEmpty) G) : dEqQ (.lst ds) (.lst []) G Q :=
  ⟨_, _, .lst d, .lst .nil, s.list.ok (by decide), (Shps.nil (n := 0)).list.ok (by decide), by
    rw [eqv_nil_r]
    have e := DD.len d
    cases ds <;> cases ps <;> simp_all⟩
theorem eq_nilR {G : GHp} {Q : DK} {a : Addr} {ds : List D} {ps : List PyData} (e : G a = some (.lst ds)) (d : DDs G ds ps) (s : Shps 63 ps) (h : Q (.bl ds.isEmpty) G) : dEqQ (.ref a) (.lst []) G Q :=
  ⟨_, _, .ref e d, .lst .nil, s.list.ok (by decide), (Shps.nil (n := 0)).list.ok (by decide), by
    rw [eqv_nil_r]
    have e := DD.len d
    cases ds <;> cases ps <;> simp_all⟩
theorem ne_nilL {G : GHp} {Q : DK} {ds : List D} {ps : List PyData} (d : DDs G ds ps) (s : Shps 63 ps) (h : Q (.bl (!ds.isEmpty)) G) : dNeQ (.lst ds) (.lst []) G Q :=
  ⟨_, _, .lst d, .lst .nil, s.list.ok (by decide), (Shps.nil (n := 0)).list.ok (by decide), by
    rw [eqv_nil_r]
    have e := DD.len d
    cases ds <;> cases ps <;> simp_all⟩
theorem ne_nilR {G : GHp} {Q : DK} {a : Addr} {ds : List D} {ps : List PyData} (e : G a = some (.lst ds)) (d : DDs G ds ps) (s : Shps 63 ps) (h : Q (.bl (!ds.isEmpty)) G) : dNeQ (.ref a) (.lst []) G Q :=
  ⟨_, _, .ref e d, .lst .nil, s.list.ok (by decide), (Shps.nil (n := 0)).list.ok (by decide), by
    rw [eqv_nil_r]
    have e := DD.len d
    cases ds <;> cases ps <;> simp_all⟩
end DL
set_option linter.all false
set_option maxRecDepth 100000
set_option maxHeartbeats 1000000
/-! DL, part 10: what many laws draw and compare by. -/
namespace DL
open PySem PySem.Spec L2
def tBox : DTS :=
  (dRet (dLstM (dCons (dCB (dR2 dMax2R) (dCons (dC (.int 0)) (dCons (dOp (dI0 fun i j => .int (i - j)) (dVar 0) (dOp (dI CPow fun i j => .int (i ^ j.toNat)) (dC (.int 10)) (dC (.int 18)))) dNil))) (dCons (dOp (dI (fun _ j => 0 < j) fun i j => .int (i % j)) (dCB (dR1 dIntR) (dCons (dVar 0) dNil)) (dC (.int 2147483587))) (dCons (dC (.int 0)) dNil)))))
def tTake : DTS :=
  (dSeq (dIf (dTestB (dOp (dCmpR (fun i j => decide (j < i)) (fun a b => decide (b < a))) (dOp dIxR (dVar 0) (dC (.int 0))) (dC (.int 0)))) (dSeq (dAsg (dOp (dI (fun _ j => 0 < j) fun i j => .int (i % j)) (dCB (dR1 dIntR) (dCons (dOp dIxR (dVar 0) (dC (.int 0))) dNil)) (dVar 1)) (.nm 2))
  (dSeq (dSub (dOp (dI CDivW fun i j => .int (i / j)) (dOp dIxR (dVar 0) (dC (.int 0))) (dVar 1)) (dVar 0) (dC (.int 0)))
  (dRet (dVar 2)))) dNext)
  (dSeq (dSub (dOp dAddR (dOp dIxR (dVar 0) (dC (.int 2))) (dC (.int 1))) (dVar 0) (dC (.int 2)))
  (dSeq (dAsg (dOp (dI (fun _ j => 0 < j) fun i j => .int (i % j)) (dCB (dR1 dIntR) (dCons (dOp (dI CPow fun i j => .int (i ^ j.toNat)) (dOp dAddR (dOp dAddR (dOp dIxR (dVar 0) (dC (.int 1))) (dOp (dI MulOk fun i j => .int (i * j)) (dC (.int 7001)) (dOp dIxR (dVar 0) (dC (.int 2))))) (dC (.int 37))) (dC (.int 5))) dNil)) (dC (.int 2147483647))) (.nm 3))
  (dSeq (dAsg (dOp (dI (fun _ j => 0 < j) fun i j => .int (i % j)) (dCB (dR1 dIntR) (dCons (dOp (dI CPow fun i j => .int (i ^ j.toNat)) (dOp dAddR (dOp (dI MulOk fun i j => .int (i * j)) (dOp dIxR (dVar 0) (dC (.int 1))) (dOp dIxR (dVar 0) (dC (.int 2)))) (dC (.int 65003))) (dC (.int 3))) dNil)) (dC (.int 2147483629))) (.nm 4))
  (dRet (dOp (dI (fun _ j => 0 < j) fun i j => .int (i % j)) (dOp (dI CDivW fun i j => .int (i / j)) (dOp dAddR (dOp (dI MulOk fun i j => .int (i * j)) (dVar 3) (dC (.int 2147483629))) (dVar 4)) (dC (.int 8))) (dVar 1)))))))
def tSame (sp_law_same : DSp) : DTS :=
  (dSeq (dIf (dOr (dTestB (dOp dIsR (dVar 1) (dC .non))) (dTest (dCB (dR2 dIsiR) (dCons (dVar 1) (dCons (dC (.ty .bool)) dNil))))) (dRet (dIfE (dTestB (dOp dIsR (dVar 1) (dC .non))) (dOp dIsR (dVar 0) (dC .non)) (dAndV (dCB (dR2 dIsiR) (dCons (dVar 0) (dCons (dC (.ty .bool)) dNil))) (dOp dEqQ (dOp dIsR (dVar 0) (dC (.bl true))) (dOp dIsR (dVar 1) (dC (.bl true))))))) dNext)
  (dSeq (dIf (dTest (dCB (dR2 dIsiR) (dCons (dVar 1) (dCons (dC (.ty .int)) dNil)))) (dRet (dAndV (dCB (dR2 dIsiR) (dCons (dVar 0) (dCons (dC (.ty .int)) dNil))) (dAndV (dNotV (dCB (dR2 dIsiR) (dCons (dVar 0) (dCons (dC (.ty .bool)) dNil)))) (dOp dEqQ (dOp (dI0 fun i j => .int (i - j)) (dCB (dR1 dIntR) (dCons (dVar 0) dNil)) (dVar 1)) (dC (.int 0)))))) dNext)
  (dSeq (dIf (dTest (dCB (dR2 dIsiR) (dCons (dVar 1) (dCons (dC (.ty .str)) dNil)))) (dSeq (dIf (dOr (dNot (dTest (dCB (dR2 dIsiR) (dCons (dVar 0) (dCons (dC (.ty .str)) dNil))))) (dTestB (dOp dNeQ (dCB (dR1 dLenR) (dCons (dVar 0) dNil)) (dCB (dR1 dLenR) (dCons (dVar 1) dNil))))) (dRet (dC (.bl false))) dNext)
  (dRet (dOp dEqQ (dLc false (dRng1 (dCB (dR1 dLenR) (dCons (dVar 1) dNil))) (.nm 2) (dTestB (dOp dNeQ (dSl (dSlR false) (dVar 0) (dPart (dVar 2)) (dPart (dOp dAddR (dVar 2) (dC (.int 1))))) (dOp dIxR (dVar 1) (dVar 2)))) (dVar 2) [2]) (dLst dNil)))) dNext)
  (dSeq (dIf (dOr (dTestB (dOp dNeQ (dCB (dR2 dIsiR) (dCons (dVar 0) (dCons (dC (.ty .lst)) dNil))) (dCB (dR2 dIsiR) (dCons (dVar 1) (dCons (dC (.ty .lst)) dNil))))) (dTestB (dOp dNeQ (dCB (dR2 dIsiR) (dCons (dVar 0) (dCons (dC (.ty .tup)) dNil))) (dCB (dR2 dIsiR) (dCons (dVar 1) (dCons (dC (.ty .tup)) dNil)))))) (dRet (dC (.bl false))) dNext)
  (dRet (dAndV (dOp dEqQ (dCB (dR1 dLenR) (dCons (dVar 0) dNil)) (dCB (dR1 dLenR) (dCons (dVar 1) dNil))) (dOp dEqQ (dLc false (dRng1 (dCB (dR1 dLenR) (dCons (dVar 1) dNil))) (.nm 2) (dNot (dTest (dCall sp_law_same [] (dCons (dOp dIxR (dVar 0) (dVar 2)) (dCons (dOp dIxR (dVar 1) (dVar 2)) dNil))))) (dVar 2) [2]) (dLst dNil))))))))
theorem qb {Q : DK} {G : GHp} {b : Bool} (e : b = true) (h : Q (.bl true) G) : Q (.bl b) G := e ▸ h
theorem ft {P : Prop} (e : false = true) : P := nomatch e
theorem tf {P : Prop} (e : true = false) : P := nomatch e
theorem qi {Q : DK} {G : GHp} {i j : Int} (e : i = j) (h : Q (.int i) G) : Q (.int j) G := e ▸ h

theorem mul_small {i j : Int} (h : (-(2 ^ 64) < i ∧ i < 2 ^ 64) ∨ (-(2 ^ 64) < j ∧ j < 2 ^ 64)) : MulOk i j := .inl h
theorem pow_small {i j : Int} (h : 0 ≤ j ∧ j ≤ 1000000 ∧ i.natAbs < 2 ^ 64) : L2.CPow i j := h
theorem divw_small {i j : Int} (h : 0 < j) (h2 : j.natAbs < 2 ^ 1000) : L2.CDivW i j := ⟨h, by
  have h3 : j.natAbs ≠ 0 := by omega
  have := (Nat.log2_lt h3).mpr h2
  omega⟩
theorem rd_take : ∀ x m G Q (E : DXK), (∃ (p : Addr) (s : Bx) (k : Nat) (n : Int), x = .ref p ∧ G p = some s.go ∧ s.Ok k ∧ k < 2 ^ 30 ∧ m = .int n ∧ 0 < n ∧ n.natAbs < 2 ^ 1000 ∧
  ∀ (v : Int) (s' : Bx), 0 ≤ v → v < n → s'.Ok (k + 1) → Q (.int v) (gupd G p s'.go)) → DRun tTake [some x, some m, none, none, none] G Q := by
  rintro x m G Q E ⟨p, ⟨a, b, c⟩, k, n, rfl, hp, ⟨a0, b0, b1, c0, c1⟩, hk, rfl, hn, hn2, h⟩
  change G p = some (.lst [.int a, .int b, .int c]) at hp
  change 0 ≤ a at a0
  change 0 ≤ b at b0
  change b < _ at b1
  change 0 ≤ c at c0
  change c ≤ _ at c1
  have hl : lsOf G (.ref p) = some [.int a, .int b, .int c] := lsOf_ref hp
  conv => whnf
  rw [hl]
  conv => whnf
  refine ⟨fun e => ?_, fun e => ?_⟩
  · have ha : 0 < a := of_decide_eq_true e
    conv => whnf
    rw [hl]
    conv => whnf
    refine ⟨hn, ?_⟩
    conv => whnf
    rw [hl]
    conv => whnf
    refine ⟨divw_small hn hn2, ?_⟩
    conv => whnf
    rw [hp]
    conv => whnf
    exact h _ ⟨a / n, b, c⟩ (Int.emod_nonneg _ (by omega)) (Int.emod_lt_of_pos _ hn) ⟨Int.ediv_nonneg a0 (by omega), b0, b1, c0, by show c ≤ _; omega⟩
  · have ha : a ≤ 0 := by have := of_decide_eq_false e; omega
    conv => whnf
    rw [hl]
    conv => whnf
    rw [hp]
    conv => whnf
    rw [lsOf_ref gupd_same]
    conv => whnf
    rw [lsOf_ref gupd_same]
    conv => whnf
    refine ⟨mul_small (.inl (by omega)), ?_⟩
    conv => whnf
    refine ⟨pow_small (by omega), ?_⟩
    conv => whnf
    refine ⟨by omega, ?_⟩
    conv => whnf
    rw [lsOf_ref gupd_same]
    conv => whnf
    rw [lsOf_ref gupd_same]
    conv => whnf
    refine ⟨mul_small (.inl (by omega)), ?_⟩
    conv => whnf
    refine ⟨pow_small ⟨by omega, by omega, ?_⟩, ?_⟩
    · have := Int.mul_le_mul_of_nonneg_right (show b ≤ 2147483648 by omega) (show 0 ≤ c + 1 by omega)
      have h0 : 0 ≤ b * (c + 1) := Int.mul_nonneg b0 (by omega)
      show (b * (c + 1) + 65003).natAbs < _
      omega
    conv => whnf
    refine ⟨by omega, ?_⟩
    conv => whnf
    refine ⟨mul_small (.inr (by omega)), ?_⟩
    conv => whnf
    refine ⟨⟨by decide, by decide⟩, ?_⟩
    conv => whnf
    refine ⟨hn, ?_⟩
    conv => whnf
    exact h _ ⟨a, b, c + 1⟩ (Int.emod_nonneg _ (by omega)) (Int.emod_lt_of_pos _ hn) ⟨a0, b0, b1, by show 0 ≤ c + 1; omega, by show c + 1 ≤ _; omega⟩
theorem rd_box : ∀ x G Q (E : DXK), (∃ z : Int, x = .int z ∧ ∀ (p : Addr) (s : Bx), G p = none → s.Ok 0 → Q (.ref p) (gupd G p s.go)) → DRun tBox [some x] G Q := by
  rintro x G Q E ⟨z, rfl, h⟩
  conv => whnf
  refine ⟨pow_small (by decide), ?_⟩
  conv => whnf
  refine ⟨by omega, ?_⟩
  conv => whnf
  refine ⟨by show 3 ≤ sizeLine; decide, fun p hp => ?_⟩
  exact h p ⟨max 0 (z - 10 ^ 18), z % 2147483587, 0⟩ hp ⟨by show 0 ≤ max 0 _; omega, Int.emod_nonneg _ (by omega), by have := Int.emod_lt_of_pos z (show (0 : Int) < 2147483587 by omega); show z % _ < _; omega, by show (0 : Int) ≤ 0; decide, by show (0 : Int) ≤ 0; decide⟩

theorem smallL {n : Nat} (h : n ≤ 100000) : n ≤ sizeLine := Nat.le_trans h (by decide)
theorem smallLt {n : Nat} (h : n < 100000) : n < sizeLine := Nat.lt_of_lt_of_le h (by decide)

theorem isEmpty_map {α β : Type} (f : α → β) (l : List α) : (l.map f).isEmpty = l.isEmpty := by cases l <;> rfl

theorem filter_no {α : Type} (l : List α) : l.filter (fun _ => false) = [] := by simp

theorem filter_yes {α : Type} (l : List α) : l.filter (fun _ => true) = l := by simp

/-- None, truths, whole numbers, lists and tuples of such, below depth n -/
def fz : Nat → D → Bool
  | 0, _ => false
  | _ + 1, .non => true
  | _ + 1, .bl _ => true
  | _ + 1, .int _ => true
  | n + 1, .tup ds => decide (ds.length ≤ 1000) && ds.all (fz n)
  | n + 1, .lst ds => decide (ds.length ≤ 1000) && ds.all (fz n)
  | _ + 1, _ => false
def prSame (n : Nat) (x y : D) (G : GHp) (Q : DK) : Prop := ∃ S, Tree G S x y ∧ fz n y = true ∧ Q (.bl true) G
def spSame (n : Nat) : DSp := sp2 fun x y G Q _ => prSame n x y G Q
theorem no_same {ds : List D} {G : GHp} {Q : DK} {E : DXK} (h : spSame 0 ds G Q E) : False := by
  match ds, h with
  | [x, y], ⟨S, _, h, _⟩ => cases h
theorem rd_same (n : Nat) : ∀ x y G Q (E : DXK), prSame (n + 1) x y G Q → DRun (tSame (spSame n)) [some x, some y, none] G Q := by
  rintro x y G Q E ⟨S, ht, hz, h⟩
  cases y with
  | non =>
    cases ht
    conv => whnf
    refine ⟨fun _ => ?_, fun e => tf e⟩
    conv => whnf
    refine ⟨fun _ => ?_, fun e => tf e⟩
    conv => whnf
    exact ⟨fun _ => h, fun e => tf e⟩
  | bl b =>
    cases ht
    conv => whnf
    refine ⟨fun e => ft e, fun _ => ?_⟩
    conv => whnf
    refine ⟨fun _ => ?_, fun e => tf e⟩
    conv => whnf
    refine ⟨fun e => ft e, fun _ => ?_⟩
    conv => whnf
    refine ⟨fun _ => ?_, fun e => tf e⟩
    conv => whnf
    exact qb (decide_eq_true rfl) h
  | int i =>
    cases ht
    conv => whnf
    refine ⟨fun e => ft e, fun _ => ?_⟩
    conv => whnf
    refine ⟨fun e => ft e, fun _ => ?_⟩
    conv => whnf
    refine ⟨fun _ => ?_, fun e => tf e⟩
    conv => whnf
    refine ⟨fun _ => ?_, fun e => tf e⟩
    conv => whnf
    refine ⟨fun _ => ?_, fun e => tf e⟩
    conv => whnf
    exact qb (decide_eq_true (by omega)) h
  | lst ts =>
    have hz : (decide (ts.length ≤ 1000) && ts.all (fz n)) = true := hz
    rw [Bool.and_eq_true] at hz
    have hl := of_decide_eq_true hz.1
    have hall := List.all_eq_true.mp hz.2
    have key : ∀ (ds : List D), Trees G S ds ts → (x = .lst ds ∨ ∃ a, x = .ref a ∧ G a = some (.lst ds)) → DRun (tSame (spSame n)) [some x, some (.lst ts), none] G Q := by
      intro ds tr hx
      have el := tr.length
      rcases hx with rfl | ⟨a, rfl, ha⟩
      · conv => whnf
        refine ⟨fun e => ft e, fun _ => ?_⟩
        conv => whnf
        refine ⟨fun e => ft e, fun _ => ?_⟩
        conv => whnf
        refine ⟨fun e => ft e, fun _ => ?_⟩
        conv => whnf
        refine ⟨fun e => ft e, fun _ => ?_⟩
        conv => whnf
        refine ⟨fun e => ft e, fun _ => ?_⟩
        conv => whnf
        refine ⟨fun e => ft e, fun _ => ?_⟩
        conv => whnf
        refine ⟨fun _ => ?_, fun e => absurd (of_decide_eq_false e) (fun q => q (by rw [el]))⟩
        conv => whnf
        refine ⟨by unfold RgB; omega, ?_⟩
        refine lc_map (enc := fun (i : Nat) => D.int (0 + i)) (keep := fun _ => false) (f := fun i => D.int (0 + i)) (smallL (by rw [List.length_range]; omega)) trivial (fun i hi R hR => ?_) (fun d hd _ R hR => hR) ?_
        · have hi : i < ts.length := by have := List.mem_range.mp hi; omega
          conv => whnf
          refine atD_get (d := ds[i]'(by omega)) (by omega) (by omega) (by rw [show ((0 : Int) + (i : Int)).toNat = i by omega, List.getElem?_eq_getElem (by omega)]) ?_
          conv => whnf
          refine atD_get (d := ts[i]) (by omega) (by omega) (by rw [show ((0 : Int) + (i : Int)).toNat = i by omega, List.getElem?_eq_getElem (by omega)]) ?_
          conv => whnf
          obtain ⟨t, e1, e2⟩ := tr.get (i := i) (d := ds[i]'(by omega)) (List.getElem?_eq_getElem (by omega))
          rw [List.getElem?_eq_getElem hi] at e1
          cases e1
          refine ⟨S, e2, hall _ (List.getElem_mem hi), ?_⟩
          exact hR
        · rw [filter_no]
          conv => whnf
          refine ⟨smallL (by simp), ?_⟩
          exact eq_nilL .nil .nil h
      · conv => whnf
        refine ⟨fun e => ft e, fun _ => ?_⟩
        conv => whnf
        refine ⟨fun e => ft e, fun _ => ?_⟩
        conv => whnf
        refine ⟨fun e => ft e, fun _ => ?_⟩
        conv => whnf
        refine ⟨fun e => ft e, fun _ => ?_⟩
        conv => whnf
        rw [show tgOf G (.ref a) = some .lst by unfold tgOf; simp only [ha]]
        conv => whnf
        refine ⟨fun e => ft e, fun _ => ?_⟩
        conv => whnf
        rw [show tgOf G (.ref a) = some .lst by unfold tgOf; simp only [ha]]
        conv => whnf
        refine ⟨fun e => ft e, fun _ => ?_⟩
        conv => whnf
        rw [lsOf_ref ha]
        conv => whnf
        refine ⟨fun _ => ?_, fun e => absurd (of_decide_eq_false e) (fun q => q (by rw [el]))⟩
        conv => whnf
        refine ⟨by unfold RgB; omega, ?_⟩
        refine lc_map (enc := fun (i : Nat) => D.int (0 + i)) (keep := fun _ => false) (f := fun i => D.int (0 + i)) (smallL (by rw [List.length_range]; omega)) trivial (fun i hi R hR => ?_) (fun d hd _ R hR => hR) ?_
        · have hi : i < ts.length := by have := List.mem_range.mp hi; omega
          conv => whnf
          rw [lsOf_ref ha]
          refine atD_get (d := ds[i]'(by omega)) (by omega) (by omega) (by rw [show ((0 : Int) + (i : Int)).toNat = i by omega, List.getElem?_eq_getElem (by omega)]) ?_
          conv => whnf
          refine atD_get (d := ts[i]) (by omega) (by omega) (by rw [show ((0 : Int) + (i : Int)).toNat = i by omega, List.getElem?_eq_getElem (by omega)]) ?_
          conv => whnf
          obtain ⟨t, e1, e2⟩ := tr.get (i := i) (d := ds[i]'(by omega)) (List.getElem?_eq_getElem (by omega))
          rw [List.getElem?_eq_getElem hi] at e1
          cases e1
          refine ⟨S, e2, hall _ (List.getElem_mem hi), ?_⟩
          exact hR
        · rw [filter_no]
          conv => whnf
          refine ⟨smallL (by simp), ?_⟩
          exact eq_nilL .nil .nil h
    cases ht with
    | same => exact key ts (Trees.same ts) (.inl rfl)
    | lst tr => exact key _ tr (.inl rfl)
    | ref hs ha tr => exact key _ tr (.inr ⟨_, rfl, ha⟩)
  | tup ts =>
    have hz : (decide (ts.length ≤ 1000) && ts.all (fz n)) = true := hz
    rw [Bool.and_eq_true] at hz
    have hl := of_decide_eq_true hz.1
    have hall := List.all_eq_true.mp hz.2
    have key : ∀ (ds : List D), Trees G S ds ts → DRun (tSame (spSame n)) [some (.tup ds), some (.tup ts), none] G Q := by
      intro ds tr
      have el := tr.length
      conv => whnf
      refine ⟨fun e => ft e, fun _ => ?_⟩
      conv => whnf
      refine ⟨fun e => ft e, fun _ => ?_⟩
      conv => whnf
      refine ⟨fun e => ft e, fun _ => ?_⟩
      conv => whnf
      refine ⟨fun e => ft e, fun _ => ?_⟩
      conv => whnf
      refine ⟨fun e => ft e, fun _ => ?_⟩
      conv => whnf
      refine ⟨fun e => ft e, fun _ => ?_⟩
      conv => whnf
      refine ⟨fun _ => ?_, fun e => absurd (of_decide_eq_false e) (fun q => q (by rw [el]))⟩
      conv => whnf
      refine ⟨by unfold RgB; omega, ?_⟩
      refine lc_map (enc := fun (i : Nat) => D.int (0 + i)) (keep := fun _ => false) (f := fun i => D.int (0 + i)) (smallL (by rw [List.length_range]; omega)) trivial (fun i hi R hR => ?_) (fun d hd _ R hR => hR) ?_
      · have hi : i < ts.length := by have := List.mem_range.mp hi; omega
        conv => whnf
        refine atD_get (d := ds[i]'(by omega)) (by omega) (by omega) (by rw [show ((0 : Int) + (i : Int)).toNat = i by omega, List.getElem?_eq_getElem (by omega)]) ?_
        conv => whnf
        refine atD_get (d := ts[i]) (by omega) (by omega) (by rw [show ((0 : Int) + (i : Int)).toNat = i by omega, List.getElem?_eq_getElem (by omega)]) ?_
        conv => whnf
        obtain ⟨t, e1, e2⟩ := tr.get (i := i) (d := ds[i]'(by omega)) (List.getElem?_eq_getElem (by omega))
        rw [List.getElem?_eq_getElem hi] at e1
        cases e1
        refine ⟨S, e2, hall _ (List.getElem_mem hi), ?_⟩
        exact hR
      · rw [filter_no]
        conv => whnf
        refine ⟨smallL (by simp), ?_⟩
        exact eq_nilL .nil .nil h
    cases ht with
    | same => exact key ts (Trees.same ts)
    | tup tr => exact key _ tr
  | _ => cases hz

/-- a box at p, drawn from k times at most; all else as in G0 -/
def Bk (G0 : GHp) (p : Addr) (k : Nat) (G : GHp) : Prop := (∃ s : Bx, G p = some s.go ∧ s.Ok k) ∧ ∀ b, b ≠ p → G b = G0 b
theorem Bk.mono {G0 G : GHp} {p : Addr} {j k : Nat} (h : Bk G0 p j G) (hk : j ≤ k) : Bk G0 p k G := by
  obtain ⟨⟨s, h1, h2⟩, h3⟩ := h
  exact ⟨⟨s, h1, h2.mono hk⟩, h3⟩
theorem tk {sp : DSp} (hsp : ∀ ds G Q E, spTake ds G Q E → sp ds G Q E) {G0 G : GHp} {p : Addr} {k : Nat} {n : Int} {Q : DK} {E : DXK} (B : Bk G0 p k G) (hk : k < 1000000) (hn : 0 < n) (hb : n < 2 ^ 64) (h : ∀ v G', 0 ≤ v → v < n → Bk G0 p (k + 1) G' → Q (.int v) G') : sp [.ref p, .int n] G Q E := by
  apply hsp
  obtain ⟨⟨s, h1, h2⟩, h3⟩ := B
  refine ⟨p, s, k, n, rfl, h1, h2, by omega, rfl, hn, Nat.lt_of_lt_of_le (show n.natAbs < 2 ^ 64 by omega) (Nat.pow_le_pow_right (by decide) (by decide)), fun v s' a b c => h v _ a b ⟨⟨s', gupd_same, c⟩, fun b hb => ?_⟩⟩
  rw [gupd_ne hb]; exact h3 b hb
theorem Bk.put {G0 G : GHp} {p q : Addr} {k : Nat} {o o' : GO} (B : Bk (gupd G0 q o) p k G) (hq : q ≠ p) : Bk (gupd G0 q o') p k (gupd G q o') := by
  obtain ⟨⟨s, h1, h2⟩, h3⟩ := B
  refine ⟨⟨s, gupd_at hq.symm h1, h2⟩, fun b hb => ?_⟩
  by_cases e : b = q
  · subst e; rw [gupd_same, gupd_same]
  · rw [gupd_ne e, gupd_ne e, h3 b hb, gupd_ne e]
theorem Bk.new {G0 G : GHp} {p q : Addr} {k : Nat} {o : GO} (B : Bk G0 p k G) (hq : q ≠ p) : Bk (gupd G0 q o) p k (gupd G q o) := by
  obtain ⟨⟨s, h1, h2⟩, h3⟩ := B
  refine ⟨⟨s, gupd_at hq.symm h1, h2⟩, fun b hb => ?_⟩
  by_cases e : b = q
  · subst e; rw [gupd_same, gupd_same]
  · rw [gupd_ne e, gupd_ne e, h3 b hb]
theorem Bk.at_ {G0 G : GHp} {p q : Addr} {k : Nat} {o : GO} (B : Bk (gupd G0 q o) p k G) (hq : q ≠ p) : G q = some o := by rw [B.2 q hq, gupd_same]
theorem Bk.ne {G0 G : GHp} {p q : Addr} {k : Nat} (B : Bk G0 p k G) (hq : G q = none) : q ≠ p := fun e => by
  obtain ⟨⟨s, h1, _⟩, _⟩ := B
  rw [e, h1] at hq; cases hq

end DL
set_option Elab.async false
set_option linter.all false
set_option maxRecDepth 100000
set_option maxHeartbeats 1000000
/-! DL, part 11: enumerate of a tuple; comprehensions with any target. -/
namespace DL
open PySem PySem.Spec L2 PyProof.Rows

theorem meets_enumT (l : Addr) (items : Array Value) :
    Meets (Builtin.«enumerate.__new__» ⟨[.type "enumerate", .ref l], []⟩) (fun _ R s => s.heap.IsTuple l items ∧
      R (.ok (.ret (.ref (s.heap.push { cls := .type "tuple_iterator", data := .fields #[.ref l, .int 0 0] }).objs.size)))
        { s with heap := (s.heap.push { cls := .type "tuple_iterator", data := .fields #[.ref l, .int 0 0] }).push { cls := .type "enumerate", data := .fields #[.none, .bool false, .ref s.heap.objs.size, rawInt 0, .none, .none] } }) :=
  .of_wp fun prog w A R s h => by
    obtain ⟨hp, g, d, tk, os⟩ := s
    obtain ⟨hL, h⟩ := h
    have hsub := sub_enumerate
    have q1 : ∀ {A' : Around} {E : Value → Shared → Prop} {Q : Value → Shared → Prop}, Q (.ref hp.objs.size) ⟨hp.push { cls := .type "tuple_iterator", data := .fields #[.ref l, .int 0 0] }, g, d, tk, os⟩ → wpAny (model prog w) A' (pyIter (.ref l)) Q E ⟨hp, g, d, tk, os⟩ :=
      fun q => wpAny_pyIter_tuple hL q
    wp_walk using q1
    refine wpAny_stack_any fun st => wpAny_pure ?_
    split
    · rename_i c _ _ _ _ _
      cases (c == Value.type "enumerate")
      · wp_walk using q1
        exact ⟨_, rfl, h⟩
      · wp_walk using q1
        exact ⟨_, rfl, h⟩
    · wp_walk using q1
      exact ⟨_, rfl, h⟩
section
variable {prog : Program} {w : World} {A : Around} {E : Value → Shared → Prop} {s : Shared}
theorem call_enumT {l : Addr} {items : Array Value} {Q : Value → Shared → Prop} (hL : s.heap.IsTuple l items)
    (h : ∀ h', IsEnum h' (s.heap.objs.size + 1) s.heap.objs.size 0 .none → h'.IsTupleIter s.heap.objs.size l 0 → h'.objs.size = s.heap.objs.size + 2 →
      (∀ b o, s.heap.get? b = some o → h'.get? b = some o) → Q (.ref (s.heap.objs.size + 1)) { s with heap := h' }) :
    wpAny (model prog w) A (call (.type "enumerate") [.ref l]) Q E s := by
  refine callType_new F.called_enumerate (by decide) (F.typeCall_enumerate_1 _) (F.newCall_enumerate_1 _) (fun obj => F.args_object_init_2 obj _) F.entry_enumerate_new
    (meets_enumT l items) ⟨hL, ?_⟩
  have hz : (s.heap.push { cls := .type "tuple_iterator", data := .fields #[.ref l, .int 0 0] }).objs.size = s.heap.objs.size + 1 := Heap.size_push ..
  show _ ∧ _
  rw [hz]
  have he : IsEnum ((s.heap.push { cls := .type "tuple_iterator", data := .fields #[.ref l, .int 0 0] }).push
      { cls := .type "enumerate", data := .fields #[.none, .bool false, .ref s.heap.objs.size, rawInt 0, .none, .none] }) (s.heap.objs.size + 1) s.heap.objs.size 0 .none := by
    have := Heap.get?_push_size (s.heap.push { cls := .type "tuple_iterator", data := .fields #[.ref l, .int 0 0] })
      (o := { cls := .type "enumerate", data := .fields #[.none, .bool false, .ref s.heap.objs.size, rawInt 0, .none, .none] }) rfl
    rw [hz] at this; exact this
  exact ⟨⟨_, he, rfl⟩, h _ he ⟨_, Heap.get?_push_of_some _ (Heap.get?_push_size _ rfl), rfl, rfl⟩ (by rw [Heap.size_push, hz]) fun b o x => Heap.get?_push_of_some _ (Heap.get?_push_of_some _ x)⟩
end
/-- the tuple at a, each item in a new pair -/
def IteT (K : PySem.W.Frag) (a : Addr) : It :=
  ⟨fun i H => ∃ (xs : List V) (x : V), SqT K H a xs ∧ xs[i]? = some x, fun i H v H' => ∃ T x, v = .ref T ∧ H T = none ∧ H' = upd H T (.tup [.int (i : Nat), x]) ∧ ∀ xs, SqT K H a xs → xs[i]? = some x, fun i H => ∃ xs : List V, SqT K H a xs ∧ xs.length ≤ i⟩
theorem turn_enumT {P : Program} {w : World} {K : PySem.W.Frag} {elts : List Expr} {kk : Nat} {tpos : Pos} (a e it : Addr) :
    Turn P w K (.Tuple elts kk tpos) (IteT K a) [e, it] e (fun i h => (∃ old, IsEnum h e it ((i : Nat) : Int) old) ∧ h.IsTupleIter it a i ∧ e ≠ it ∧ a ≠ it ∧ a ≠ e) where
  mem := by simp
  obj := fun i h st b hb => by
    obtain ⟨⟨old, he⟩, ⟨o, ho, hc, hd⟩, _⟩ := st
    have e' : b = e ∨ b = it := by simpa using hb
    rcases e' with z | z
    · rw [z]; exact ⟨_, he, fun v q => nomatch q⟩
    · rw [z]; exact ⟨o, ho, fun v q => by rw [hd] at q; cases q⟩
  keep := fun i h h' st k => let ⟨⟨old, he⟩, hi, hne⟩ := st; ⟨⟨old, k e (by simp) _ he⟩, hi.at fun o q => k it (by simp) o q, hne⟩
  item := by
    intro X hP hw hK hc i pins s σ H E I hf st hg
    subst hP hw hK
    obtain ⟨⟨old, he⟩, hit, hne, hait, hae⟩ := st
    obtain ⟨xs, x, hq, hx⟩ := hg
    obtain ⟨its, rv, p, hz⟩ := I.tuple hq
    have p : s.heap.IsTuple a its.toArray := p
    obtain ⟨u, hu, ru⟩ := rv.get hx
    have hel : e < s.heap.objs.size := Heap.lt_size he
    have hil : it < s.heap.objs.size := by obtain ⟨_, q, _⟩ := hit; exact Heap.lt_size q
    have hi : i < its.toArray.size := by
      have := (List.getElem?_eq_some_iff.mp hu).1
      simpa using this
    refine wpAny_pyNext_enum_itemD (Draws.tuple (A := X.A.in1) (I.ok.hd hc) it a hait its.toArray) he ⟨hit, p⟩ hi hne (by simp [hne, Ne.symm hae]) fun y h' tk hy ho hst' hT hsz hk => ?_
    have ey : y = u := by
      have h1 : its.toArray[i]? = some y := hy
      rw [show its.toArray[i]? = its[i]? by simp, hu] at h1
      exact (Option.some.inj h1).symm
    subst ey
    have hit' := hst'.1
    refine ⟨_, rfl, wpAny_letOwnedTupleGo_enum (s := { s with heap := h', toks := tk + 1 }) ho fun h'' he' sb => ?_⟩
    have hT2 : h''.get? s.heap.objs.size = some { cls := .type "tuple", data := .seq #[.int i tk, y] } := (sb.2 _ (Nat.ne_of_gt hel)).trans hT
    have new : ObjOk X.prog X.w (upd H s.heap.objs.size (.tup [.int (i : Nat), x])) h'' s.heap.objs.size (.tup [.int (i : Nat), x]) :=
      ⟨by show 2 ≤ sizeLine; decide, [.int i tk, y], .cons ⟨_, rfl⟩ (.cons ru .nil), ⟨_, hT2, rfl, _, rfl⟩⟩
    have I1 : Inv X pins σ (upd H s.heap.objs.size (.tup [.int (i : Nat), x])) { s with heap := h'', toks := tk + 1 } :=
      I.turnedNew (ch := [e, it]) (fun b ob hb q => (sb.2 b (fun z => hb (by simp [z]))).trans (hk b ob (fun z => hb (by simp [z])) (fun z => hb (by simp [z])) q)) hf (Nat.le_refl _) new
    refine ⟨.ref s.heap.objs.size, _, I1, rfl, ⟨_, x, rfl, I.hok.fresh (Nat.le_refl _), rfl, fun ys hy => by rw [I.tuple_inj hy hq]; exact hx⟩, ⟨⟨y, ?_⟩, hit'.at fun o q => (sb.2 it (Ne.symm hne)).trans q, hne, hait, hae⟩, fun b hb => ?_⟩
    · have e1 : ((i + 1 : Nat) : Int) = (i : Int) + 1 := by omega
      rw [e1]; exact he'
    · have hb' : b < s.heap.objs.size := by
        have e' : b = e ∨ b = it := by simpa using hb
        rcases e' with z | z
        · rw [z]; exact hel
        · rw [z]; exact hil
      rw [upd_ne (Nat.ne_of_lt hb')]
      exact (hf b hb).1
  done := by
    intro X hP hw hK hc i pins s σ H E I hf st hg
    subst hP hw hK
    obtain ⟨⟨old, he⟩, hit, hne, hait, hae⟩ := st
    obtain ⟨xs, hq, hx⟩ := hg
    obtain ⟨its, rv, p, hz⟩ := I.tuple hq
    have p : s.heap.IsTuple a its.toArray := p
    obtain ⟨f0, f1, f2, f3, f4, f5⟩ := hf it (by simp)
    have hl := rv.length
    have hT : s.TypeIs (.ref e) "enumerate" := ⟨_, he, rfl⟩
    unfold pyNext
    refine wpAny_bind (wpAny_attempt (wpAny_callSpecial?_slot (name := Str.ofString "__next__") hT F.slot_enumerate_next
      (wpAny_call_entry F.slot_enumerate_next hT F.entry_enumerate_next ?_ (F.args_enumerate_next_1 _))))
    show wpAny _ _ (field (.ref e) 2 >>= _) _ _ _
    refine wpAny_bind (wpAny_field he rfl (x := .ref it) rfl ?_)
    refine wpAny_bind (wpAny_nextOf_tuple_end (A := X.A.in1) (I.ok.hd hc) hit p (by simp; omega) fun h' x he' hx' => ?_)
    obtain ⟨o, ho, hc'⟩ := hx'
    refine wpAny_bind (wpAny_isInstance (T := "StopIteration") (b := true) ⟨o, ho, hc'⟩ isSubtype_stop ?_)
    exact wpAny_pure ⟨rfl, I.turned (t' := s.toks) (fun b o hb q => he' b o hb q) f0 f1 f3 f4 f5⟩
  self := fun A i s Q E st h => let ⟨⟨_, he⟩, _⟩ := st; wpAny_pyIter_enum he h
def iEnumQ (K : PySem.W.Frag) (ta : TA) : TI := fun σ H R => ta σ H fun vs H1 => ∃ a xs, vs = [.ref a] ∧ ((SqL K H1 a xs ∧ R (Ite K a) H1) ∨ (SqT K H1 a xs ∧ R (IteT K a) H1))
theorem pi_enumQ {X : Cx} {e : Expr} {ta : TA} {p pos tpos : Pos} {elts : List Expr} {kk : Nat} (hg : Gl X "enumerate") (hm : X.mg "enumerate" = none) (ha : PA X [e] ta) (hs : starEach [e] X.env = [(false, eval e X.env)] := by rfl) :
    PI X (.Tuple elts kk tpos) (.Call (.Name "enumerate" p) [e] [] pos) (iEnumQ X.K ta) := by
  refine ⟨fun pins s σ H R I h => ?_⟩
  refine PyProof.Rows.Call_ (ld_blt I hg hm PyProof.Rows.boot_enumerate (PyProof.Rows.callWith_type1 (thn (ha.run pos pins s σ H _ I h) fun us s1 ⟨vs, H1, I1, r1, q1⟩ => ?_) hs rfl))
  obtain ⟨a, xs, ex, hq⟩ := q1
  subst ex
  cases r1 with
  | cons r rr =>
    cases rr
    cases r
    rcases hq with ⟨hq, q⟩ | ⟨hq, q⟩
    · obtain ⟨its, rv, p', hz⟩ := I1.list hq
      refine call_enumerate_list p'.isList fun h' he hit hsz hk => wpAny_pyIter_enum he ?_
      have I2 : Inv X pins σ H1 { s1 with heap := h' } := I1.kept (t' := s1.toks) hk
      refine ⟨s1.heap.objs.size + 1, [s1.heap.objs.size + 1, s1.heap.objs.size], _, _, H1, rfl, I2, turn_enum a (s1.heap.objs.size + 1) s1.heap.objs.size, ⟨⟨.none, he⟩, hit, Nat.succ_ne_self _⟩, fun b hb => ?_, q⟩
      have e' : b = s1.heap.objs.size + 1 ∨ b = s1.heap.objs.size := by simpa using hb
      have hle : s1.heap.objs.size ≤ b := by
        rcases e' with z | z
        · rw [z]; exact Nat.le_add_right _ _
        · rw [z]; exact Nat.le_refl _
      exact I1.fpOk hle (I1.hok.fresh hle)
    · obtain ⟨its, rv, p', hz⟩ := I1.tuple hq
      have p' : s1.heap.IsTuple a its.toArray := p'
      have hal : a < s1.heap.objs.size := by obtain ⟨_, q, _⟩ := p'; exact Heap.lt_size q
      refine call_enumT p' fun h' he hit hsz hk => wpAny_pyIter_enum he ?_
      have I2 : Inv X pins σ H1 { s1 with heap := h' } := I1.kept (t' := s1.toks) hk
      refine ⟨s1.heap.objs.size + 1, [s1.heap.objs.size + 1, s1.heap.objs.size], _, _, H1, rfl, I2, turn_enumT a (s1.heap.objs.size + 1) s1.heap.objs.size, ⟨⟨.none, he⟩, hit, Nat.succ_ne_self _, Nat.ne_of_lt hal, Nat.ne_of_lt (Nat.lt_succ_of_lt hal)⟩, fun b hb => ?_, q⟩
      have e' : b = s1.heap.objs.size + 1 ∨ b = s1.heap.objs.size := by simpa using hb
      have hle : s1.heap.objs.size ≤ b := by
        rcases e' with z | z
        · rw [z]; exact Nat.le_add_right _ _
        · rw [z]; exact Nat.le_refl _
      exact I1.fpOk hle (I1.hok.fresh hle)
section
variable {K : PySem.W.Frag} {H : Hp} {G : GHp} {Z : Addr → Bool}
theorem it_enumT {a : Addr} {xs : List V} {ds : List D} (h : SqT K (U H G Z) a xs) (r : Reps K (U H G Z) ds xs) : ItOk K (IteT K a) (enumFrom 0 ds) none H G Z := by
  have hq : ∀ H' G', Kp H G Z H' G' → SqT K (U H' G' Z) a xs := fun H' G' k => SqT.mono k.keep h
  refine ⟨fun i d H' G' e k ok gd => ?_, fun H' G' k ok gd => ?_⟩
  · rw [enumFrom_get] at e
    cases e0 : ds[i]? with
    | none => rw [e0] at e; simp at e
    | some y =>
      rw [e0] at e
      simp only [Option.map_some, Option.some.injEq, Nat.zero_add] at e
      subst e
      have hs := SqT.mono U_le (hq H' G' k)
      obtain ⟨v, hv, rv⟩ := r.get e0
      refine ⟨⟨xs, v, hs, hv⟩, fun x H'' ⟨T, w, e1, e2, e3, e4⟩ => ?_⟩
      subst e1 e3
      have ew := e4 xs hs
      rw [hv] at ew; cases ew
      have k2 := Kp.laid (H := H') (G := G') (Z := Z) (o := .tup [.int ((i : Nat) : Int), v]) e2
      refine ⟨k2, ok.laid e2, .tup (SqT.of (U_laid ok e2)) (.cons (.int _) (.cons ((rv.mono k.keep).mono k2.keep) .nil))⟩
  · exact ⟨xs, SqT.mono U_le (hq H' G' k), by rw [enumFrom_length]; exact Nat.le_of_eq r.length.symm⟩
end
def dEnumQ (te : DTE) : DTI := fun δ G R => te δ G fun x G1 => match x with
  | .tup ds => R (enumFrom 0 ds) none G1
  | x => match lsOf G1 x with
    | some ds => R (enumFrom 0 ds) (gdOf G1 x) G1
    | none => False
section
variable {X : Cx} {e : Expr} {te : DTE} {p pos : Pos}
theorem di_enumQ {tpos : Pos} {elts : List Expr} {kk : Nat} (hg : Gl X "enumerate") (hm : X.mg "enumerate" = none) (he : DE X e te) (hs : starEach [e] X.env = [(false, eval e X.env)] := by rfl) :
    DI X (.Tuple elts kk tpos) (.Call (.Name "enumerate" p) [e] [] pos) (dEnumQ te) :=
  PI.mono (pi_enumQ hg hm (pa_cons he pa_nil hs) hs) fun σ H R ⟨δ, G, Z, Q0, ok, rs, h, k⟩ =>
    ⟨δ, G, Z, _, ok, rs, h, fun x G1 v H1 h1 k1 ok1 r1 => by
      have lst : (match lsOf G1 x with | some ds => Q0 (enumFrom 0 ds) (gdOf G1 x) G1 | none => False) → ∃ a xs, [v] = [V.ref a] ∧ ((SqL X.K H1 a xs ∧ R (Ite X.K a) H1) ∨ (SqT X.K H1 a xs ∧ R (IteT X.K a) H1)) := by
        intro h1
        split at h1
        · next ds e =>
          obtain ⟨a, xs, rfl, ha, _⟩ := ls_stay (fun _ _ => rfl) ok1 r1 e
          refine ⟨a, xs, rfl, .inl ⟨SqL.of ha, k _ _ _ _ _ h1 k1 ok1 fun Z' z1 z2 => ?_⟩⟩
          obtain ⟨a', xs', e', _, st⟩ := ls_stay z2 ok1 r1 e
          cases e'
          exact it_enum st
        · exact h1.elim
      cases r1 with
      | tup q rr => exact ⟨_, _, rfl, .inr ⟨SqT.mono U_le q, k _ _ _ _ _ h1 k1 ok1 fun Z' z1 z2 => it_enumT (SqT.mono (U_ext z2) q) (rr.mono (U_ext z2))⟩⟩
      | _ => exact lst h1⟩
end
/-- a comprehension that changes nothing, any target -/
theorem lc_mapG {m : Bool} {gd : Gd} {g : Tgt} {tt : DTT} {te : DTE} {δw : DSt} {G : GHp} {Q : DK} {α : Type} {enc : α → D} {keep : α → Bool} {f : α → D} {xs : List α} (dst : α → DSt) (hz : xs.length ≤ sizeLine) (hg : gd.ok G) (hd : ∀ x ∈ xs, g.set (enc x) δw = some (dst x))
    (ht : ∀ x ∈ xs, EvT tt (dst x) G (keep x)) (he : ∀ x ∈ xs, keep x = true → Ev te (dst x) G (f x)) (h : lcEnd m ((xs.filter keep).map f) G Q) :
    dLcL m gd g tt te δw (xs.map enc) [] G Q := by
  refine lc_ind (fun r acc G' => G' = G ∧ ∃ pre, xs = pre ++ r ∧ acc = (pre.filter keep).map f) ?_ ?_ xs [] G ⟨rfl, [], rfl, rfl⟩
  · rintro acc _ ⟨rfl, pre, e, rfl⟩
    rw [List.append_nil] at e
    subst e
    exact ⟨hg, h⟩
  · rintro x r acc _ ⟨rfl, pre, e, rfl⟩
    have hx : x ∈ xs := by rw [e]; simp
    refine ⟨hg, _, hd x hx, fun N hN => ?_⟩
    refine ht x hx _ ⟨fun hk => ?_, fun hk => ?_⟩
    · refine he x hx hk _ ⟨?_, hN _ _ ⟨rfl, pre ++ [x], by rw [e]; simp, ?_⟩⟩
      · have h1 : ((pre.filter keep).map f).length ≤ pre.length := by rw [List.length_map]; exact List.length_filter_le _ _
        have h2 : xs.length = pre.length + (r.length + 1) := by rw [e]; simp
        omega
      · rw [List.filter_append, List.map_append]
        simp [hk]
    · refine hN _ _ ⟨rfl, pre ++ [x], by rw [e]; simp, ?_⟩
      rw [List.filter_append, List.map_append]
      simp [hk]
end DL
set_option Elab.async false
set_option linter.all false
set_option maxRecDepth 100000
set_option maxHeartbeats 1000000
/-! DL, part 12: exceptions at the heads of statements. -/
namespace DL
open PySem PySem.Spec L2

/-! ### what makes an exception -/
abbrev DTM := DSt → GHp → DXK → Prop
def cM (K : PySem.W.Frag) (t : DTM) : St → Hp → XK → Prop := fun σ H Q => ∃ (δ : DSt) (G : GHp) (Z : Addr → Bool) (Q0 : DXK), Ok K H G Z ∧ RepSt K (U H G Z) δ σ ∧ t δ G Q0 ∧ XLk K Z Q0 Q H G
def DMk (X : Cx) (e : Expr) (t : DTM) : Prop := PMk X e (cM X.K t)
theorem PMk.mono {X : Cx} {e : Expr} {t u : St → Hp → XK → Prop} (h : PMk X e t) (k : ∀ σ H Q, u σ H Q → t σ H Q) : PMk X e u := fun pins s σ H Q I q => h pins s σ H Q I (k σ H Q q)
/-- an expression that may let an exception out -/
abbrev DTX := DSt → GHp → DK → DXK → Prop
def cEx (K : PySem.W.Frag) (W : WX) (t : DTX) : TE := fun σ H Q => ∃ (δ : DSt) (G : GHp) (Z : Addr → Bool) (Q0 : DK) (E0 : DXK), Ok K H G Z ∧ RepSt K (U H G Z) δ σ ∧ t δ G Q0 E0 ∧
  (∀ d G' v H', Q0 d G' → Kp H G Z H' G' → Ok K H' G' Z → Rep K (U H' G' Z) d v → Q v H') ∧ XLk K Z E0 (WE W σ) H G
def DEx (X : Cx) (W : WX) (e : Expr) (t : DTX) : Prop := PE X e (cEx X.K W t)
/-- where the ends' exceptions go, from the slots δ -/
def exAt (D : DEnds) (δ : DSt) : DXK := fun c fs G => D.ex c fs δ G
theorem ELk.xl {K : PySem.W.Frag} {W : WX} {Z : Addr → Bool} {D0 : DEnds} {E : Ends} {H : Hp} {G : GHp} {δ : DSt} {σ : St} (l : ELk K W Z D0 E H G) (rs : RepSt K (U H G Z) δ σ) : XLk K Z (exAt D0 δ) (WE W σ) H G :=
  ⟨fun c G' H' q k ok => l.exb _ _ _ _ _ q k ok (rs.mono k.keep), fun c fs G' H' dx xs q k ok u e r => l.exo _ _ _ _ _ _ _ _ q k ok (rs.mono k.keep) u e r⟩
section
variable {X : Cx} {W : WX} {e : Expr} {t : DTX} {tm : DTM} {pos : Pos}
/-- raise C(..) -/
def dRaise (t : DTM) : DTS := fun D δ G => t δ G (exAt D δ)
theorem ds_raise (hc : X.calm = true) (tk : Takes X W) (he : DMk X e tm) : DS X W (.Raise (some e) none pos) (dRaise tm) :=
  PS.mono (ps_raise hc tk he) fun E σ H ⟨δ, G, Z, D0, ok, rs, h, l⟩ => ⟨δ, G, Z, _, ok, rs, h, l.xl rs⟩
/-- f(..) as a statement -/
def dDropX (t : DTX) : DTS := fun D δ G => t δ G (fun _ G1 => D.nx δ G1) (exAt D δ)
theorem ds_exprX (he : DEx X W e t) (hs : swapsWith e none pos.line X.env = pure false := by rfl) : DS X W (.Expr e pos) (dDropX t) :=
  PS.mono (ps_expr he hs) fun E σ H ⟨δ, G, Z, D0, ok, rs, h, l⟩ =>
    ⟨δ, G, Z, _, _, ok, rs, h, fun d G' v H' q k ok' _ => l.nx _ _ _ _ q k ok' (rs.mono k.keep), l.xl rs⟩
/-- return f(..) -/
def dRetX (t : DTX) : DTS := fun D δ G => t δ G D.rt (exAt D δ)
theorem ds_retX (he : DEx X W e t) : DS X W (.Return (some e) pos) (dRetX t) :=
  PS.mono (ps_ret he) fun E σ H ⟨δ, G, Z, D0, ok, rs, h, l⟩ =>
    ⟨δ, G, Z, _, _, ok, rs, h, fun d G' v H' q k ok' r => l.rt _ _ _ _ q k ok' r, l.xl rs⟩
/-- target = f(..) -/
def dAsgX (t : DTX) (g : Tgt) : DTS := fun D δ G => t δ G (fun d G1 => match g.set d δ with
  | some δ' => D.nx δ' G1
  | none => False) (exAt D δ)
theorem asg_splitX {K : PySem.W.Frag} {g : Tgt} {E : Ends} {σ : St} {H : Hp} {W : WX} (h : cS K W (dAsgX t g) E σ H) : tAsg (cEx K W t) (g.tg K) E σ H := by
  obtain ⟨δ, G, Z, D0, ok, rs, h, l⟩ := h
  refine ⟨δ, G, Z, _, _, ok, rs, h, fun d G1 v H1 h1 k1 ok1 r1 => ?_, l.xl rs⟩
  have h1 : (match g.set d δ with | some δ' => D0.nx δ' G1 | none => False) := h1
  split at h1
  · next δ' e =>
    exact g.run U_le r1 (rs.mono k1.keep) e fun σ' rs' _ => l.nx _ _ _ _ h1 k1 ok1 rs'
  · exact h1.elim
theorem ds_asgX {tg : Expr} {g : Tgt} (he : DEx X W e t) (hg : PG X tg (g.tg X.K)) (hs : swapsWithSole [tg] e pos.line X.env = pure false := by rfl) (hw : swappedStores [tg] e X.env = pure none := by rfl)
    (h1 : (assignEach [tg] X.env).map (·.2) = [assign tg X.env] := by rfl) : DS X W (.Assign [tg] e pos) (dAsgX t g) :=
  PS.mono (ps_asg he hg hs hw h1) fun E σ H h => asg_splitX h
theorem ds_setX {i : Nat} {x : Str} {pos' : Pos} (hN : X.N.Nodup) (hi : X.N[i]? = some x) (hx : Loc X.env.scope x) (he : DEx X W e t) (hs : swapsWith e (some (.Name x pos')) pos.line X.env = pure false := by rfl) (hf : X.fn x = true ∨ X.env.scope.names.lookup x = some .local := by first | exact .inl rfl | exact .inr rfl | assumption) :
    DS X W (.Assign [.Name x pos'] e pos) (dAsgX t (.nm i)) :=
  PS.mono (ps_set hN hi hx he hs hf) fun E σ H h => asg_splitX (g := .nm i) h
/-! ### calls that may raise -/
def dCallX (sp : DSp) (t : DTA) : DTX := fun δ G Q E => t δ G fun ds G1 => sp ds G1 Q E
theorem de_callX {k : Nat} {f : Addr} {fd : FuncData} {ps : List Str} {sp : DSp} {x : Str} {p : Pos} {es : List Expr} {ta : DTA} (tk : Takes X W) (F : FnOk X.prog X.w X.K X.mg X.base (L2.CX X.prog X.w) k f fd ps (cSp X.K sp)) (hr : Room k X.A) (hg : Gl X x) (hm : X.mg x = some (.ref f)) (hk : PySem.W.keepIn X.K (.ref f) = true) (hb : Binds X.K fd ps [])
    (ha : DA X (e :: es) ta) (hdb : (x == ("__debug__" : Str)) = false := by decide) (he : starEach (e :: es) X.env = (false, eval e X.env) :: starEach es X.env := by rfl) (hpl : (backTo pos (starEach es X.env)).any (·.1) = false := by rfl) :
    DEx X W (.Call (.Name x p) (e :: es) [] pos) (dCallX sp ta) :=
  PE.mono (pe_callS (E := WE W) F hr hg hm hk hb (fun σ => passAt tk σ) ha hdb he hpl) fun σ H Q ⟨δ, G, Z, Q0, E0, ok, rs, h, k, x⟩ =>
    ⟨δ, G, Z, _, ok, rs, h, fun ds G1 vs H1 h1 k1 ok1 r1 => ⟨ds, G1, Z, Q0, E0, ok1, r1, h1, fun d G' v H' q k2 ok2 r2 => k _ _ _ _ q (k1.trans k2) ok2 r2, x.after k1⟩⟩
end
/-! ### defs that may raise -/
section
variable {P : Program} {w : World} {K : PySem.W.Frag} {mg : Str → Option Value} {base : Heap} {x qual : Str} {st : Stmt} {f : Addr} {fd : FuncData} {N ps : List Str} {k : Nat} {t : DTS} {l : DSt} {dv : List V} {kv : List (Str × V)}
abbrev WD (E : XK) : WX := fun c d _ H => E c d H
theorem takes_cx {scope : Scope} {cdv : Value} {A : Around} {outer : List Env} {s : Shared} {H : Hp} {E : XK} : Takes (cxOf (L2.CX P w) P w K mg base N qual scope f cdv A outer s H E) (WD E) := takes_of rfl rfl rfl rfl
theorem passes_cx {scope : Scope} {cdv : Value} {A : Around} {outer : List Env} {s : Shared} {H : Hp} {E : XK} : PassesOwn (model P w) (cxOf (L2.CX P w) P w K mg base N qual scope f cdv A outer s H E).A (cxOf (L2.CX P w) P w K mg base N qual scope f cdv A outer s H E).env (cxOf (L2.CX P w) P w K mg base N qual scope f cdv A outer s H E).xe := passes_of rfl
abbrev DerX (P : Program) (w : World) (K : PySem.W.Frag) (mg : Str → Option Value) (base : Heap) (N : List Str) (qual : Str) (st : Stmt) (f : Addr) (k : Nat) (t : DTS) : Prop :=
  ∀ (cdv : Value) (A : Around) (outer : List Env) (s : Shared) (H : Hp) (E : XK), Room k (A.deeper (PyProof.Rows.envOfC qual (defScope st) s.heap.objs.size f cdv)) → DSs (cxOf (L2.CX P w) P w K mg base N qual (defScope st) f cdv A outer s H E) (WD E) (defBody st) t
/-- where a body starts, and where its exceptions go -/
abbrev DRunX (t : DTS) (δ : DSt) (G : GHp) (Q : DK) (E0 : DXK) : Prop := t { nx := fun _ G' => Q .non G', rt := Q, ex := fun c fs _ G' => E0 c fs G' } δ G
theorem DFunX.ok {sp : DSp} (F : FunD K x qual (defArgs st) (defBody st) (defScope st) dv kv f fd) (S : FnScope N ps (defScope st)) (len : ∀ ds G Q E, sp ds G Q E → ds.length = ps.length) (d : DerX P w K mg base N qual st f k t)
    (rd : ∀ ds G Q E0, sp ds G Q E0 → DRunX t (dstart N ds) G Q E0) : FnOk P w K mg base (L2.CX P w) (k + 1) f fd ps (cSp K sp) := by
  refine F.ok S (fun vs H Q E ⟨ds, G, Z, Q0, E0, ok, rs, h, k, x⟩ => rs.length.symm.trans (len _ _ _ _ h)) fun cdv A outer s H vs Q E hr ⟨ds, G, Z, Q0, E0, ok, rs, h, k, x⟩ => ?_
  refine ⟨_, d cdv A outer s H E hr, _, G, Z, _, ok, RepSt.start rs, rd ds G Q0 E0 h, ⟨fun δ' G' σ' H' q k1 ok1 _ => k _ _ _ _ q k1 ok1 .non, fun _ _ _ _ q => q.elim, fun _ _ _ _ q => q.elim, fun d G' v H' q k1 ok1 r1 => k _ _ _ _ q k1 ok1 r1,
    fun c δ' G' σ' H' q k1 ok1 _ => x.bare c G' H' q k1 ok1, fun c fs δ' G' σ' H' dx xs q k1 ok1 _ u e r => x.own c fs G' H' dx xs q k1 ok1 u e r⟩⟩
end
end DL
set_option Elab.async false
set_option linter.all false
set_option maxRecDepth 100000
set_option maxHeartbeats 1000000
/-! DL, part 13: the __init__ of an own exception class that calls its own base class's. -/
namespace DL
open PySem PySem.Spec L2 PyProof.Rows

/-- what the base class must say: its __init__ is ValueError's -/
structure BsC (K : PySem.W.Frag) (C : Addr) : Prop where
  rd : PySem.W.readsIn K C (.type "type") = true
  ga : PySem.W.specialIn K (.ref C) "__getattribute__" = some (some (.builtin "type.__getattribute__"))
  at_ : PySem.W.findCls K (.ref C) (.type "type") "__init__" = some (.val (.builtin "ValueError.__init__"))
section
variable {X : Cx} {e : Expr} {es : List Expr} {ta : TA} {x : Str} {C : Addr} {p1 p2 pos : Pos} {pl : Sem Bool}
theorem pe_bsinit (T : BsC X.K C) (hg : Gl X x) (hm : X.mg x = some (.ref C)) (ha : PA X (e :: es) ta) (hdb : (x == ("__debug__" : Str)) = false := by decide)
    (hc : eval (.Call (.Attribute (.Name x p1) "__init__" p2) (e :: es) [] pos) X.env = (do
      let ov ← eval (.Name x p1) X.env
      standAt p2.atName
      let (f, first) ← holding [ov] (getMethod ov "__init__" pl)
      callWith pos f first (backTo pos (starEach (e :: es) X.env)) (backToKw pos (keywordEach [] X.env))) := by rfl)
    (he : starEach (e :: es) X.env = (false, eval e X.env) :: starEach es X.env := by rfl) (hpl : (backTo pos (starEach es X.env)).any (·.1) = false := by rfl) :
    PE X (.Call (.Attribute (.Name x p1) "__init__" p2) (e :: es) [] pos) (tVeI X.K ta) := by
  refine ⟨fun pins s σ H Q I h => ?_⟩
  refine PySem.W.methodCall_KW (ld_glob I hg hm ?_ hdb) hc
  refine PySem.W.method_cls I.kIn T.ga (PySem.W.cls_value I.kIn T.rd T.at_ (by decide +kernel) ?_)
  show wpAny _ _ (callWith pos (Value.builtin "ValueError.__init__") [] (backTo pos (starEach (e :: es) X.env)) []) _ _ _
  refine PyProof.Rows.callWith_method1 (thn (ha.run pos pins _ σ H _ (I.tok _) h) fun us s1 ⟨vs, H1, I1, r1, a, C, ws, ev, hl, T, ea, q⟩ => ?_) he hpl
  subst ev
  cases r1 with
  | @cons _ u0 _ ur ra rw' =>
    obtain rfl : u0 = Value.ref a := ra
    have hlen : ur.length ≤ sizeLine := by
      rw [← Paired.length rw', sizeLine_eq]
      omega
    exact oinit_ok T I1 ea hlen fun s' J => ⟨.non, H1, J, rfl, q⟩
end
/-! ### C(e): an own __init__ that keeps its one argument in the field f -/
def spI (C : Addr) (f : Str) : Sp := fun vs H Q _ => ∃ (a : Addr) (v : V), vs = [.ref a, v] ∧ H a = some (exo a C none) ∧ ∀ dx, H dx = none → dx ≠ a → Q .non (upd (upd H dx (exd dx [(f, v)])) a (exo a C (some dx)))
/-- raise C(e) -/
def dMk1 (C : Addr) (f : Str) (ta : DTA) : DTM := fun δ G Q => ta δ G fun ds G1 => match ds with
  | [d] => Q (.ref C) (some [(f, d)]) G1
  | _ => False
section
variable {X : Cx} {e : Expr} {es : List Expr} {ta : DTA} {x : Str} {C fI : Addr} {p pos : Pos} {k : Nat} {fd : FuncData} {ps : List Str} {f : Str}
theorem made_heap {H1 : Hp} {a C dx : Addr} {f : Str} {v : V} (ha : H1 a = none) (hne : dx ≠ a) :
    upd (del (upd (upd (upd H1 a (exo a C none)) dx (exd dx [(f, v)])) a (exo a C (some dx))) a) dx (.xd [(f, v)]) = upd H1 dx (.xd [(f, v)]) := by
  funext b
  by_cases h1 : b = dx
  · rw [h1, upd_same, upd_same]
  · rw [upd_ne h1, upd_ne h1]
    by_cases h2 : b = a
    · rw [h2, del_same, ha]
    · rw [del_ne h2, upd_ne h2, upd_ne h1, upd_ne h2]
theorem dm_mk1 (T : OexC X.K C) (iC : PySem.W.findIn X.K (.ref C) "__init__" = some (some (.ref fI))) (tI : PySem.W.typeIn X.K (.ref fI) = some (.type "function"))
    (F1 : FnOk X.prog X.w X.K X.mg X.base CX0 k fI fd ps (spI C f)) (hr : Room (k + 1) X.A) (hb : Binds X.K fd ps []) (hg : Gl X x) (hm : X.mg x = some (.ref C)) (ha : DA X (e :: es) ta)
    (hdb : (x == ("__debug__" : Str)) = false := by decide) (he : starEach (e :: es) X.env = (false, eval e X.env) :: starEach es X.env := by rfl) (hpl : (backTo pos (starEach es X.env)).any (·.1) = false := by rfl) :
    DMk X (.Call (.Name x p) (e :: es) [] pos) (dMk1 C f ta) :=
  PMk.mono (pmk_oex T iC tI F1 hr hb .nil pass0 hg hm ha hdb he hpl) fun σ H Q ⟨δ, G, Z, Q0, ok, rs, h, xl⟩ =>
    ⟨δ, G, Z, _, ok, rs, h, fun ds G1 vs H1 h1 k1 ok1 r1 => by
      rcases r1 with _ | ⟨ra, r1⟩
      · exact False.elim h1
      rcases r1 with _ | ⟨rb, r1⟩
      · next d v =>
        have h1 : Q0 (.ref C) (some [(f, d)]) G1 := h1
        refine ⟨by simp, fun a hna => ⟨a, v, rfl, upd_same, fun dx hdx hne => ⟨rfl, dx, [(f, v)], upd_same, by rw [upd_ne hne, upd_same], by rw [upd_ne hne] at hdx; exact hdx, ?_⟩⟩⟩
        have hdx' : H1 dx = none := by rw [upd_ne hne] at hdx; exact hdx
        rw [made_heap hna hne]
        have k2 := Kp.laid (H := H1) (G := G1) (Z := Z) (o := .xd [(f, v)]) hdx'
        exact xl.own _ _ _ _ _ _ h1 (k1.trans k2) (ok1.laid hdx') (U_laid ok1 hdx') rfl (.cons (ra.mono k2.keep) .nil)
      · exact False.elim h1⟩
end
end DL
set_option Elab.async false
set_option linter.all false
set_option maxRecDepth 100000
set_option maxHeartbeats 1000000
/-! DL, part 14: try: .. except C as e: return e.f -/
namespace DL
open PySem PySem.Spec L2

theorem lookup_rep {K : PySem.W.Frag} {W : Hp} {f : Str} : ∀ {fs : List (Str × D)} {xs : List (Str × V)} {d : D}, xs.map (·.1) = fs.map (·.1) → Reps K W (fs.map (·.2)) (xs.map (·.2)) → fs.lookup f = some d → ∃ v, xs.lookup f = some v ∧ Rep K W d v
  | [], _, _, _, _, e => by simp at e
  | (g, y) :: fs, [], _, hn, _, _ => by simp at hn
  | (g, y) :: fs, (g', u) :: xs, d, hn, r, e => by
    simp only [List.map_cons, List.cons.injEq] at hn
    obtain ⟨h1, h2⟩ := hn
    have h1 : g' = g := h1
    subst h1
    cases r with
    | cons r1 r2 =>
      by_cases h : f = g'
      · subst h
        simp [List.lookup] at e
        subst e
        exact ⟨u, by simp [List.lookup], r1⟩
      · have hf : (f == g') = false := by simpa using h
        simp only [List.lookup, hf] at e ⊢
        exact lookup_rep h2 r2 e
/-- what a handler 'except c as n: return n.f' makes of an exception -/
def exRet (K : PySem.W.Frag) (c : Value) (C : Addr) (f : Str) (i : Nat) (D : DEnds) : DXS := fun cls fs δ G =>
  ∃ b, PySem.W.exmOne K cls c = some b ∧ (b = true → cls = .ref C ∧ i < δ.length ∧ ∃ fs' d, fs = some fs' ∧ fs'.lookup f = some d ∧ D.rt d G) ∧ (b = false → D.ex cls fs δ G)
def dTryRet (K : PySem.W.Frag) (c : Value) (C : Addr) (f : Str) (i : Nat) (tb : DTS) : DTS := fun D δ G => tb { D with ex := exRet K c C f i D } δ G
section
variable {X : Cx} {W : WX} {x n f : Str} {c : Value} {C : Addr} {i : Nat} {body : List Stmt} {np p1 p2 p3 pos pos' : Pos} {tb : DTS}
theorem ds_tryRet (hs : X.stack = X.env :: X.outer) (hf : X.env.frame = some X.env.locals) (hN : X.N.Nodup) (hi : X.N[i]? = some n) (hln : X.env.kindOf n = some .local) (hc : Names X x c) (tk : Takes X W)
    (hb : ∀ (W' : WX) (pn : List (Addr × Obj)) (xe : Value → Shared → Prop), Takes (X.tr pn xe) W' → PassesOwn (model X.prog X.w) X.A X.env xe → DSs (X.tr pn xe) W' body tb)
    (T : XfC X.K C) (hno : PySem.W.findIn X.K (.ref C) f = some none)
    (hv : ∀ (a : Addr) (pn : List (Addr × Obj)), PE (X.suite a pn) (.Name n p1) (tVar i)) :
    DS X W (.Try body [.ExceptHandler (some (.Name x np)) (some n) [.Return (some (.Attribute (.Name n p1) f p2)) p3] pos'] [] [] pos) (dTryRet X.K c C f i tb) :=
  PS.mono (ps_try_as (tb := fun W' => cS X.K W' tb) (ts := fun a cls d D σ H => tXf a cls d C f (tVar i) σ H D.rt) hs hf hN hi hln hc tk (fun W' pn xe t1 t2 => hb W' pn xe t1 t2)
    (fun a oe cls d pn hz hfl => pss_one (ps_ret (pe_xf T hno hz hfl (hv a _))))) fun E σ H ⟨δ, G, Z, D0, ok, rs, h, l⟩ => by
    refine ⟨δ, G, Z, _, ok, rs, h, ⟨l.nx, l.bk, l.ct, l.rt, fun cls δ' G' σ' H' q k ok' rs' => ?_, fun cls fs δ' G' σ' H' dx xs q k ok' rs' u e r => ?_⟩⟩
    · obtain ⟨b, hb1, h1, h2⟩ := q
      refine ⟨b, hb1, fun hb2 => ?_, fun hb2 => l.exb _ _ _ _ _ (h2 hb2) k ok' rs'⟩
      obtain ⟨_, _, fs', d, e, _⟩ := h1 hb2
      cases e
    · obtain ⟨b, hb1, h1, h2⟩ := q
      refine ⟨b, hb1, fun hb2 a ha => ?_, fun hb2 => l.exo _ _ _ _ _ _ _ _ (h2 hb2) k ok' rs' u e r⟩
      obtain ⟨ec, hil, fs', d, ef, hl, hrt⟩ := h1 hb2
      cases ef
      obtain ⟨v, hv1, hv2⟩ := lookup_rep e r hl
      have hl2 : i < σ'.length := by rw [← rs'.length]; exact hil
      exact ⟨.ref a, by simp [hl2], rfl, ec, dx, xs, v, rfl, U_le _ _ u, hv1, l.rt _ _ _ _ hrt k ok' hv2⟩
end
end DL
set_option Elab.async false
set_option linter.all false
set_option maxRecDepth 100000
set_option maxHeartbeats 1000000
/-! DL, part 15: what an own exception's __init__ (base's __init__(self, text); self.f = e) does, at HandS' level. -/
namespace DL
open PySem PySem.Spec L2 PyProof.Rows
/-- B.__init__(self, m); self.f = p -/
def tInit1 (K : PySem.W.Frag) (m f : Str) : TS := tSeq (tDrop (tVeI K (tCons (tVar 0) (tCons (tC (.str m)) tNil)))) (tOst K f (tVar 0) (tVar 1))
section
variable {P : Program} {w : World} {K : PySem.W.Frag} {mg : Str → Option Value} {base : Heap} {x qual : Str} {st : Stmt} {fI C : Addr} {fd : FuncData} {k : Nat} {a b m f : Str} {dv : List V} {kv : List (Str × V)}
theorem ok_init1 (T : OexC K C) (hno : PySem.W.findIn K (.ref C) f = some none) (F : FunD K x qual (defArgs st) (defBody st) (defScope st) dv kv fI fd) (S : FnScope [a, b] [a, b] (defScope st))
    (d : ∀ (cdv : Value) (A : Around) (outer : List Env) (s : Shared) (H : Hp) (E : XK), PSs (cxOf CX0 P w K mg base [a, b] qual (defScope st) fI cdv A outer s H E).nox (defBody st) (tInit1 K m f)) :
    FnOk P w K mg base CX0 (k + 1) fI fd [a, b] (spI C f) := by
  refine F.ok S (fun vs H Q E ⟨o, v, e, _⟩ => by rw [e]; rfl) fun cdv A outer s H vs Q E hr ⟨o, v, e, ha, q⟩ => ?_
  subst e
  refine ⟨_, PSs.nox (d cdv A outer s H E), ?_⟩
  conv => whnf
  refine ⟨.ref o, rfl, ?_⟩
  conv => whnf
  refine ⟨o, C, [.str m], rfl, (show 1 ≤ 1000 by omega), T, ha, ?_⟩
  conv => whnf
  refine ⟨v, rfl, ?_⟩
  conv => whnf
  refine ⟨.ref o, rfl, o, C, rfl, T, hno, .inl ⟨ha, fun dx hn hne => q dx hn hne⟩⟩
end
end DL
set_option Elab.async false
set_option linter.all false
set_option maxRecDepth 100000
set_option maxHeartbeats 1000000
/-! DL, part 16: facts about own exception classes, told by one Bool more; the Hook for it. -/
namespace DL
open PySem PySem.Spec L2 PyProof.Rows He
/-! ### the Hook: defs, facts, one Bool -/
abbrev AlE : Type := AlD × Bool
def obsE (fa : List Fa) (fn : List DefD) (ex : PySem.W.Frag → Bool) (K : PySem.W.Frag) : AlE := (obsD fa fn K, ex K)
def valE (fn : List DefD) : AlE := (valD fn, true)
def SaysE (fa : List Fa) (fn : List DefD) (ex : PySem.W.Frag → Bool) (K : PySem.W.Frag) : Prop := obsE fa fn ex K = valE fn
def obsEG (n : Nat) (fa : List Fa) (fn : List DefD) (ex : PySem.W.Frag → Bool) (g : Addr → Option Obj) : AlE := obsE fa fn ex (frG g (cStatics :: asD g n))
def hookE (n : Nat) (fa : List Fa) (fn : List DefD) (ex : PySem.W.Frag → Bool) : PySem.W.Hook where
  α := AlE
  obs := fun s => obsEG n fa fn ex s.heap.get?
  val := fun _ => valE fn
  says := fun _ h => ∃ K : PySem.W.Frag, K.In h ∧ SaysE fa fn ex K
  of := fun _ _ e => ⟨_, frG_in, e⟩
  keeps := fun _ _ _ ⟨K, hK, c⟩ k => ⟨K, PySem.W.Frag.In.keeps hK k, c⟩
theorem obsEG_eq {n : Nat} {fa : List Fa} {fn : List DefD} {ex : PySem.W.Frag → Bool} {g : Addr → Option Obj} {s : Shared} (h : ∀ a, g a = s.heap.get? a) : obsEG n fa fn ex g = (hookE n fa fn ex).obs s := by
  have e : g = s.heap.get? := funext h
  rw [e] <;> rfl
section
variable {fa : List Fa} {fn : List DefD} {ex : PySem.W.Frag → Bool} {K : PySem.W.Frag}
theorem SaysE.d (c : SaysE fa fn ex K) : SaysD fa fn K := congrArg (fun z : AlE => z.1) c
theorem SaysE.more (c : SaysE fa fn ex K) : ex K = true := congrArg (fun z : AlE => z.2) c
end
/-! ### an own class under ValueError -/
def oexO (C : Addr) : Obj → Bool
  | ⟨oc, _, .cls cd, sl⟩ => eqO (some (some oc)) (some (some (.type "type"))) && (decide (cd.mro = .ref C :: cd.mro.tail) && (PySem.HandSPX.refsVE cd.mro.tail && (cd.hasDict && (!cd.hasDel &&
    decide (sl = #[sl.getD 0 none, sl.getD 1 none, sl.getD 2 none, sl.getD 3 none, some (.builtin "ValueError.__new__"), sl.getD 5 none])))))
  | _ => false
theorem oexO_ok {C : Addr} {o : Obj} (h : oexO C o = true) : ∃ nm q N bs bm sn sub ab col dd k0 k1 k2 k3 k5, o = excClassObj nm q C N bs bm true sn sub ab col dd k0 k1 k2 k3 k5 "ValueError.__new__" ∧ PySem.HandSPX.refsVE bm = true := by
  obtain ⟨oc, od, dt, sl⟩ := o
  cases dt with
  | cls cd =>
    obtain ⟨h1, h2⟩ := ba h
    have h1 := Option.some.inj (Option.some.inj (eqO_ok h1))
    obtain ⟨h3, h4⟩ := ba h2
    obtain ⟨h5, h6⟩ := ba h4
    obtain ⟨h7, h8⟩ := ba h6
    obtain ⟨h9, h10⟩ := ba h8
    have h3 := of_decide_eq_true h3
    have h10 := of_decide_eq_true h10
    obtain ⟨nm, bs, mro, ns, q, hd, sn, sub, ab, col, del⟩ := cd
    have h3 : mro = .ref C :: mro.tail := h3
    have h5 : PySem.HandSPX.refsVE mro.tail = true := h5
    have h7 : hd = true := h7
    have h9 : (!del) = true := h9
    cases del with
    | true => cases h9
    | false =>
      subst h7
      subst h1
      exact ⟨nm, q, ns, bs, mro.tail, sn, sub, ab, col, od, sl.getD 0 none, sl.getD 1 none, sl.getD 2 none, sl.getD 3 none, sl.getD 5 none, by
        show (⟨_, _, .cls ⟨nm, bs, mro, ns, q, true, sn, sub, ab, col, false⟩, sl⟩ : Obj) = ⟨_, _, .cls ⟨nm, bs, .ref C :: mro.tail, ns, q, true, sn, sub, ab, col, false⟩, #[sl.getD 0 none, sl.getD 1 none, sl.getD 2 none, sl.getD 3 none, some (.builtin "ValueError.__new__"), sl.getD 5 none]⟩
        rw [← h3, ← h10], h5⟩
  | _ => cases h
def oexB (K : PySem.W.Frag) (C : Addr) : Bool := (match K.lookup C with
  | some o => oexO C o
  | none => false) && (eqO (PySem.W.findIn K (.ref C) "__setattr__") (some (some (.builtin "object.__setattr__"))) && (decide (PySem.W.subIn K (.ref C) (.type "BaseException") = some true) && (decide (PySem.W.typeIn K (.ref C) = some (.type "type")) && PySem.W.keepIn K (.ref C))))
theorem oexB_ok {K : PySem.W.Frag} {C : Addr} (h : oexB K C = true) : OexC K C := by
  obtain ⟨h1, h2⟩ := ba h
  obtain ⟨h3, h4⟩ := ba h2
  obtain ⟨h5, h6⟩ := ba h4
  obtain ⟨h7, h8⟩ := ba h6
  cases q : K.lookup C with
  | none =>
    rw [q] at h1
    cases h1
  | some o =>
    rw [q] at h1
    obtain ⟨nm, qn, N, bs, bm, sn, sub, ab, col, dd, k0, k1, k2, k3, k5, e, r⟩ := oexO_ok h1
    exact ⟨⟨nm, qn, N, bs, bm, sn, sub, ab, col, dd, k0, k1, k2, k3, k5, by rw [q, e], r⟩, eqO_ok h3, of_decide_eq_true h5, of_decide_eq_true h7, h8⟩
/-- the base class's __init__ is ValueError's -/
def cfV : Option PySem.W.CFound → Option (Option Value)
  | some (.val v) => some (some v)
  | _ => none
theorem cfV_ok : ∀ {o : Option PySem.W.CFound} {v : Value}, cfV o = some (some v) → o = some (.val v)
  | some (.val v), w, h => by
    have e : v = w := Option.some.inj (Option.some.inj h)
    rw [e]
  | some (.get _ _ _ _), _, h => by cases h
  | none, _, h => by cases h
def bscB (K : PySem.W.Frag) (C : Addr) : Bool := PySem.W.readsIn K C (.type "type") && (eqO (PySem.W.specialIn K (.ref C) "__getattribute__") (some (some (.builtin "type.__getattribute__"))) && eqO (cfV (PySem.W.findCls K (.ref C) (.type "type") "__init__")) (some (some (.builtin "ValueError.__init__"))))
theorem bscB_ok {K : PySem.W.Frag} {C : Addr} (h : bscB K C = true) : BsC K C := by
  obtain ⟨h1, h2⟩ := ba h
  obtain ⟨h3, h4⟩ := ba h2
  exact ⟨h1, eqO_ok h3, cfV_ok (eqO_ok h4)⟩
/-- where nothing is raised -/
theorem takes_w0 {X : Cx} : Takes X W0 := fun u s' ⟨a, B, sI, pins, σ, H, cls, d, e, I, nb, up, sky, na, os, ag, w⟩ => w.elim
end DL
set_option Elab.async false
set_option linter.all false
set_option maxRecDepth 100000
set_option maxHeartbeats 1000000
/-! DL, part 17: loops and comprehensions over range(n) with an invariant by the index; lists told by a function of the index. -/
namespace DL
open PySem PySem.Spec L2
def fup {α : Type} (f : Nat → α) (x : Nat) (v : α) : Nat → α := fun y => if y = x then v else f y
theorem fup_same {α : Type} {f : Nat → α} {x : Nat} {v : α} : fup f x v x = v := if_pos rfl
theorem fup_ne {α : Type} {f : Nat → α} {x y : Nat} {v : α} (h : y ≠ x) : fup f x v y = f y := if_neg h
theorem for_rng {gd : Gd} {g : Tgt} {tb : DTS} {E : DEnds} {enc : Nat → D} (I : Nat → DSt → GHp → Prop) (n : Nat) (hd : ∀ δ G, I n δ G → gd.ok G ∧ E.nx δ G)
    (hs : ∀ i, i < n → ∀ δ G, I i δ G → gd.ok G ∧ ∃ δ', g.set (enc i) δ = some δ' ∧ ∀ N : DSt → GHp → Prop, (∀ δ G, I (i + 1) δ G → N δ G) → tb { E with nx := N, ct := N, bk := E.nx } δ' G) (δ : DSt) (G : GHp) (h0 : I 0 δ G) :
    dForL gd g tb ((List.range n).map enc) E δ G := by
  refine for_ind (enc := enc) (fun r δ G => ∃ i, List.range n = List.range i ++ r ∧ i + r.length = n ∧ I i δ G) ?_ ?_ (List.range n) δ G ⟨0, rfl, by rw [List.length_range]; omega, h0⟩
  · rintro δ G ⟨i, e1, e2, h⟩
    rw [List.length_nil, Nat.add_zero] at e2
    subst e2
    exact hd δ G h
  · rintro j r δ G ⟨i, e1, e2, h⟩
    rw [List.length_cons] at e2
    have ej : j = i := by
      have := congrArg (fun l => l[i]?) e1
      simp only [List.getElem?_append_right (show (List.range i).length ≤ i by rw [List.length_range]; exact Nat.le_refl _), List.length_range, Nat.sub_self, List.getElem?_cons_zero] at this
      rw [List.getElem?_range (by omega)] at this
      exact (Option.some.inj this).symm
    subst ej
    obtain ⟨a, δ', b, c⟩ := hs j (by omega) δ G h
    refine ⟨a, δ', b, fun N hN => c N fun δ G q => hN δ G ⟨j + 1, by rw [e1, List.range_succ, List.append_assoc]; rfl, by omega, q⟩⟩
/-- the list of f 0 .. f (n - 1) -/
def tab (n : Nat) (f : Nat → D) : List D := (List.range n).map f
theorem tab_len (n : Nat) (f : Nat → D) : (tab n f).length = n := by simp [tab]
theorem tab_at {n : Nat} {f : Nat → D} {i : Nat} (h : i < n) {Q : D → Prop} (q : Q (f i)) : atD (tab n f) i Q := by
  refine atD_nat (d := f i) ?_ q
  unfold tab
  rw [List.getElem?_map, List.getElem?_range h]; rfl
theorem tab_set {n : Nat} {f : Nat → D} {i : Nat} {v : D} : (tab n f).set i v = tab n (fup f i v) := by
  refine List.ext_getElem? fun j => ?_
  unfold tab
  by_cases hj : j < n
  · by_cases e : j = i
    · subst e
      rw [List.getElem?_set_self (by simpa using hj), List.getElem?_map, List.getElem?_range hj]
      simp [fup]
    · rw [List.getElem?_set_ne (Ne.symm e), List.getElem?_map, List.getElem?_map, List.getElem?_range hj]
      simp [fup, e]
  · rw [List.getElem?_eq_none (by simp; omega), List.getElem?_eq_none (by simp; omega)]
theorem rep_tab (v : D) (n : Nat) : (List.replicate n [v]).flatten = tab n fun _ => v := by
  unfold tab
  induction n with
  | zero => rfl
  | succ n ih => rw [List.replicate_succ', List.flatten_append, ih, List.range_succ, List.map_append]; simp
theorem ixN_nat {n i : Nat} (h : i < n) : ixN n (i : Int) = some i := by
  unfold ixN
  rw [if_pos (by omega), if_pos (by omega)]
  simp
theorem fup_map {α β : Type} (g : α → β) (f : Nat → α) (x : Nat) (v : α) : (fun y => g (fup f x v y)) = fup (fun y => g (f y)) x (g v) := by
  funext y; unfold fup; split <;> rfl
theorem lc_rng {m : Bool} {gd : Gd} {g : Tgt} {tt : DTT} {te : DTE} {δw : DSt} {Q : DK} {enc : Nat → D} (I : Nat → List D → GHp → Prop) (n : Nat) (hd : ∀ acc G, I n acc G → gd.ok G ∧ lcEnd m acc G Q)
    (hs : ∀ i, i < n → ∀ acc G, I i acc G → gd.ok G ∧ ∃ δ', g.set (enc i) δw = some δ' ∧ ∀ N : List D → GHp → Prop, (∀ acc G, I (i + 1) acc G → N acc G) →
      tt δ' G fun b G1 => dIte b (te δ' G1 fun y G2 => acc.length < sizeLine ∧ N (acc ++ [y]) G2) (N acc G1)) (acc : List D) (G : GHp) (h0 : I 0 acc G) :
    dLcL m gd g tt te δw ((List.range n).map enc) acc G Q := by
  refine lc_ind (enc := enc) (fun r acc G => ∃ i, List.range n = List.range i ++ r ∧ i + r.length = n ∧ I i acc G) ?_ ?_ (List.range n) acc G ⟨0, rfl, by rw [List.length_range]; omega, h0⟩
  · rintro acc G ⟨i, e1, e2, h⟩
    rw [List.length_nil, Nat.add_zero] at e2
    subst e2
    exact hd acc G h
  · rintro j r acc G ⟨i, e1, e2, h⟩
    rw [List.length_cons] at e2
    have ej : j = i := by
      have := congrArg (fun l => l[i]?) e1
      simp only [List.getElem?_append_right (show (List.range i).length ≤ i by rw [List.length_range]; exact Nat.le_refl _), List.length_range, Nat.sub_self, List.getElem?_cons_zero] at this
      rw [List.getElem?_range (by omega)] at this
      exact (Option.some.inj this).symm
    subst ej
    obtain ⟨a, δ', b, c⟩ := hs j (by omega) acc G h
    refine ⟨a, δ', b, fun N hN => c N fun acc G q => hN acc G ⟨j + 1, by rw [e1, List.range_succ, List.append_assoc]; rfl, by omega, q⟩⟩
theorem tab_succ {n : Nat} {f : Nat → D} : tab (n + 1) f = tab n f ++ [f n] := by unfold tab; rw [List.range_succ, List.map_append]; rfl
theorem tab_congr {n : Nat} {f g : Nat → D} (h : ∀ i, i < n → f i = g i) : tab n f = tab n g := by
  unfold tab; exact List.map_congr_left fun i hi => h i (List.mem_range.mp hi)
theorem tab_at0 {n : Nat} {f : Nat → D} {i : Nat} (h : i < n) {Q : D → Prop} (q : Q (f i)) : atD (tab n f) (0 + (i : Int)) Q := by rw [Int.zero_add]; exact tab_at h q
theorem ixN_nat0 {n i : Nat} (h : i < n) : ixN n (0 + (i : Int)) = some i := by rw [Int.zero_add]; exact ixN_nat h
end DL
set_option Elab.async false
set_option linter.all false
set_option maxRecDepth 100000
set_option maxHeartbeats 1000000
/-! DL, part 18: defs that may raise by their number of parameters; what is known of an own exception class with one field. -/
namespace DL
open PySem PySem.Spec L2 PyProof.Rows He
/-- a def that may raise, called where it doesn't -/
theorem passX0 {X : Cx} : Passes (L2.CX X.prog X.w) X (fun _ _ _ => False) := fun pins σ H s e s' I c => passAt (W := W0) takes_w0 σ pins H s e s' I c
/-- an exception of the class that the module's name x stands for, with these fields -/
abbrev exC (K : PySem.W.Frag) (x : Str) : Value := .ref (ga K x)
section
variable {P : Program} {w : World} {K : PySem.W.Frag} {mg : Str → Option Value} {base : Heap} {x qual : Str} {st : Stmt} {f : Addr} {fd : FuncData} {N ps : List Str} {k : Nat} {t : DTS} {l : DSt} {dv : List V} {kv : List (Str × V)}
theorem DFunX.ok0 {p : GHp → DK → DXK → Prop} (F : FunD K x qual (defArgs st) (defBody st) (defScope st) dv kv f fd) (S : FnScope N ps (defScope st)) (hp : ps.length = 0) (hl : List.replicate (N.length - 0) none = l) (d : DerX P w K mg base N qual st f k t)
    (rd : ∀ G Q E, p G Q E → DRunX t (l) G Q E) : FnOk P w K mg base (L2.CX P w) (k + 1) f fd ps (cSp K (sp0 p)) :=
  DFunX.ok F S (fun ds G Q E h => by
    match ds, h with
    | [], _ => exact hp.symm) d fun ds G Q E0 h => by
    match ds, h with
    | [], h => subst hl; exact rd G Q E0 h
theorem DFunX.ok1 {p : D → GHp → DK → DXK → Prop} (F : FunD K x qual (defArgs st) (defBody st) (defScope st) dv kv f fd) (S : FnScope N ps (defScope st)) (hp : ps.length = 1) (hl : List.replicate (N.length - 1) none = l) (d : DerX P w K mg base N qual st f k t)
    (rd : ∀ a G Q E, p a G Q E → DRunX t (some a :: l) G Q E) : FnOk P w K mg base (L2.CX P w) (k + 1) f fd ps (cSp K (sp1 p)) :=
  DFunX.ok F S (fun ds G Q E h => by
    match ds, h with
    | [_], _ => exact hp.symm) d fun ds G Q E0 h => by
    match ds, h with
    | [a], h => subst hl; exact rd a G Q E0 h
theorem DFunX.ok2 {p : D → D → GHp → DK → DXK → Prop} (F : FunD K x qual (defArgs st) (defBody st) (defScope st) dv kv f fd) (S : FnScope N ps (defScope st)) (hp : ps.length = 2) (hl : List.replicate (N.length - 2) none = l) (d : DerX P w K mg base N qual st f k t)
    (rd : ∀ a b G Q E, p a b G Q E → DRunX t (some a :: some b :: l) G Q E) : FnOk P w K mg base (L2.CX P w) (k + 1) f fd ps (cSp K (sp2 p)) :=
  DFunX.ok F S (fun ds G Q E h => by
    match ds, h with
    | [_, _], _ => exact hp.symm) d fun ds G Q E0 h => by
    match ds, h with
    | [a, b], h => subst hl; exact rd a b G Q E0 h
theorem DFunX.ok3 {p : D → D → D → GHp → DK → DXK → Prop} (F : FunD K x qual (defArgs st) (defBody st) (defScope st) dv kv f fd) (S : FnScope N ps (defScope st)) (hp : ps.length = 3) (hl : List.replicate (N.length - 3) none = l) (d : DerX P w K mg base N qual st f k t)
    (rd : ∀ a b c G Q E, p a b c G Q E → DRunX t (some a :: some b :: some c :: l) G Q E) : FnOk P w K mg base (L2.CX P w) (k + 1) f fd ps (cSp K (sp3 p)) :=
  DFunX.ok F S (fun ds G Q E h => by
    match ds, h with
    | [_, _, _], _ => exact hp.symm) d fun ds G Q E0 h => by
    match ds, h with
    | [a, b, c], h => subst hl; exact rd a b c G Q E0 h
theorem DFunX.ok4 {p : D → D → D → D → GHp → DK → DXK → Prop} (F : FunD K x qual (defArgs st) (defBody st) (defScope st) dv kv f fd) (S : FnScope N ps (defScope st)) (hp : ps.length = 4) (hl : List.replicate (N.length - 4) none = l) (d : DerX P w K mg base N qual st f k t)
    (rd : ∀ a b c e G Q E, p a b c e G Q E → DRunX t (some a :: some b :: some c :: some e :: l) G Q E) : FnOk P w K mg base (L2.CX P w) (k + 1) f fd ps (cSp K (sp4 p)) :=
  DFunX.ok F S (fun ds G Q E h => by
    match ds, h with
    | [_, _, _, _], _ => exact hp.symm) d fun ds G Q E0 h => by
    match ds, h with
    | [a, b, c, e], h => subst hl; exact rd a b c e G Q E0 h
theorem DFunX.ok5 {p : D → D → D → D → D → GHp → DK → DXK → Prop} (F : FunD K x qual (defArgs st) (defBody st) (defScope st) dv kv f fd) (S : FnScope N ps (defScope st)) (hp : ps.length = 5) (hl : List.replicate (N.length - 5) none = l) (d : DerX P w K mg base N qual st f k t)
    (rd : ∀ a b c e g G Q E, p a b c e g G Q E → DRunX t (some a :: some b :: some c :: some e :: some g :: l) G Q E) : FnOk P w K mg base (L2.CX P w) (k + 1) f fd ps (cSp K (sp5 p)) :=
  DFunX.ok F S (fun ds G Q E h => by
    match ds, h with
    | [_, _, _, _, _], _ => exact hp.symm) d fun ds G Q E0 h => by
    match ds, h with
    | [a, b, c, e, g], h => subst hl; exact rd a b c e g G Q E0 h
end
def sp6 (p : D → D → D → D → D → D → GHp → DK → DXK → Prop) : DSp := fun ds G Q E => match ds with
  | [a, b, c, d, e, g] => p a b c d e g G Q E
  | _ => False
section
variable {P : Program} {w : World} {K : PySem.W.Frag} {mg : Str → Option Value} {base : Heap} {x qual : Str} {st : Stmt} {f : Addr} {fd : FuncData} {N ps : List Str} {k : Nat} {t : DTS} {l : DSt} {dv : List V} {kv : List (Str × V)}
theorem DFun.ok6 {p : D → D → D → D → D → D → GHp → DK → DXK → Prop} (F : FunD K x qual (defArgs st) (defBody st) (defScope st) dv kv f fd) (S : FnScope N ps (defScope st)) (hp : ps.length = 6) (hl : List.replicate (N.length - 6) none = l) (d : Der P w K mg base N qual st f k t)
    (rd : ∀ a b c e g i G Q E, p a b c e g i G Q E → DRun t (some a :: some b :: some c :: some e :: some g :: some i :: l) G Q) :
    FnOk P w K mg base CX0 (k + 1) f fd ps (cSp K (sp6 p)) :=
  DFunD.ok F S (fun ds G Q E h => by
    match ds, h with
    | [_, _, _, _, _, _], _ => exact hp.symm) fun cdv A outer s H E ds G Q E0 hr h => by
    match ds, h with
    | [a, b, c, e, g, i], h => exact ⟨t, d cdv A outer s H E hr, by subst hl; exact rd a b c e g i G Q E0 h⟩
theorem DFunX.ok6 {p : D → D → D → D → D → D → GHp → DK → DXK → Prop} (F : FunD K x qual (defArgs st) (defBody st) (defScope st) dv kv f fd) (S : FnScope N ps (defScope st)) (hp : ps.length = 6) (hl : List.replicate (N.length - 6) none = l) (d : DerX P w K mg base N qual st f k t)
    (rd : ∀ a b c e g i G Q E, p a b c e g i G Q E → DRunX t (some a :: some b :: some c :: some e :: some g :: some i :: l) G Q E) : FnOk P w K mg base (L2.CX P w) (k + 1) f fd ps (cSp K (sp6 p)) :=
  DFunX.ok F S (fun ds G Q E h => by
    match ds, h with
    | [_, _, _, _, _, _], _ => exact hp.symm) d fun ds G Q E0 h => by
    match ds, h with
    | [a, b, c, e, g, i], h => subst hl; exact rd a b c e g i G Q E0 h
/-- what is known of an own class x over the class b, whose __init__ keeps its argument in the field g -/
structure XC1 (K : PySem.W.Frag) (mg : Str → Option Value) (x b g : Str) : Prop where
  m : mg x = some (.ref (ga K x))
  o : OexC K (ga K x)
  xf : XfC K (ga K x)
  no : PySem.W.findIn K (.ref (ga K x)) g = some none
  ini : PySem.W.findIn K (.ref (ga K x)) "__init__" = some (some (.ref (fAd K (x, some "__init__"))))
  ti : PySem.W.typeIn K (.ref (fAd K (x, some "__init__"))) = some (.type "function")
  bm : mg b = some (.ref (ga K b))
  bs : BsC K (ga K b)
  ex : PySem.W.exmOne K (.ref (ga K x)) (.ref (ga K x)) = some true
def xc1B (K : PySem.W.Frag) (x b g : Str) : Bool := eqO (PySem.W.nsIn K mainGlobals x) (some (some (.ref (ga K x)))) && (eqO (PySem.W.nsIn K mainGlobals b) (some (some (.ref (ga K b)))) && (oexB K (ga K x) && (xfB K (ga K x) &&
  (eqO (PySem.W.findIn K (.ref (ga K x)) g) (some none) && (eqO (PySem.W.findIn K (.ref (ga K x)) "__init__") (some (some (.ref (fAd K (x, some "__init__"))))) && (decide (PySem.W.typeIn K (.ref (fAd K (x, some "__init__"))) = some (.type "function")) &&
  (bscB K (ga K b) && decide (PySem.W.exmOne K (.ref (ga K x)) (.ref (ga K x)) = some true))))))))
theorem xc1B_ok {h : Heap} (X : K.In h) (G : h.Ns mainGlobals mg) {x b g : Str} (c : xc1B K x b g = true) : XC1 K mg x b g := by
  obtain ⟨h1, c⟩ := ba c
  obtain ⟨h2, c⟩ := ba c
  obtain ⟨h3, c⟩ := ba c
  obtain ⟨h4, c⟩ := ba c
  obtain ⟨h5, c⟩ := ba c
  obtain ⟨h6, c⟩ := ba c
  obtain ⟨h7, c⟩ := ba c
  obtain ⟨h8, h9⟩ := ba c
  exact ⟨PySem.W.mg_of X G (eqO_ok h1), oexB_ok h3, xfB_ok h4, eqO_ok h5, eqO_ok h6, of_decide_eq_true h7, PySem.W.mg_of X G (eqO_ok h2), bscB_ok h8, of_decide_eq_true h9⟩
end
end DL
set_option Elab.async false
set_option linter.all false
set_option maxRecDepth 100000
set_option maxHeartbeats 1000000
/-! DL, part 19: comprehensions that draw. -/
namespace DL
open PySem PySem.Spec L2
theorem at_map {α : Type} {f : α → D} {l : List α} {i : Nat} (h : i < l.length) {Q : D → Prop} (q : Q (f l[i])) : atD (l.map f) (i : Int) Q :=
  atD_nat (d := f l[i]) (by rw [List.getElem?_map, List.getElem?_eq_getElem h]; rfl) q
theorem tab_atZ {n : Nat} {f : Nat → D} {z : Int} (h0 : 0 ≤ z) (h : z < n) {Q : D → Prop} (q : Q (f z.toNat)) : atD (tab n f) z Q := by
  obtain ⟨i, rfl⟩ := Int.eq_ofNat_of_zero_le h0
  exact tab_at (by omega) q
theorem enum_tab (n : Nat) (f : Nat → D) : enumFrom 0 (tab n f) = (List.range n).map fun (k : Nat) => D.tup [.int k, f k] := by
  refine List.ext_getElem? fun i => ?_
  unfold tab
  rw [enumFrom_get, List.getElem?_map, List.getElem?_map]
  by_cases h : i < n
  · rw [List.getElem?_range h]
    simp
  · rw [List.getElem?_eq_none (by simp; omega)]
    rfl
theorem Paired.len {α β : Type} {P : α → β → Prop} {xs : List α} {ys : List β} (h : Paired P xs ys) : xs.length = ys.length := Paired.length h
theorem Paired.snoc {α β : Type} {P : α → β → Prop} {x : α} {y : β} (q : P x y) : ∀ {xs : List α} {ys : List β}, Paired P xs ys → Paired P (xs ++ [x]) (ys ++ [y])
  | _, _, .nil => .cons q .nil
  | _, _, .cons h t => .cons h (Paired.snoc q t)
theorem Paired.at_ {α β : Type} {P : α → β → Prop} : ∀ {xs : List α} {ys : List β}, Paired P xs ys → ∀ {i : Nat} {x : α} {y : β}, xs[i]? = some x → ys[i]? = some y → P x y
  | _, _, .nil, i, x, y, h, _ => by simp at h
  | _, _, .cons q t, 0, x, y, h, g => by
    simp at h g
    subst h g
    exact q
  | _, _, .cons q t, i + 1, x, y, h, g => Paired.at_ t (by simpa using h) (by simpa using g)
theorem Paired.all2 {α β : Type} {P : α → β → Prop} {R : β → Prop} (k : ∀ x y, P x y → R y) : ∀ {xs : List α} {ys : List β}, Paired P xs ys → ∀ y ∈ ys, R y
  | _, _, .nil, y, h => by simp at h
  | _, _, .cons q t, y, h => by
    rcases List.mem_cons.mp h with rfl | h
    · exact k _ _ q
    · exact Paired.all2 k t y h
/-- a list of encoded things -/
theorem Paired.enc {α β γ : Type} {P : α → β → Prop} {f : β → γ} : ∀ {xs : List α} {ds : List γ}, Paired (fun x d => ∃ w, d = f w ∧ P x w) xs ds → ∃ ws, ds = ws.map f ∧ Paired P xs ws
  | _, _, .nil => ⟨[], rfl, .nil⟩
  | _, _, .cons ⟨w, e, q⟩ t => by
    obtain ⟨ws, e2, t2⟩ := Paired.enc t
    exact ⟨w :: ws, by rw [e, e2]; rfl, .cons q t2⟩
/-- each item's value is made with the box; c draws an item at most -/
theorem lc_bk {m : Bool} {gd : Gd} {g : Tgt} {te : DTE} {δw : DSt} {G0 G : GHp} {p : Addr} {Q : DK} {α : Type} {enc : α → D} {xs : List α} (P : α → D → Prop) (k c : Nat) (dst : α → DSt) (hz : xs.length ≤ sizeLine) (hg : ∀ k G', Bk G0 p k G' → gd.ok G')
    (hs : ∀ x ∈ xs, g.set (enc x) δw = some (dst x))
    (he : ∀ x ∈ xs, ∀ j G', j < xs.length → Bk G0 p (k + c * j) G' → ∀ R : DK, (∀ d G2, P x d → Bk G0 p (k + c * (j + 1)) G2 → R d G2) → te (dst x) G' R)
    (hd : ∀ ds G', Paired P xs ds → Bk G0 p (k + c * xs.length) G' → lcEnd m ds G' Q) (h0 : Bk G0 p k G) : dLcL m gd g dYes te δw (xs.map enc) [] G Q := by
  refine lc_ind (enc := enc) (fun r acc G' => ∃ pre, xs = pre ++ r ∧ Paired P pre acc ∧ Bk G0 p (k + c * pre.length) G') ?_ ?_ xs [] G ⟨[], rfl, .nil, h0⟩
  · rintro acc G' ⟨pre, e, hp, B⟩
    rw [List.append_nil] at e
    subst e
    exact ⟨hg _ _ B, hd _ _ hp B⟩
  · rintro x r acc G' ⟨pre, e, hp, B⟩
    have hx : x ∈ xs := by rw [e]; simp
    have hl : pre.length < xs.length := by rw [e]; simp
    refine ⟨hg _ _ B, _, hs x hx, fun N hN => ⟨fun _ => ?_, fun e => tf e⟩⟩
    refine he x hx _ _ hl B _ fun d G2 hP B2 => ⟨?_, hN _ _ ⟨pre ++ [x], by rw [e]; simp, Paired.snoc hP hp, by rw [List.length_append]; exact B2⟩⟩
    rw [← Paired.length hp]; omega
end DL
set_option Elab.async false
set_option linter.all false
set_option maxRecDepth 100000
set_option maxHeartbeats 1000000
/-! DL, part 20: defs with keyword-only defaults. -/
namespace DL
open PySem PySem.Spec L2 PyProof.Rows
def pick {α : Type} (ix : List Nat) (l : List α) : List α := ix.filterMap fun i => l[i]?
/-- n positional values, keywords ks, the lacking ones' values ms -/
def KBk (K : PySem.W.Frag) (fd : FuncData) (ps : List Str) (n : Nat) (ks : List Str) (ix : List Nat) (ms : List V) : Prop :=
  ∃ mv : List Value, KBn K fd ps n ks (fun us ws => pick ix (us ++ ws ++ mv)) (fun vs zs => pick ix (vs ++ zs ++ ms))
/-- a def with keyword-only defaults -/
structure FnK (K : PySem.W.Frag) (mg : Str → Option Value) (name : Str) (st : Stmt) (kws : List (Str × V)) where
  f : Addr
  fd : FuncData
  F : FunD K name name (defArgs st) (defBody st) (defScope st) [] kws f fd
  m : mg name = some (.ref f)
section
variable {K : PySem.W.Frag} {x qual : Str} {params : Arguments} {body : List Stmt} {scope : Scope} {kws : List (Str × V)} {f : Addr} {fd : FuncData} {ps ks : List Str} {n : Nat}
theorem kbk_of (F : FunD K x qual params body scope [] kws f fd) (ix : List Nat) (ms : List (Str × V)) (hn : ms ≠ []) (hms : ∀ q ∈ ms, q ∈ kws)
    (h : ∀ (D : Addr) (doc pm : Value) (an : Option Addr) (cdv ct : Value) (us ws mv : List Value), us.length = n → ws.length = ks.length → mv.length = ms.length →
      KwChain D ((ms.map (·.1)).zip mv) (bindArgs (PySem.W.fnOf x qual params body scope .none (.ref D) doc pm an cdv ct) ⟨us, ks.zip ws⟩) (ps.zip (pick ix (us ++ ws ++ mv)))) : KBk K fd ps n ks ix (ms.map (·.2)) := by
  obtain ⟨oc, od, dV, kV, doc, pm, an, cdv, ct, osl, rfl, lk, hcd, hD, hK⟩ := F.ex
  rcases hD with ⟨_, rfl⟩ | ⟨e, _⟩
  · rcases hK with e | ⟨D, rfl, hq⟩
    · cases ms with
      | nil => exact absurd rfl hn
      | cons m r =>
        have := hms m List.mem_cons_self
        rw [e] at this
        simp at this
    · obtain ⟨mv, hl, rk, hks⟩ := kwd_vals (ms := ms) fun q hm => hq q (hms q hm)
      exact ⟨mv, fun s us ws X l1 l2 => BindsTo.of_looks fun M => KwChain.looks X hks (h D doc pm an cdv ct us ws mv l1 l2 hl), fun r1 r2 => Vals.pick ((r1.append r2).append rk) ix⟩
  · exact absurd rfl e
/-- nothing lacks -/
theorem kbk_all (F : FunD K x qual params body scope [] kws f fd) (ix : List Nat)
    (h : ∀ (kV doc pm : Value) (an : Option Addr) (cdv ct : Value) (us ws : List Value), us.length = n → ws.length = ks.length → bindArgs (PySem.W.fnOf x qual params body scope .none kV doc pm an cdv ct) ⟨us, ks.zip ws⟩ = pure (ps.zip (pick ix (us ++ ws ++ [])))) : KBk K fd ps n ks ix [] := by
  obtain ⟨oc, od, dV, kV, doc, pm, an, cdv, ct, osl, rfl, lk, hcd, hD, hK⟩ := F.ex
  rcases hD with ⟨_, rfl⟩ | ⟨e, _⟩
  · exact ⟨[], fun s us ws X l1 l2 => .of_eq (h kV doc pm an cdv ct us ws l1 l2), fun r1 r2 => Vals.pick ((r1.append r2).append .nil) ix⟩
  · exact absurd rfl e
end
section
variable {X : Cx} {CX : CXT} {k : Nat} {f : Addr} {fd : FuncData} {ps : List Str} {sp : DSp} {E : XK} {x : Str} {p pos : Pos} {e : Expr} {es : List Expr} {t : DTA} {ix : List Nat} {ms : List V} {mds : List D}
theorem Reps.pickK {K : PySem.W.Frag} {W : Hp} (ix : List Nat) {ds es : List D} {vs us : List V} (hmd : ∀ W, Reps K W mds ms) (r : Reps K W ds vs) (q : Reps K W es us) : Reps K W (DL.pick ix (ds ++ es ++ mds)) (DL.pick ix (vs ++ us ++ ms)) := Reps.pick ((r.append q).append (hmd W)) ix
theorem de_callK {n : Nat} {ks : List Str} {kws : List Keyword} {tk : DTA} (F : FnOk X.prog X.w X.K X.mg X.base CX k f fd ps (cSp X.K sp)) (hr : Room k X.A) (hg : Gl X x) (hm : X.mg x = some (.ref f)) (hk : PySem.W.keepIn X.K (.ref f) = true) (hb : KBk X.K fd ps n ks ix ms)
    (hmd : ∀ W, Reps X.K W mds ms) (hx : Passes CX X E)
    (ha : DA X (e :: es) t) (hkw : DKw X kws tk) (hall : (backToKw pos (keywordEach kws X.env)).all (·.1.isSome) = true := by rfl) (hks : (backToKw pos (keywordEach kws X.env)).filterMap (·.1) = ks := by rfl)
    (hdb : (x == ("__debug__" : Str)) = false := by decide) (he : starEach (e :: es) X.env = (false, eval e X.env) :: starEach es X.env := by rfl)
    (hpl : ((backTo pos (starEach (e :: es) X.env)).any (·.1) || (backToKw pos (keywordEach kws X.env)).any (·.1.isNone)) = false := by rfl) :
    DE X (.Call (.Name x p) (e :: es) kws pos) (dCallN n ks.length sp (fun ds es => pick ix (ds ++ es ++ mds)) t tk) := by
  obtain ⟨mv, h⟩ := hb
  exact de_callN F hr hg hm hk h (fun _ _ _ _ _ r q => Reps.pickK ix hmd r q) hx ha hkw hall hks hdb he hpl
theorem de_callK0 {ks : List Str} {kws : List Keyword} {tk : DTA} (F : FnOk X.prog X.w X.K X.mg X.base CX k f fd ps (cSp X.K sp)) (hr : Room k X.A) (hg : Gl X x) (hm : X.mg x = some (.ref f)) (hk : PySem.W.keepIn X.K (.ref f) = true) (hb : KBk X.K fd ps 0 ks ix ms)
    (hmd : ∀ W, Reps X.K W mds ms) (hx : Passes CX X E)
    (hkw : DKw X kws tk) (hall : (backToKw pos (keywordEach kws X.env)).all (·.1.isSome) = true := by rfl) (hks : (backToKw pos (keywordEach kws X.env)).filterMap (·.1) = ks := by rfl)
    (hdb : (x == ("__debug__" : Str)) = false := by decide) (hpl : ((backTo pos (starEach [] X.env)).any (·.1) || (backToKw pos (keywordEach kws X.env)).any (·.1.isNone)) = false := by rfl) :
    DE X (.Call (.Name x p) [] kws pos) (dCallN 0 ks.length sp (fun ds es => pick ix (ds ++ es ++ mds)) dNil tk) := by
  obtain ⟨mv, h⟩ := hb
  exact de_callN0 F hr hg hm hk h (fun _ _ _ _ _ r q => Reps.pickK ix hmd r q) hx hkw hall hks hdb hpl
end
end DL
set_option linter.all false
set_option maxRecDepth 100000
set_option maxHeartbeats 1000000
namespace NUM
open PySem PySem.Spec L2 DL
open Rat
/-! DL, part 21: exact numbers: whole ones and parts are rational numbers; what the program's and the laws' reckoning does. -/
/-- is_plain: 0 thing -/
def t_is_plain : DTS :=
  (dRet (dAndV (dCB (dR2 dIsiR) (dCons (dVar 0) (dCons (dC (.ty .int)) dNil))) (dNotV (dCB (dR2 dIsiR) (dCons (dVar 0) (dCons (dC (.ty .bool)) dNil))))))
/-- is_whole: 0 thing, 1 low, 2 high -/
def t_is_whole (sp_is_plain : DSp) : DTS :=
  (dRet (dAndV (dCall sp_is_plain [] (dCons (dVar 0) dNil)) (dChain (dCmpR (fun i j => decide (i ≤ j)) (fun a b => !decide (b < a))) (dCmpR (fun i j => decide (i ≤ j)) (fun a b => !decide (b < a))) (dVar 1) (dVar 0) (dVar 2))))
/-- common_part: 0 one, 1 other -/
def t_common_part : DTS :=
  (dSeq (dPar 0 1 (dCons (dCB (dR1 dAbsR) (dCons (dVar 0) dNil)) (dCons (dCB (dR1 dAbsR) (dCons (dVar 1) dNil)) dNil)))
  (dSeq (dWhile (dTestB (dOp dNeQ (dVar 1) (dC (.int 0)))) (dPar 0 1 (dCons (dVar 1) (dCons (dOp (dI (fun _ j => 0 < j) fun i j => .int (i % j)) (dVar 0) (dVar 1)) dNil))))
  (dRet (dVar 0))))
/-- is_part: 0 thing, 1 top, 2 base -/
def t_is_part (sp_is_plain : DSp) (sp_common_part : DSp) : DTS :=
  (dSeq (dIf (dOr (dNot (dTest (dCB (dR2 dIsiR) (dCons (dVar 0) (dCons (dC (.ty .tup)) dNil))))) (dTestB (dOp dNeQ (dCB (dR1 dLenR) (dCons (dVar 0) dNil)) (dC (.int 2))))) (dRet (dC (.bl false))) dNext)
  (dSeq (dAsg (dVar 0) (.tp [(.nm 1), (.nm 2)]))
  (dRet (dAndV (dCall sp_is_plain [] (dCons (dVar 1) dNil)) (dAndV (dCall sp_is_plain [] (dCons (dVar 2) dNil)) (dAndV (dOp (dCmpR (fun i j => decide (j < i)) (fun a b => decide (b < a))) (dVar 2) (dC (.int 1))) (dOp dEqQ (dCall sp_common_part [] (dCons (dVar 1) (dCons (dVar 2) dNil))) (dC (.int 1)))))))))
/-- is_number: 0 thing -/
def t_is_number (sp_is_plain : DSp) (sp_is_part : DSp) : DTS :=
  (dRet (dOrV (dCall sp_is_plain [] (dCons (dVar 0) dNil)) (dCall sp_is_part [] (dCons (dVar 0) dNil))))
/-- reckoned: 0 top, 1 base, 2 part -/
def t_reckoned (sp_common_part : DSp) : DTS :=
  (dSeq (dAsg (dCall sp_common_part [] (dCons (dVar 0) (dCons (dVar 1) dNil))) (.nm 2))
  (dSeq (dIf (dTestB (dOp (dCmpR (fun i j => decide (i < j)) (fun a b => decide (a < b))) (dVar 1) (dC (.int 0)))) (dAsg (dOp (dI0 fun i j => .int (i - j)) (dC (.int 0)) (dVar 2)) (.nm 2)) dNext)
  (dSeq (dPar 0 1 (dCons (dOp (dI (fun _ j => DivOk j) fun i j => .int (i.fdiv j)) (dVar 0) (dVar 2)) (dCons (dOp (dI (fun _ j => DivOk j) fun i j => .int (i.fdiv j)) (dVar 1) (dVar 2)) dNil)))
  (dRet (dIfE (dTestB (dOp dEqQ (dVar 1) (dC (.int 1)))) (dVar 0) (dTup (dCons (dVar 0) (dCons (dVar 1) dNil))))))))
/-- pair_of: 0 number -/
def t_pair_of (sp_is_plain : DSp) (sp_is_part : DSp) : DTS :=
  (dSeq (dIf (dTest (dCall sp_is_plain [] (dCons (dVar 0) dNil))) (dRet (dTup (dCons (dVar 0) (dCons (dC (.int 1)) dNil)))) dNext)
  (dSeq (dIf (dNot (dTest (dCall sp_is_part [] (dCons (dVar 0) dNil)))) dNever dNext)
  (dRet (dVar 0))))
/-- plus: 0 one, 1 other, 2 top, 3 base, 4 more, 5 under -/
def t_plus (sp_pair_of : DSp) (sp_reckoned : DSp) : DTS :=
  (dSeq (dAsg (dTup (dCons (dCall sp_pair_of [] (dCons (dVar 0) dNil)) (dCons (dCall sp_pair_of [] (dCons (dVar 1) dNil)) dNil))) (.tp [(.tp [(.nm 2), (.nm 3)]), (.tp [(.nm 4), (.nm 5)])]))
  (dRet (dCall sp_reckoned [] (dCons (dOp dAddR (dOp (dI MulOk fun i j => .int (i * j)) (dVar 2) (dVar 5)) (dOp (dI MulOk fun i j => .int (i * j)) (dVar 4) (dVar 3))) (dCons (dOp (dI MulOk fun i j => .int (i * j)) (dVar 3) (dVar 5)) dNil)))))
/-- minus: 0 one, 1 other, 2 top, 3 base, 4 more, 5 under -/
def t_minus (sp_pair_of : DSp) (sp_reckoned : DSp) : DTS :=
  (dSeq (dAsg (dTup (dCons (dCall sp_pair_of [] (dCons (dVar 0) dNil)) (dCons (dCall sp_pair_of [] (dCons (dVar 1) dNil)) dNil))) (.tp [(.tp [(.nm 2), (.nm 3)]), (.tp [(.nm 4), (.nm 5)])]))
  (dRet (dCall sp_reckoned [] (dCons (dOp (dI0 fun i j => .int (i - j)) (dOp (dI MulOk fun i j => .int (i * j)) (dVar 2) (dVar 5)) (dOp (dI MulOk fun i j => .int (i * j)) (dVar 4) (dVar 3))) (dCons (dOp (dI MulOk fun i j => .int (i * j)) (dVar 3) (dVar 5)) dNil)))))
/-- times: 0 one, 1 other, 2 top, 3 base, 4 more, 5 under -/
def t_times (sp_pair_of : DSp) (sp_reckoned : DSp) : DTS :=
  (dSeq (dAsg (dTup (dCons (dCall sp_pair_of [] (dCons (dVar 0) dNil)) (dCons (dCall sp_pair_of [] (dCons (dVar 1) dNil)) dNil))) (.tp [(.tp [(.nm 2), (.nm 3)]), (.tp [(.nm 4), (.nm 5)])]))
  (dRet (dCall sp_reckoned [] (dCons (dOp (dI MulOk fun i j => .int (i * j)) (dVar 2) (dVar 4)) (dCons (dOp (dI MulOk fun i j => .int (i * j)) (dVar 3) (dVar 5)) dNil)))))
/-- over: 0 one, 1 other, 2 top, 3 base, 4 more, 5 under -/
def t_over (sp_pair_of : DSp) (sp_reckoned : DSp) : DTS :=
  (dSeq (dAsg (dTup (dCons (dCall sp_pair_of [] (dCons (dVar 0) dNil)) (dCons (dCall sp_pair_of [] (dCons (dVar 1) dNil)) dNil))) (.tp [(.tp [(.nm 2), (.nm 3)]), (.tp [(.nm 4), (.nm 5)])]))
  (dSeq (dIf (dTestB (dOp dEqQ (dVar 4) (dC (.int 0)))) dNever dNext)
  (dRet (dCall sp_reckoned [] (dCons (dOp (dI MulOk fun i j => .int (i * j)) (dVar 2) (dVar 5)) (dCons (dOp (dI MulOk fun i j => .int (i * j)) (dVar 3) (dVar 4)) dNil))))))
/-- less: 0 one, 1 other, 2 top, 3 base, 4 more, 5 under -/
def t_less (sp_pair_of : DSp) : DTS :=
  (dSeq (dAsg (dTup (dCons (dCall sp_pair_of [] (dCons (dVar 0) dNil)) (dCons (dCall sp_pair_of [] (dCons (dVar 1) dNil)) dNil))) (.tp [(.tp [(.nm 2), (.nm 3)]), (.tp [(.nm 4), (.nm 5)])]))
  (dRet (dOp (dCmpR (fun i j => decide (i < j)) (fun a b => decide (a < b))) (dOp (dI MulOk fun i j => .int (i * j)) (dVar 2) (dVar 5)) (dOp (dI MulOk fun i j => .int (i * j)) (dVar 4) (dVar 3)))))
/-- floor_of: 0 number, 1 step, 2 top, 3 base, 4 more, 5 under -/
def t_floor_of (sp_pair_of : DSp) (sp_times : DSp) : DTS :=
  (dSeq (dAsg (dTup (dCons (dCall sp_pair_of [] (dCons (dVar 0) dNil)) (dCons (dCall sp_pair_of [] (dCons (dVar 1) dNil)) dNil))) (.tp [(.tp [(.nm 2), (.nm 3)]), (.tp [(.nm 4), (.nm 5)])]))
  (dSeq (dIf (dTestB (dOp (dCmpR (fun i j => decide (i ≤ j)) (fun a b => !decide (b < a))) (dVar 4) (dC (.int 0)))) dNever dNext)
  (dRet (dCall sp_times [] (dCons (dVar 1) (dCons (dOp (dI CDivW fun i j => .int (i / j)) (dOp (dI MulOk fun i j => .int (i * j)) (dVar 2) (dVar 5)) (dOp (dI MulOk fun i j => .int (i * j)) (dVar 3) (dVar 4))) dNil))))))
/-- _law_low: 0 top, 1 bottom, 2 one, 3 other, 4 sign -/
def t_law_low : DTS :=
  (dSeq (dPar 2 3 (dCons (dCB (dR1 dAbsR) (dCons (dVar 0) dNil)) (dCons (dCB (dR1 dAbsR) (dCons (dVar 1) dNil)) dNil)))
  (dSeq (dWhile (dTestB (dOp (dCmpR (fun i j => decide (j < i)) (fun a b => decide (b < a))) (dVar 3) (dC (.int 0)))) (dPar 2 3 (dCons (dVar 3) (dCons (dOp (dI (fun _ j => 0 < j) fun i j => .int (i % j)) (dCB (dR1 dIntR) (dCons (dVar 2) dNil)) (dVar 3)) dNil))))
  (dSeq (dAsg (dIfE (dTestB (dOp (dCmpR (fun i j => decide (j < i)) (fun a b => decide (b < a))) (dVar 1) (dC (.int 0)))) (dC (.int 1)) (dUn dNeg (dC (.int 1)))) (.nm 4))
  (dRet (dTup (dCons (dOp (dI CDivW fun i j => .int (i / j)) (dOp (dI MulOk fun i j => .int (i * j)) (dVar 4) (dVar 0)) (dVar 2)) (dCons (dOp (dI CDivW fun i j => .int (i / j)) (dCB (dR1 dAbsR) (dCons (dVar 1) dNil)) (dVar 2)) dNil)))))))
/-- _law_num: 0 pair -/
def t_law_num : DTS :=
  (dRet (dIfE (dTestB (dOp dEqQ (dOp dIxR (dVar 0) (dC (.int 1))) (dC (.int 1)))) (dOp dIxR (dVar 0) (dC (.int 0))) (dVar 0)))
/-- _law_plus: 0 one, 1 other -/
def t_law_plus (sp_law_low : DSp) : DTS :=
  (dRet (dCall sp_law_low [] (dCons (dOp dAddR (dOp (dI MulOk fun i j => .int (i * j)) (dOp dIxR (dVar 0) (dC (.int 0))) (dOp dIxR (dVar 1) (dC (.int 1)))) (dOp (dI MulOk fun i j => .int (i * j)) (dOp dIxR (dVar 1) (dC (.int 0))) (dOp dIxR (dVar 0) (dC (.int 1))))) (dCons (dOp (dI MulOk fun i j => .int (i * j)) (dOp dIxR (dVar 0) (dC (.int 1))) (dOp dIxR (dVar 1) (dC (.int 1)))) dNil))))
/-- _law_minus: 0 one, 1 other -/
def t_law_minus (sp_law_low : DSp) : DTS :=
  (dRet (dCall sp_law_low [] (dCons (dOp (dI0 fun i j => .int (i - j)) (dOp (dI MulOk fun i j => .int (i * j)) (dOp dIxR (dVar 0) (dC (.int 0))) (dOp dIxR (dVar 1) (dC (.int 1)))) (dOp (dI MulOk fun i j => .int (i * j)) (dOp dIxR (dVar 1) (dC (.int 0))) (dOp dIxR (dVar 0) (dC (.int 1))))) (dCons (dOp (dI MulOk fun i j => .int (i * j)) (dOp dIxR (dVar 0) (dC (.int 1))) (dOp dIxR (dVar 1) (dC (.int 1)))) dNil))))
/-- _law_over: 0 one, 1 other -/
def t_law_over (sp_law_low : DSp) : DTS :=
  (dRet (dCall sp_law_low [] (dCons (dOp (dI MulOk fun i j => .int (i * j)) (dOp dIxR (dVar 0) (dC (.int 0))) (dOp dIxR (dVar 1) (dC (.int 1)))) (dCons (dOp (dI MulOk fun i j => .int (i * j)) (dOp dIxR (dVar 0) (dC (.int 1))) (dOp dIxR (dVar 1) (dC (.int 0)))) dNil))))
/-- _law_less: 0 one, 1 other -/
def t_law_less : DTS :=
  (dRet (dOp (dCmpR (fun i j => decide (i < j)) (fun a b => decide (a < b))) (dOp (dI MulOk fun i j => .int (i * j)) (dOp dIxR (dVar 0) (dC (.int 0))) (dOp dIxR (dVar 1) (dC (.int 1)))) (dOp (dI MulOk fun i j => .int (i * j)) (dOp dIxR (dVar 1) (dC (.int 0))) (dOp dIxR (dVar 0) (dC (.int 1))))))
/-- _law_most: 0 one, 1 other -/
def t_law_most (sp_law_less : DSp) : DTS :=
  (dRet (dIfE (dTest (dCall sp_law_less [] (dCons (dVar 0) (dCons (dVar 1) dNil)))) (dVar 1) (dVar 0)))
/-- _law_floor: 0 pair -/
def t_law_floor : DTS :=
  (dRet (dOp (dI CDivW fun i j => .int (i / j)) (dOp dIxR (dVar 0) (dC (.int 0))) (dOp dIxR (dVar 0) (dC (.int 1)))))
/-- a number as the program has it -/
def numD (q : Rat) : D := if q.den = 1 then .int q.num else .tup [.int q.num, .int q.den]
/-- a top and a base -/
def prD (q : Rat) : D := .tup [.int q.num, .int q.den]
/-- below 2 ^ b -/
def Sz (b : Nat) (q : Rat) : Prop := q.num.natAbs < 2 ^ b ∧ q.den < 2 ^ b
theorem numD_int (i : Int) : numD (i : Rat) = .int i := by unfold numD; rw [den_intCast, num_intCast]; rfl
theorem numD_cases (q : Rat) : (∃ i : Int, q = (i : Rat) ∧ numD q = .int i) ∨ (q.den ≠ 1 ∧ numD q = .tup [.int q.num, .int q.den]) := by
  by_cases h : q.den = 1
  · refine .inl ⟨q.num, Rat.ext (by rw [num_intCast]) (by rw [den_intCast]; exact h), ?_⟩
    unfold numD; rw [if_pos h]
  · exact .inr ⟨h, by unfold numD; rw [if_neg h]⟩
/-! sizes -/
theorem Sz.mono {a b : Nat} {q : Rat} (h : Sz a q) (k : a ≤ b) : Sz b q := ⟨Nat.lt_of_lt_of_le h.1 (Nat.pow_le_pow_right (by decide) k), Nat.lt_of_lt_of_le h.2 (Nat.pow_le_pow_right (by decide) k)⟩
theorem Sz.int {b : Nat} {i : Int} (h : i.natAbs < 2 ^ b) (hb : 0 < b) : Sz b (i : Rat) := ⟨by rw [num_intCast]; exact h, by
  rw [den_intCast]
  calc 1 < 2 ^ 1 := by decide
    _ ≤ 2 ^ b := Nat.pow_le_pow_right (by decide) hb⟩
/-- a fraction is no greater than its terms -/
theorem frac_le {t d : Int} (hd0 : d ≠ 0) : (t /. d).num.natAbs ≤ t.natAbs ∧ (t /. d).den ≤ d.natAbs := by
  refine ⟨?_, ?_⟩
  · rw [num_divInt]
    have h1 : (d.sign * t).natAbs ≤ t.natAbs := by
      rw [Int.natAbs_mul]
      rcases Int.lt_trichotomy d 0 with h | h | h
      · rw [Int.sign_eq_neg_one_of_neg h]; simp
      · exact absurd h hd0
      · rw [Int.sign_eq_one_of_pos h]; simp
    refine Nat.le_trans ?_ h1
    exact Int.natAbs_ediv_le_natAbs (d.sign * t) ((d.gcd t : Nat) : Int)
  · rw [den_divInt, if_neg hd0]
    exact Nat.div_le_self _ _
theorem Sz.frac {b : Nat} {t d : Int} (ht : t.natAbs < 2 ^ b) (hd : d.natAbs < 2 ^ b) (hd0 : d ≠ 0) : Sz b (t /. d) :=
  ⟨Nat.lt_of_le_of_lt (frac_le hd0).1 ht, Nat.lt_of_le_of_lt (frac_le hd0).2 hd⟩
theorem prD_int (i : Int) : prD (i : Rat) = .tup [.int i, .int 1] := by unfold prD; rw [num_intCast, den_intCast]; rfl
theorem pow2_add (a b : Nat) : 2 ^ (a + b) = 2 ^ a * 2 ^ b := Nat.pow_add 2 a b
theorem mul_lt {a b x y : Nat} (h1 : x < 2 ^ a) (h2 : y < 2 ^ b) : x * y < 2 ^ (a + b) := by
  rw [pow2_add]
  exact Nat.lt_of_le_of_lt (Nat.mul_le_mul (Nat.le_of_lt h1) (Nat.le_refl y)) (Nat.mul_lt_mul_of_pos_left h2 (Nat.two_pow_pos a))
theorem add_frac (x y : Rat) : x + y = (x.num * y.den + y.num * x.den) /. (x.den * y.den) := by
  have := divInt_add_divInt x.num y.num (d₁ := x.den) (d₂ := y.den) (by have := x.den_nz; omega) (by have := y.den_nz; omega)
  rw [num_divInt_den, num_divInt_den] at this
  exact this
theorem sub_frac (x y : Rat) : x - y = (x.num * y.den - y.num * x.den) /. (x.den * y.den) := by
  have := divInt_sub_divInt x.num y.num (d₁ := x.den) (d₂ := y.den) (by have := x.den_nz; omega) (by have := y.den_nz; omega)
  rw [num_divInt_den, num_divInt_den] at this
  exact this
theorem mul_frac (x y : Rat) : x * y = (x.num * y.num) /. (x.den * y.den) := by
  have := divInt_mul_divInt x.num y.num (d₁ := x.den) (d₂ := y.den)
  rw [num_divInt_den, num_divInt_den] at this
  exact this
theorem div_frac (x y : Rat) : x / y = (x.num * y.den) /. (x.den * y.num) := by
  have e : y⁻¹ = y.den /. y.num := by
    have := inv_divInt y.num y.den
    rw [num_divInt_den] at this
    exact this
  rw [div_def, e]
  have := divInt_mul_divInt x.num (y.den : Int) (d₁ := x.den) (d₂ := y.num)
  rw [num_divInt_den] at this
  exact this
theorem den_ne (x : Rat) : (x.den : Int) ≠ 0 := by have := x.den_nz; omega
theorem den_mul_ne (x y : Rat) : (x.den : Int) * y.den ≠ 0 := Int.mul_ne_zero (den_ne x) (den_ne y)
theorem natAbs_add_lt {a : Nat} {i j : Int} (h1 : i.natAbs < 2 ^ a) (h2 : j.natAbs < 2 ^ a) : (i + j).natAbs < 2 ^ (a + 1) := by
  have := Int.natAbs_add_le i j
  rw [Nat.pow_succ]; omega
theorem natAbs_sub_lt {a : Nat} {i j : Int} (h1 : i.natAbs < 2 ^ a) (h2 : j.natAbs < 2 ^ a) : (i - j).natAbs < 2 ^ (a + 1) := by
  have := Int.natAbs_sub_le i j
  rw [Nat.pow_succ]; omega
theorem Sz.nd {a b : Nat} {x y : Rat} (hx : Sz a x) (hy : Sz b y) : (x.num * (y.den : Int)).natAbs < 2 ^ (a + b) := by
  rw [Int.natAbs_mul]; exact mul_lt hx.1 (by simpa using hy.2)
theorem Sz.dd {a b : Nat} {x y : Rat} (hx : Sz a x) (hy : Sz b y) : ((x.den : Int) * (y.den : Int)).natAbs < 2 ^ (a + b) := by
  rw [Int.natAbs_mul]; exact mul_lt (by simpa using hx.2) (by simpa using hy.2)
theorem Sz.nn {a b : Nat} {x y : Rat} (hx : Sz a x) (hy : Sz b y) : (x.num * y.num).natAbs < 2 ^ (a + b) := by
  rw [Int.natAbs_mul]; exact mul_lt hx.1 hy.1
theorem Sz.dn {a b : Nat} {x y : Rat} (hx : Sz a x) (hy : Sz b y) : ((x.den : Int) * y.num).natAbs < 2 ^ (a + b) := by
  rw [Int.natAbs_mul]; exact mul_lt (by simpa using hx.2) hy.1
theorem pow_le {a b n : Nat} (h : n < 2 ^ a) (k : a ≤ b) : n < 2 ^ b := Nat.lt_of_lt_of_le h (Nat.pow_le_pow_right (by decide) k)
theorem Sz.add {a b : Nat} {x y : Rat} (hx : Sz a x) (hy : Sz b y) : Sz (a + b + 1) (x + y) := by
  rw [add_frac]
  exact .frac (natAbs_add_lt (hx.nd hy) (by rw [Nat.add_comm a b]; exact hy.nd hx)) (pow_le (hx.dd hy) (by omega)) (den_mul_ne x y)
theorem Sz.sub {a b : Nat} {x y : Rat} (hx : Sz a x) (hy : Sz b y) : Sz (a + b + 1) (x - y) := by
  rw [sub_frac]
  exact .frac (natAbs_sub_lt (hx.nd hy) (by rw [Nat.add_comm a b]; exact hy.nd hx)) (pow_le (hx.dd hy) (by omega)) (den_mul_ne x y)
theorem Sz.mul {a b : Nat} {x y : Rat} (hx : Sz a x) (hy : Sz b y) : Sz (a + b) (x * y) := by
  rw [mul_frac]
  exact .frac (hx.nn hy) (hx.dd hy) (den_mul_ne x y)
theorem num_ne {y : Rat} (h : y ≠ 0) : y.num ≠ 0 := fun e => h (Rat.num_eq_zero.mp e)
theorem Sz.div {a b : Nat} {x y : Rat} (hx : Sz a x) (hy : Sz b y) (h0 : y ≠ 0) : Sz (a + b) (x / y) := by
  rw [div_frac]
  exact .frac (hx.nd hy) (hx.dn hy) (Int.mul_ne_zero (den_ne x) (num_ne h0))
theorem Sz.neg {a : Nat} {x : Rat} (hx : Sz a x) : Sz a (-x) := ⟨by rw [Rat.neg_num]; simpa using hx.1, by rw [Rat.neg_den]; exact hx.2⟩
theorem Sz.floor {a : Nat} {x : Rat} (hx : Sz a x) : x.floor.natAbs ≤ 2 ^ a := by
  rw [floor_def]
  have h1 := Int.natAbs_ediv_le_natAbs x.num x.den
  have := hx.1
  omega
/-! conditions -/
theorem mul_ok {a b : Nat} {i j : Int} (h1 : i.natAbs < 2 ^ a) (h2 : j.natAbs < 2 ^ b) (ha : 0 < a) (hb : 0 < b) (h : a + b ≤ 1000000) : MulOk i j := .inr (wide_mul h1 h2 ha hb h)
theorem div_ok {b : Nat} {j : Int} (h0 : 0 < j) (h1 : j.natAbs < 2 ^ b) (hb : 0 < b) (h : b ≤ 9000) (i : Int) : CDivW i j := wide_div h0 h1 hb h
theorem divN_ok {b : Nat} {j : Int} (h0 : j ≠ 0) (h1 : j.natAbs < 2 ^ b) (hb : 0 < b) (h : b ≤ 9000) : DivOk j := ⟨h0, Nat.lt_of_lt_of_le (PySem.Flt.log2_lt_of hb h1) h⟩
/-! tags: what isinstance sees -/
def plB : D → Bool
  | .int _ => true
  | _ => false
def paB : D → Bool
  | .tup [u, v] => (match u, v with
    | .int t, .int b => decide (1 < b) && decide (t.gcd b = 1)
    | _, _ => false)
  | _ => false
def nuB (d : D) : Bool := plB d || paB d
theorem pl_tag {G : GHp} {d : D} {t : Tg} (h : tgOf G d = some t) : plB d = decide (t = .int) := by
  cases d with
  | ref a =>
    unfold tgOf at h
    split at h <;> first | (simp_all; done) | (cases h; rfl) | skip
    all_goals (split at h <;> first | (cases h; rfl) | (cases h))
  | _ => first | (cases h; rfl) | (cases h)
theorem tag_tup {G : GHp} {a : D} (h : tgOf G a = some .tup) : ∃ ds, a = .tup ds := by
  cases a with
  | tup ds => exact ⟨ds, rfl⟩
  | ref p =>
    have h : (match G p with
      | some (.lst _) => some Tg.lst
      | some (.dK _) => some Tg.dct
      | _ => none) = some Tg.tup := h
    split at h <;> cases h
  | _ => cases h
theorem paB_num (q : Rat) (h : q.den ≠ 1) : paB (.tup [.int q.num, .int q.den]) = true := by
  have h1 := q.den_pos
  have h2 := q.reduced
  show (decide ((1 : Int) < q.den) && decide (q.num.gcd q.den = 1)) = true
  rw [decide_eq_true (by omega), decide_eq_true (by simpa [Nat.Coprime, Int.gcd] using h2)]
  rfl
theorem nuB_num (q : Rat) : nuB (numD q) = true := by
  rcases numD_cases q with ⟨i, _, e⟩ | ⟨h, e⟩
  · rw [e]; rfl
  · rw [e]; unfold nuB; rw [paB_num q h]; simp
end NUM
set_option linter.all false
set_option maxRecDepth 100000
set_option maxHeartbeats 1000000
namespace NUM
open PySem PySem.Spec L2 DL
open Rat
/-! DL, part 22: readings of the number defs. -/
def pr_is_plain (a : D) (G : GHp) (Q : DK) : Prop := ∃ t, tgOf G a = some t ∧ Q (.bl (plB a)) G
def sp_is_plain : DSp := sp1 fun a G Q _ => pr_is_plain a G Q
theorem rd_is_plain : ∀ a G Q (E : DXK), pr_is_plain a G Q → DRun t_is_plain [some a] G Q := by
  rintro a G Q E ⟨t, ht, h⟩
  rw [pl_tag ht] at h
  conv => whnf
  rw [ht]
  cases t
  case int =>
    conv => whnf
    refine ⟨fun _ => ?_, fun e => tf e⟩
    conv => whnf
    rw [ht]
    conv => whnf
    exact h
  case bool =>
    conv => whnf
    refine ⟨fun _ => ?_, fun e => tf e⟩
    conv => whnf
    rw [ht]
    conv => whnf
    exact h
  all_goals
    conv => whnf
    refine ⟨fun e => ft e, fun _ => ?_⟩
    conv => whnf
    exact h
def whB : D → Int → Int → Bool
  | .int i, l, h => decide (l ≤ i) && decide (i ≤ h)
  | _, _, _ => false
def pr_is_whole (a b c : D) (G : GHp) (Q : DK) : Prop := ∃ t l h, tgOf G a = some t ∧ b = .int l ∧ c = .int h ∧ Q (.bl (whB a l h)) G
def sp_is_whole : DSp := sp3 fun a b c G Q _ => pr_is_whole a b c G Q
theorem rd_is_whole : ∀ a b c G Q (E : DXK), pr_is_whole a b c G Q → DRun (t_is_whole sp_is_plain) [some a, some b, some c] G Q := by
  rintro a b c G Q E ⟨t, l, u, ht, rfl, rfl, h⟩
  conv => whnf
  refine ⟨t, ht, ?_⟩
  cases a
  case int i =>
    conv => whnf
    refine ⟨fun _ => ?_, fun e => tf e⟩
    conv => whnf
    refine ⟨fun e => ?_, fun e => ?_⟩
    · have e : decide (l ≤ i) = true := e
      conv => whnf
      have e2 : whB (.int i) l u = decide (i ≤ u) := by show (decide (l ≤ i) && decide (i ≤ u)) = _; rw [e]; rfl
      rw [e2] at h
      exact h
    · have e : decide (l ≤ i) = false := e
      have e2 : whB (.int i) l u = false := by show (decide (l ≤ i) && decide (i ≤ u)) = _; rw [e]; rfl
      rw [e2] at h
      exact h
  all_goals
    conv => whnf
    refine ⟨fun e => ft e, fun _ => ?_⟩
    conv => whnf
    exact h
def pr_common (a b : D) (G : GHp) (Q : DK) : Prop := ∃ i j : Int, a = .int i ∧ b = .int j ∧ Q (.int (i.gcd j : Nat)) G
def sp_common_part : DSp := sp2 fun a b G Q _ => pr_common a b G Q
theorem rd_common_part : ∀ a b G Q (E : DXK), pr_common a b G Q → DRun t_common_part [some a, some b] G Q := by
  rintro a b G Q E ⟨i, j, rfl, rfl, h⟩
  conv => whnf
  refine while_ind (fun n δ G' => G' = G ∧ ∃ m : Nat, δ = [some (.int m), some (.int n)] ∧ m.gcd n = i.gcd j) j.natAbs ⟨rfl, i.natAbs, rfl, rfl⟩ ?_
  rintro n δ _ ⟨rfl, m, rfl, hg⟩ N hN
  conv => whnf
  refine ⟨fun e => ?_, fun e => ?_⟩
  · have e : (!decide ((n : Int) = 0)) = true := e
    have hn : n ≠ 0 := fun q => by rw [q] at e; exact ft e
    conv => whnf
    refine ⟨by omega, ?_⟩
    conv => whnf
    have em : ((m : Int) % (n : Int)) = ((m % n : Nat) : Int) := rfl
    refine hN (m % n) _ _ (Nat.mod_lt _ (by omega)) ⟨rfl, n, ?_, ?_⟩
    · rw [← em]; rfl
    · rw [← hg, Nat.gcd_comm m n, Nat.gcd_rec n m, Nat.gcd_comm]
  · have e : (!decide ((n : Int) = 0)) = false := e
    have hn : n = 0 := by
      by_cases q : n = 0
      · exact q
      · rw [decide_eq_false (by omega)] at e; exact tf e
    subst hn
    rw [Nat.gcd_zero_right] at hg
    conv => whnf
    rw [hg]
    exact h
def pr_is_part (a : D) (G : GHp) (Q : DK) : Prop := (∃ t, tgOf G a = some t) ∧ (∀ u v, a = .tup [u, v] → (∃ t, tgOf G u = some t) ∧ ∃ t, tgOf G v = some t) ∧ Q (.bl (paB a)) G
def sp_is_part : DSp := sp1 fun a G Q _ => pr_is_part a G Q
theorem paB_len {ds : List D} (h : ds.length ≠ 2) : paB (.tup ds) = false := by
  match ds, h with
  | [], _ => rfl
  | [_], _ => rfl
  | [_, _], h => exact absurd rfl h
  | _ :: _ :: _ :: _, _ => rfl
theorem rd_is_part : ∀ a G Q (E : DXK), pr_is_part a G Q → DRun (t_is_part sp_is_plain sp_common_part) [some a, none, none] G Q := by
  rintro a G Q E ⟨⟨t, ht⟩, hin, h⟩
  conv => whnf
  rw [ht]
  by_cases et : t = .tup
  · subst et
    obtain ⟨ds, rfl⟩ := tag_tup ht
    conv => whnf
    refine ⟨fun e => ft e, fun _ => ?_⟩
    conv => whnf
    refine ⟨fun e => ?_, fun e => ?_⟩
    · have e : (!decide ((ds.length : Int) = 2)) = true := e
      rw [paB_len (fun q => by rw [q] at e; exact ft e)] at h
      exact h
    · have e : (!decide ((ds.length : Int) = 2)) = false := e
      have hl : ds.length = 2 := by
        by_cases q : ds.length = 2
        · exact q
        · rw [decide_eq_false (by omega)] at e; exact tf e
      match ds, hl with
      | [u, v], _ =>
        obtain ⟨⟨t1, h1⟩, t2, h2⟩ := hin u v rfl
        conv => whnf
        refine ⟨t1, h1, ?_⟩
        cases u with
        | int i =>
          conv => whnf
          refine ⟨fun _ => ?_, fun e => tf e⟩
          conv => whnf
          refine ⟨t2, h2, ?_⟩
          cases v with
          | int j =>
            conv => whnf
            refine ⟨fun _ => ?_, fun e => tf e⟩
            conv => whnf
            refine ⟨fun e => ?_, fun e => ?_⟩
            · have e : decide ((1 : Int) < j) = true := e
              conv => whnf
              refine ⟨i, j, rfl, rfl, ?_⟩
              conv => whnf
              have e2 : paB (.tup [.int i, .int j]) = decide (((i.gcd j : Nat) : Int) = 1) := by
                show (decide ((1 : Int) < j) && decide (i.gcd j = 1)) = _
                rw [e, Bool.true_and]
                congr 1
                exact propext ⟨fun q => by omega, fun q => by omega⟩
              rw [e2] at h
              exact h
            · have e : decide ((1 : Int) < j) = false := e
              have e2 : paB (.tup [.int i, .int j]) = false := by
                show (decide ((1 : Int) < j) && decide (i.gcd j = 1)) = _
                rw [e]; rfl
              rw [e2] at h
              show Q (.bl (decide ((1 : Int) < j))) G
              rw [e]
              exact h
          | _ =>
            conv => whnf
            refine ⟨fun e => ft e, fun _ => ?_⟩
            conv => whnf
            exact h
        | _ =>
          conv => whnf
          refine ⟨fun e => ft e, fun _ => ?_⟩
          conv => whnf
          exact h
  · have e1 : isA t .tup = false := by cases t <;> first | rfl | exact absurd rfl et
    have e2 : paB a = false := by
      cases a with
      | tup ds => cases ht; exact absurd rfl et
      | _ => rfl
    rw [e2] at h
    conv => whnf
    refine ⟨fun _ => ?_, fun e => ?_⟩
    · conv => whnf
      refine ⟨fun _ => ?_, fun e => tf e⟩
      conv => whnf
      exact h
    · rw [e1] at e; exact tf e
/-- isinstance can tell of it and of what stands in it -/
def Tgd (G : GHp) (a : D) : Prop := (∃ t, tgOf G a = some t) ∧ ∀ u v, a = .tup [u, v] → (∃ t, tgOf G u = some t) ∧ ∃ t, tgOf G v = some t
theorem Tgd.num {G : GHp} (q : Rat) : Tgd G (numD q) := by
  rcases numD_cases q with ⟨i, _, e⟩ | ⟨_, e⟩
  · rw [e]; exact ⟨⟨_, rfl⟩, fun u v h => by cases h⟩
  · rw [e]; exact ⟨⟨_, rfl⟩, fun u v h => by cases h; exact ⟨⟨_, rfl⟩, _, rfl⟩⟩
def pr_is_number (a : D) (G : GHp) (Q : DK) : Prop := Tgd G a ∧ Q (.bl (nuB a)) G
def sp_is_number : DSp := sp1 fun a G Q _ => pr_is_number a G Q
theorem rd_is_number : ∀ a G Q (E : DXK), pr_is_number a G Q → DRun (t_is_number sp_is_plain sp_is_part) [some a] G Q := by
  rintro a G Q E ⟨⟨⟨t, ht⟩, hin⟩, h⟩
  conv => whnf
  refine ⟨t, ht, ?_⟩
  cases e : plB a with
  | true =>
    have e2 : nuB a = true := by unfold nuB; rw [e]; rfl
    rw [e2] at h
    conv => whnf
    refine ⟨fun _ => ?_, fun e => tf e⟩
    conv => whnf
    exact h
  | false =>
    have e2 : nuB a = paB a := by unfold nuB; rw [e]; rfl
    rw [e2] at h
    conv => whnf
    refine ⟨fun e => ft e, fun _ => ?_⟩
    conv => whnf
    exact ⟨⟨t, ht⟩, hin, h⟩
def pr_reckoned (a b : D) (G : GHp) (Q : DK) : Prop := ∃ t d : Int, a = .int t ∧ b = .int d ∧ d ≠ 0 ∧ d.natAbs < 2 ^ 8990 ∧ Q (numD (t /. d)) G
def sp_reckoned : DSp := sp2 fun a b G Q _ => pr_reckoned a b G Q
theorem gcd_lt {t d : Int} {n : Nat} (h0 : d ≠ 0) (h : d.natAbs < n) : t.gcd d < n := by
  have h1 : t.gcd d ∣ d.natAbs := Nat.gcd_dvd_right _ _
  have := Nat.le_of_dvd (by omega) h1
  omega
theorem frac_pos {t d : Int} (h : 0 < d) : (t /. d).num = t / (t.gcd d : Nat) ∧ ((t /. d).den : Int) = d / (t.gcd d : Nat) := by
  refine ⟨?_, ?_⟩
  · rw [num_divInt, Int.sign_eq_one_of_pos h, Int.one_mul, Int.gcd_comm]
  · rw [den_divInt, if_neg (by omega), Int.gcd_comm, Int.natCast_ediv]
    congr 1
    omega
theorem frac_neg {t d : Int} (h : d < 0) : (t /. d).num = (-t) / (t.gcd d : Nat) ∧ ((t /. d).den : Int) = (-d) / (t.gcd d : Nat) := by
  refine ⟨?_, ?_⟩
  · rw [num_divInt, Int.sign_eq_neg_one_of_neg h, Int.gcd_comm]
    congr 1
    omega
  · rw [den_divInt, if_neg (by omega), Int.gcd_comm, Int.natCast_ediv]
    congr 1
    omega
theorem rd_reckoned : ∀ a b G Q (E : DXK), pr_reckoned a b G Q → DRun (t_reckoned sp_common_part) [some a, some b, none] G Q := by
  rintro a b G Q E ⟨t, d, rfl, rfl, hd, hs, h⟩
  have hg : 0 < t.gcd d := Int.gcd_pos_of_ne_zero_right _ hd
  have hgs : ((t.gcd d : Nat) : Int).natAbs < 2 ^ 8990 := by simpa using gcd_lt hd hs
  have hgn : (0 - ((t.gcd d : Nat) : Int)).natAbs < 2 ^ 8990 := by have := gcd_lt hd hs (t := t); omega
  conv => whnf
  refine ⟨t, d, rfl, rfl, ?_⟩
  have fin : ∀ n m : Int, n = (t /. d).num → m = ((t /. d).den : Int) → Q (if decide (m = 1) = true then .int n else .tup [.int n, .int m]) G := by
    rintro n m rfl rfl
    unfold numD at h
    by_cases e : (t /. d).den = 1
    · rw [if_pos e] at h
      rw [if_pos (decide_eq_true (by omega))]
      exact h
    · rw [if_neg e] at h
      rw [if_neg (by rw [decide_eq_false (by omega)]; simp)]
      exact h
  have tail : ∀ n m : Int, n = (t /. d).num → m = ((t /. d).den : Int) → dRet (dIfE (dTestB (dOp dEqQ (dVar 1) (dC (.int 1)))) (dVar 0) (dTup (dCons (dVar 0) (dCons (dVar 1) dNil)))) { nx := fun _ G' => Q .non G', rt := Q } [some (.int n), some (.int m), none] G := by
    intro n m hn hm
    have f := fin n m hn hm
    conv => whnf
    refine ⟨fun e => ?_, fun e => ?_⟩
    · have e : decide (m = 1) = true := e
      rw [if_pos e] at f
      exact f
    · have e : decide (m = 1) = false := e
      rw [if_neg (by rw [e]; simp)] at f
      exact ⟨smallL (by simp), f⟩
  conv => whnf
  refine ⟨fun e => ?_, fun e => ?_⟩
  · have e : d < 0 := of_decide_eq_true e
    obtain ⟨f1, f2⟩ := frac_neg (t := t) e
    conv => whnf
    refine ⟨divN_ok (by omega) hgn (by decide) (by decide), ?_⟩
    conv => whnf
    refine ⟨divN_ok (by omega) hgn (by decide) (by decide), ?_⟩
    refine tail _ _ ?_ ?_
    · rw [f1, show t = -(-t) by omega, Int.zero_sub, Int.neg_fdiv_neg, Int.fdiv_eq_ediv_of_nonneg _ (by omega)]
      simp
    · rw [f2, show d.fdiv (0 - ((t.gcd d : Nat) : Int)) = (-(-d)).fdiv (-((t.gcd d : Nat) : Int)) by rw [Int.neg_neg, Int.zero_sub], Int.neg_fdiv_neg, Int.fdiv_eq_ediv_of_nonneg _ (by omega)]
  · have e : ¬ d < 0 := of_decide_eq_false e
    obtain ⟨f1, f2⟩ := frac_pos (t := t) (show 0 < d by omega)
    conv => whnf
    refine ⟨divN_ok (by omega) hgs (by decide) (by decide), ?_⟩
    conv => whnf
    refine ⟨divN_ok (by omega) hgs (by decide) (by decide), ?_⟩
    refine tail _ _ ?_ ?_
    · rw [f1, Int.fdiv_eq_ediv_of_nonneg _ (by omega)]
    · rw [f2, Int.fdiv_eq_ediv_of_nonneg _ (by omega)]
def pr_pair_of (a : D) (G : GHp) (Q : DK) : Prop := ∃ q, a = numD q ∧ Q (prD q) G
def sp_pair_of : DSp := sp1 fun a G Q _ => pr_pair_of a G Q
theorem rd_pair_of : ∀ a G Q (E : DXK), pr_pair_of a G Q → DRun (t_pair_of sp_is_plain sp_is_part) [some a] G Q := by
  rintro a G Q E ⟨q, rfl, h⟩
  rcases numD_cases q with ⟨i, eq, e⟩ | ⟨hd, e⟩
  · rw [e]
    conv => whnf
    refine ⟨.int, rfl, ?_⟩
    conv => whnf
    refine ⟨fun _ => ?_, fun e => tf e⟩
    conv => whnf
    refine ⟨smallL (by simp), ?_⟩
    subst eq
    have : prD (i : Rat) = .tup [.int i, .int 1] := by unfold prD; rw [num_intCast, den_intCast]; rfl
    rw [this] at h
    exact h
  · rw [e]
    conv => whnf
    refine ⟨.tup, rfl, ?_⟩
    conv => whnf
    refine ⟨fun e => ft e, fun _ => ?_⟩
    conv => whnf
    refine ⟨⟨.tup, rfl⟩, fun u v h => ?_, ?_⟩
    · cases h
      exact ⟨⟨.int, rfl⟩, .int, rfl⟩
    rw [paB_num q hd]
    conv => whnf
    refine ⟨fun e => ft e, fun _ => ?_⟩
    conv => whnf
    exact h
/-! two numbers -/
def pr_two (C : Rat → Rat → Prop) (f : Rat → Rat → D) (a b : D) (G : GHp) (Q : DK) : Prop := ∃ x y : Rat, a = numD x ∧ b = numD y ∧ Sz 4000 x ∧ Sz 4000 y ∧ C x y ∧ Q (f x y) G
abbrev sp_two (C : Rat → Rat → Prop) (f : Rat → Rat → D) : DSp := sp2 fun a b G Q _ => pr_two C f a b G Q
abbrev sp_plus : DSp := sp_two (fun _ _ => True) fun x y => numD (x + y)
abbrev sp_minus : DSp := sp_two (fun _ _ => True) fun x y => numD (x - y)
abbrev sp_times : DSp := sp_two (fun _ _ => True) fun x y => numD (x * y)
abbrev sp_over : DSp := sp_two (fun _ y => y ≠ 0) fun x y => numD (x / y)
abbrev sp_less : DSp := sp_two (fun _ _ => True) fun x y => .bl (decide (x < y))
theorem mulND {x y : Rat} (hx : Sz 4000 x) (hy : Sz 4000 y) : MulOk x.num y.den := mul_ok (a := 4000) (b := 4000) hx.1 (by simpa using hy.2) (by decide) (by decide) (by decide)
theorem mulDD {x y : Rat} (hx : Sz 4000 x) (hy : Sz 4000 y) : MulOk x.den y.den := mul_ok (a := 4000) (b := 4000) (by simpa using hx.2) (by simpa using hy.2) (by decide) (by decide) (by decide)
theorem mulNN {x y : Rat} (hx : Sz 4000 x) (hy : Sz 4000 y) : MulOk x.num y.num := mul_ok (a := 4000) (b := 4000) hx.1 hy.1 (by decide) (by decide) (by decide)
theorem mulDN {x y : Rat} (hx : Sz 4000 x) (hy : Sz 4000 y) : MulOk x.den y.num := mul_ok (a := 4000) (b := 4000) (by simpa using hx.2) hy.1 (by decide) (by decide) (by decide)
theorem dd_lt {x y : Rat} (hx : Sz 4000 x) (hy : Sz 4000 y) : ((x.den : Int) * (y.den : Int)).natAbs < 2 ^ 8990 := pow_le (hx.dd hy) (by decide)
theorem dn_lt {x y : Rat} (hx : Sz 4000 x) (hy : Sz 4000 y) : ((x.den : Int) * y.num).natAbs < 2 ^ 8990 := pow_le (hx.dn hy) (by decide)
theorem rd_plus : ∀ a b G Q (E : DXK), pr_two (fun _ _ => True) (fun x y => numD (x + y)) a b G Q → DRun (t_plus sp_pair_of sp_reckoned) [some a, some b, none, none, none, none] G Q := by
  rintro a b G Q E ⟨x, y, rfl, rfl, hx, hy, _, h⟩
  conv => whnf
  refine ⟨x, rfl, ?_⟩
  conv => whnf
  refine ⟨y, rfl, ?_⟩
  conv => whnf
  refine ⟨smallL (by simp), ?_⟩
  conv => whnf
  refine ⟨mulND hx hy, ?_⟩
  conv => whnf
  refine ⟨mulND hy hx, ?_⟩
  conv => whnf
  refine ⟨mulDD hx hy, ?_⟩
  conv => whnf
  refine ⟨_, _, rfl, rfl, den_mul_ne x y, dd_lt hx hy, ?_⟩
  replace h : Q (numD (x + y)) G := h
  rw [add_frac] at h
  exact h
theorem rd_minus : ∀ a b G Q (E : DXK), pr_two (fun _ _ => True) (fun x y => numD (x - y)) a b G Q → DRun (t_minus sp_pair_of sp_reckoned) [some a, some b, none, none, none, none] G Q := by
  rintro a b G Q E ⟨x, y, rfl, rfl, hx, hy, _, h⟩
  conv => whnf
  refine ⟨x, rfl, ?_⟩
  conv => whnf
  refine ⟨y, rfl, ?_⟩
  conv => whnf
  refine ⟨smallL (by simp), ?_⟩
  conv => whnf
  refine ⟨mulND hx hy, ?_⟩
  conv => whnf
  refine ⟨mulND hy hx, ?_⟩
  conv => whnf
  refine ⟨mulDD hx hy, ?_⟩
  conv => whnf
  refine ⟨_, _, rfl, rfl, den_mul_ne x y, dd_lt hx hy, ?_⟩
  replace h : Q (numD (x - y)) G := h
  rw [sub_frac] at h
  exact h
theorem rd_times : ∀ a b G Q (E : DXK), pr_two (fun _ _ => True) (fun x y => numD (x * y)) a b G Q → DRun (t_times sp_pair_of sp_reckoned) [some a, some b, none, none, none, none] G Q := by
  rintro a b G Q E ⟨x, y, rfl, rfl, hx, hy, _, h⟩
  conv => whnf
  refine ⟨x, rfl, ?_⟩
  conv => whnf
  refine ⟨y, rfl, ?_⟩
  conv => whnf
  refine ⟨smallL (by simp), ?_⟩
  conv => whnf
  refine ⟨mulNN hx hy, ?_⟩
  conv => whnf
  refine ⟨mulDD hx hy, ?_⟩
  conv => whnf
  refine ⟨_, _, rfl, rfl, den_mul_ne x y, dd_lt hx hy, ?_⟩
  replace h : Q (numD (x * y)) G := h
  rw [mul_frac] at h
  exact h
theorem rd_over : ∀ a b G Q (E : DXK), pr_two (fun _ y => y ≠ 0) (fun x y => numD (x / y)) a b G Q → DRun (t_over sp_pair_of sp_reckoned) [some a, some b, none, none, none, none] G Q := by
  rintro a b G Q E ⟨x, y, rfl, rfl, hx, hy, h0, h⟩
  conv => whnf
  refine ⟨x, rfl, ?_⟩
  conv => whnf
  refine ⟨y, rfl, ?_⟩
  conv => whnf
  refine ⟨smallL (by simp), ?_⟩
  conv => whnf
  refine ⟨fun e => absurd (of_decide_eq_true e) (num_ne h0), fun _ => ?_⟩
  conv => whnf
  refine ⟨mulND hx hy, ?_⟩
  conv => whnf
  refine ⟨mulDN hx hy, ?_⟩
  conv => whnf
  refine ⟨_, _, rfl, rfl, Int.mul_ne_zero (den_ne x) (num_ne h0), dn_lt hx hy, ?_⟩
  replace h : Q (numD (x / y)) G := h
  rw [div_frac] at h
  exact h
theorem rd_less : ∀ a b G Q (E : DXK), pr_two (fun _ _ => True) (fun x y => .bl (decide (x < y))) a b G Q → DRun (t_less sp_pair_of) [some a, some b, none, none, none, none] G Q := by
  rintro a b G Q E ⟨x, y, rfl, rfl, hx, hy, _, h⟩
  conv => whnf
  refine ⟨x, rfl, ?_⟩
  conv => whnf
  refine ⟨y, rfl, ?_⟩
  conv => whnf
  refine ⟨smallL (by simp), ?_⟩
  conv => whnf
  refine ⟨mulND hx hy, ?_⟩
  conv => whnf
  refine ⟨mulND hy hx, ?_⟩
  have e : decide (x < y) = decide (x.num * y.den < y.num * x.den) := by
    congr 1
    exact propext (Rat.lt_iff x y)
  replace h : Q (.bl (decide (x < y))) G := h
  rw [e] at h
  conv => whnf
  exact h
/-- the floor of a fraction -/
theorem floor_frac {t d : Int} (h : 0 < d) : (t /. d).floor = t / d := by
  rw [floor_def]
  obtain ⟨f1, f2⟩ := frac_pos (t := t) h
  rw [f1, f2]
  have hg : (0 : Int) < (t.gcd d : Nat) := by have := Int.gcd_pos_of_ne_zero_right t (show d ≠ 0 by omega); omega
  have e1 : t = (t.gcd d : Nat) * (t / (t.gcd d : Nat)) := (Int.mul_ediv_cancel' (Int.gcd_dvd_left ..)).symm
  have e2 : d = (t.gcd d : Nat) * (d / (t.gcd d : Nat)) := (Int.mul_ediv_cancel' (Int.gcd_dvd_right ..)).symm
  have e3 : (t.gcd d : Nat) * (t / (t.gcd d : Nat)) / ((t.gcd d : Nat) * (d / (t.gcd d : Nat))) = (t / (t.gcd d : Nat)) / (d / (t.gcd d : Nat)) := Int.mul_ediv_mul_of_pos _ _ hg
  rw [← e1, ← e2] at e3
  exact e3.symm
def pr_floor_of (a b : D) (G : GHp) (Q : DK) : Prop := ∃ x s : Rat, a = numD x ∧ b = numD s ∧ Sz 1900 x ∧ Sz 1900 s ∧ 0 < s ∧ Q (numD (s * ((x / s).floor : Rat))) G
def sp_floor_of : DSp := sp2 fun a b G Q _ => pr_floor_of a b G Q
theorem num_pos {s : Rat} (h : 0 < s) : 0 < s.num := by
  have := (Rat.lt_iff 0 s).mp h
  simpa using this
theorem rd_floor_of : ∀ a b G Q (E : DXK), pr_floor_of a b G Q → DRun (t_floor_of sp_pair_of sp_times) [some a, some b, none, none, none, none] G Q := by
  rintro a b G Q E ⟨x, s, rfl, rfl, hx, hs, h0, h⟩
  have hn := num_pos h0
  have hd : 0 < (x.den : Int) * s.num := Int.mul_pos (by have := x.den_pos; omega) hn
  conv => whnf
  refine ⟨x, rfl, ?_⟩
  conv => whnf
  refine ⟨s, rfl, ?_⟩
  conv => whnf
  refine ⟨smallL (by simp), ?_⟩
  conv => whnf
  refine ⟨fun e => ?_, fun _ => ?_⟩
  · exfalso
    have e : s.num ≤ 0 := of_decide_eq_true e
    omega
  conv => whnf
  refine ⟨mulND (hx.mono (by decide)) (hs.mono (by decide)), ?_⟩
  conv => whnf
  refine ⟨mulDN (hx.mono (by decide)) (hs.mono (by decide)), ?_⟩
  conv => whnf
  refine ⟨div_ok (b := 3800) hd (hx.dn hs) (by decide) (by decide) _, ?_⟩
  conv => whnf
  have ef : (x / s).floor = x.num * (s.den : Int) / ((x.den : Int) * s.num) := by rw [div_frac, floor_frac hd]
  rw [ef] at h
  refine ⟨s, _, rfl, (numD_int _).symm, hs.mono (by decide), .int ?_ (by decide), trivial, h⟩
  have h1 := Int.natAbs_ediv_le_natAbs (x.num * (s.den : Int)) ((x.den : Int) * s.num)
  have h2 := hx.nd hs
  exact pow_le (Nat.lt_of_le_of_lt h1 h2) (by decide)
theorem floor_one (x : Rat) : numD ((1 : Rat) * ((x / 1).floor : Rat)) = .int x.floor := by
  have : x / 1 = x := by grind
  rw [this, Rat.one_mul, numD_int]
/-! the laws' own reckoning: pairs -/
def pr_law_low (a b : D) (G : GHp) (Q : DK) : Prop := ∃ t d : Int, a = .int t ∧ b = .int d ∧ d ≠ 0 ∧ t.natAbs < 2 ^ 8990 ∧ d.natAbs < 2 ^ 8990 ∧ Q (prD (t /. d)) G
def sp_law_low : DSp := sp2 fun a b G Q _ => pr_law_low a b G Q
theorem rd_law_low : ∀ a b G Q (E : DXK), pr_law_low a b G Q → DRun t_law_low [some a, some b, none, none, none] G Q := by
  rintro a b G Q E ⟨t, d, rfl, rfl, hd, ht, hs, h⟩
  have hg : 0 < t.gcd d := Int.gcd_pos_of_ne_zero_right _ hd
  have hgs : ((t.gcd d : Nat) : Int).natAbs < 2 ^ 8990 := by simpa using gcd_lt hd hs
  conv => whnf
  refine while_ind (fun n δ G' => G' = G ∧ ∃ m : Nat, δ = [some (.int t), some (.int d), some (.int m), some (.int n), none] ∧ m.gcd n = t.gcd d) d.natAbs ⟨rfl, t.natAbs, rfl, rfl⟩ ?_
  rintro n δ _ ⟨rfl, m, rfl, hgc⟩ N hN
  conv => whnf
  refine ⟨fun e => ?_, fun e => ?_⟩
  · have e : (0 : Int) < n := of_decide_eq_true e
    conv => whnf
    refine ⟨by omega, ?_⟩
    conv => whnf
    have em : ((m : Int) % (n : Int)) = ((m % n : Nat) : Int) := rfl
    refine hN (m % n) _ _ (Nat.mod_lt _ (by omega)) ⟨rfl, n, ?_, ?_⟩
    · rw [← em]; rfl
    · rw [← hgc, Nat.gcd_comm m n, Nat.gcd_rec n m, Nat.gcd_comm]
  · have e : ¬ (0 : Int) < n := of_decide_eq_false e
    have hn : n = 0 := by omega
    subst hn
    rw [Nat.gcd_zero_right] at hgc
    subst hgc
    conv => whnf
    refine ⟨fun e => ?_, fun e => ?_⟩
    · have e : 0 < d := of_decide_eq_true e
      obtain ⟨f1, f2⟩ := frac_pos (t := t) e
      conv => whnf
      refine ⟨mul_small (.inl (by omega)), ?_⟩
      conv => whnf
      refine ⟨div_ok (b := 8990) (by omega) hgs (by decide) (by decide) _, ?_⟩
      conv => whnf
      refine ⟨div_ok (b := 8990) (by omega) hgs (by decide) (by decide) _, ?_⟩
      conv => whnf
      refine ⟨smallL (by simp), ?_⟩
      unfold prD at h
      rw [f1, f2] at h
      have e1 : (1 : Int) * t = t := by omega
      have e2 : ((d.natAbs : Nat) : Int) = d := by omega
      show Q (.tup [.int ((1 : Int) * t / ((t.gcd d : Nat) : Int)), .int (((d.natAbs : Nat) : Int) / ((t.gcd d : Nat) : Int))]) _
      rw [e1, e2]
      exact h
    · have e : ¬ 0 < d := of_decide_eq_false e
      obtain ⟨f1, f2⟩ := frac_neg (t := t) (show d < 0 by omega)
      conv => whnf
      refine ⟨mul_small (.inl (by omega)), ?_⟩
      conv => whnf
      refine ⟨div_ok (b := 8990) (by omega) hgs (by decide) (by decide) _, ?_⟩
      conv => whnf
      refine ⟨div_ok (b := 8990) (by omega) hgs (by decide) (by decide) _, ?_⟩
      conv => whnf
      refine ⟨smallL (by simp), ?_⟩
      unfold prD at h
      rw [f1, f2] at h
      have e1 : (-1 : Int) * t = -t := by omega
      have e2 : ((d.natAbs : Nat) : Int) = -d := by omega
      show Q (.tup [.int ((-1 : Int) * t / ((t.gcd d : Nat) : Int)), .int (((d.natAbs : Nat) : Int) / ((t.gcd d : Nat) : Int))]) _
      rw [e1, e2]
      exact h
def pr_pair (C : Rat → Rat → Prop) (f : Rat → Rat → D) (a b : D) (G : GHp) (Q : DK) : Prop := ∃ x y : Rat, a = prD x ∧ b = prD y ∧ Sz 4000 x ∧ Sz 4000 y ∧ C x y ∧ Q (f x y) G
abbrev sp_pair (C : Rat → Rat → Prop) (f : Rat → Rat → D) : DSp := sp2 fun a b G Q _ => pr_pair C f a b G Q
abbrev sp_law_plus : DSp := sp_pair (fun _ _ => True) fun x y => prD (x + y)
abbrev sp_law_minus : DSp := sp_pair (fun _ _ => True) fun x y => prD (x - y)
abbrev sp_law_times : DSp := sp_pair (fun _ _ => True) fun x y => prD (x * y)
abbrev sp_law_over : DSp := sp_pair (fun _ y => y ≠ 0) fun x y => prD (x / y)
abbrev sp_law_less : DSp := sp_pair (fun _ _ => True) fun x y => .bl (decide (x < y))
/-- the greater one -/
def rmax (x y : Rat) : Rat := if x < y then y else x
abbrev sp_law_most : DSp := sp_pair (fun _ _ => True) fun x y => prD (rmax x y)
theorem nn_lt {x y : Rat} (hx : Sz 4000 x) (hy : Sz 4000 y) : (x.num * y.num).natAbs < 2 ^ 8990 := pow_le (hx.nn hy) (by decide)
theorem nd_lt {x y : Rat} (hx : Sz 4000 x) (hy : Sz 4000 y) : (x.num * (y.den : Int)).natAbs < 2 ^ 8990 := pow_le (hx.nd hy) (by decide)
theorem add_lt {x y : Rat} (hx : Sz 4000 x) (hy : Sz 4000 y) : (x.num * (y.den : Int) + y.num * x.den).natAbs < 2 ^ 8990 := pow_le (natAbs_add_lt (hx.nd hy) (hy.nd hx)) (by decide)
theorem sub_lt {x y : Rat} (hx : Sz 4000 x) (hy : Sz 4000 y) : (x.num * (y.den : Int) - y.num * x.den).natAbs < 2 ^ 8990 := pow_le (natAbs_sub_lt (hx.nd hy) (hy.nd hx)) (by decide)
theorem rd_law_plus : ∀ a b G Q (E : DXK), pr_pair (fun _ _ => True) (fun x y => prD (x + y)) a b G Q → DRun (t_law_plus sp_law_low) [some a, some b] G Q := by
  rintro a b G Q E ⟨x, y, rfl, rfl, hx, hy, _, h⟩
  conv => whnf
  refine ⟨mulND hx hy, ?_⟩
  conv => whnf
  refine ⟨mulND hy hx, ?_⟩
  conv => whnf
  refine ⟨mulDD hx hy, ?_⟩
  conv => whnf
  refine ⟨_, _, rfl, rfl, den_mul_ne x y, add_lt hx hy, dd_lt hx hy, ?_⟩
  replace h : Q (prD (x + y)) G := h
  rw [add_frac] at h
  exact h
theorem rd_law_minus : ∀ a b G Q (E : DXK), pr_pair (fun _ _ => True) (fun x y => prD (x - y)) a b G Q → DRun (t_law_minus sp_law_low) [some a, some b] G Q := by
  rintro a b G Q E ⟨x, y, rfl, rfl, hx, hy, _, h⟩
  conv => whnf
  refine ⟨mulND hx hy, ?_⟩
  conv => whnf
  refine ⟨mulND hy hx, ?_⟩
  conv => whnf
  refine ⟨mulDD hx hy, ?_⟩
  conv => whnf
  refine ⟨_, _, rfl, rfl, den_mul_ne x y, sub_lt hx hy, dd_lt hx hy, ?_⟩
  replace h : Q (prD (x - y)) G := h
  rw [sub_frac] at h
  exact h
theorem rd_law_over : ∀ a b G Q (E : DXK), pr_pair (fun _ y => y ≠ 0) (fun x y => prD (x / y)) a b G Q → DRun (t_law_over sp_law_low) [some a, some b] G Q := by
  rintro a b G Q E ⟨x, y, rfl, rfl, hx, hy, h0, h⟩
  conv => whnf
  refine ⟨mulND hx hy, ?_⟩
  conv => whnf
  refine ⟨mulDN hx hy, ?_⟩
  conv => whnf
  refine ⟨_, _, rfl, rfl, Int.mul_ne_zero (den_ne x) (num_ne h0), nd_lt hx hy, dn_lt hx hy, ?_⟩
  replace h : Q (prD (x / y)) G := h
  rw [div_frac] at h
  exact h
theorem lt_dec (x y : Rat) : decide (x.num * (y.den : Int) < y.num * x.den) = decide (x < y) := by
  congr 1
  exact propext (Rat.lt_iff x y).symm
theorem rd_law_less : ∀ a b G Q (E : DXK), pr_pair (fun _ _ => True) (fun x y => .bl (decide (x < y))) a b G Q → DRun t_law_less [some a, some b] G Q := by
  rintro a b G Q E ⟨x, y, rfl, rfl, hx, hy, _, h⟩
  conv => whnf
  refine ⟨mulND hx hy, ?_⟩
  conv => whnf
  refine ⟨mulND hy hx, ?_⟩
  replace h : Q (.bl (decide (x < y))) G := h
  rw [← lt_dec] at h
  conv => whnf
  exact h
theorem rd_law_most : ∀ a b G Q (E : DXK), pr_pair (fun _ _ => True) (fun x y => prD (rmax x y)) a b G Q → DRun (t_law_most sp_law_less) [some a, some b] G Q := by
  rintro a b G Q E ⟨x, y, rfl, rfl, hx, hy, _, h⟩
  conv => whnf
  refine ⟨x, y, rfl, rfl, hx, hy, trivial, ?_⟩
  replace h : Q (prD (rmax x y)) G := h
  unfold rmax at h
  conv => whnf
  refine ⟨fun e => ?_, fun e => ?_⟩
  · rw [if_pos (of_decide_eq_true e)] at h
    exact h
  · rw [if_neg (of_decide_eq_false e)] at h
    exact h
def pr_law_floor (a : D) (G : GHp) (Q : DK) : Prop := ∃ x : Rat, a = prD x ∧ Sz 8000 x ∧ Q (.int x.floor) G
def sp_law_floor : DSp := sp1 fun a G Q _ => pr_law_floor a G Q
theorem rd_law_floor : ∀ a G Q (E : DXK), pr_law_floor a G Q → DRun t_law_floor [some a] G Q := by
  rintro a G Q E ⟨x, rfl, hx, h⟩
  conv => whnf
  refine ⟨div_ok (b := 8000) (by have := x.den_pos; omega) (by simpa using hx.2) (by decide) (by decide) _, ?_⟩
  rw [floor_def] at h
  exact h
def pr_law_num (a : D) (G : GHp) (Q : DK) : Prop := ∃ x : Rat, a = prD x ∧ Q (numD x) G
def sp_law_num : DSp := sp1 fun a G Q _ => pr_law_num a G Q
theorem rd_law_num : ∀ a G Q (E : DXK), pr_law_num a G Q → DRun t_law_num [some a] G Q := by
  rintro a G Q E ⟨x, rfl, h⟩
  unfold numD at h
  conv => whnf
  refine ⟨fun e => ?_, fun e => ?_⟩
  · have e : (x.den : Int) = 1 := of_decide_eq_true e
    rw [if_pos (by omega)] at h
    exact h
  · have e : ¬ (x.den : Int) = 1 := of_decide_eq_false e
    rw [if_neg (by omega)] at h
    exact h
/-! == of numbers, of pairs -/
theorem pr_inj {x y : Rat} (h1 : x.num = y.num) (h2 : x.den = y.den) : x = y := Rat.ext h1 h2
theorem DD_pr {G : GHp} (x : Rat) : DD G (prD x) (.tuple [.int x.num, .int x.den]) := .tup (.cons (.int _) (.cons (.int _) .nil))
theorem Shp.pr (n : Nat) (x : Rat) : Shp (n + 1) (.tuple [.int x.num, .int x.den]) := (Shps.cons (.int _) (.cons (.int _) .nil) : Shps n _).tuple
theorem eqv_pr (x y : Rat) : PyData.eqv (.tuple [.int x.num, .int x.den]) (.tuple [.int y.num, .int y.den]) = decide (x = y) := by
  simp only [PyData.eqv, PyData.eqvAll, Bool.and_true]
  by_cases h : x = y
  · subst h; simp
  · rw [decide_eq_false h]
    by_cases h1 : x.num = y.num
    · have : x.den ≠ y.den := fun e => h (pr_inj h1 e)
      simp [h1]; omega
    · simp [h1]
theorem eq_pr {x y : Rat} {G : GHp} {Q : DK} (h : Q (.bl (decide (x = y))) G) : dEqQ (prD x) (prD y) G Q := by
  refine ⟨_, _, DD_pr x, DD_pr y, (Shp.pr 1 x).ok (by decide), (Shp.pr 1 y).ok (by decide), ?_⟩
  rw [eqv_pr]; exact h
theorem ne_pr {x y : Rat} {G : GHp} {Q : DK} (h : Q (.bl (!decide (x = y))) G) : dNeQ (prD x) (prD y) G Q := by
  refine ⟨_, _, DD_pr x, DD_pr y, (Shp.pr 1 x).ok (by decide), (Shp.pr 1 y).ok (by decide), ?_⟩
  rw [eqv_pr]; exact h
theorem fz_num (n : Nat) (q : Rat) : fz (n + 2) (numD q) = true := by
  rcases numD_cases q with ⟨i, _, e⟩ | ⟨_, e⟩
  · rw [e]; rfl
  · rw [e]
    show (decide ([D.int q.num, D.int q.den].length ≤ 1000) && [D.int q.num, D.int q.den].all (fz (n + 1))) = true
    simp [fz]
end NUM
set_option Elab.async false
set_option linter.all false
set_option maxRecDepth 100000
set_option maxHeartbeats 1000000
/-! DL, part 23: xs.remove(y) and xs.index(y), where what is sought is data of any depth. -/
namespace DL
open PySem PySem.Spec L2 PyProof.Rows
open PySem.AutoSeq1 (wpAny_loadPart')
open PySem.MeetsSeq PySem.MeetsSeq2 PySem.MeetsSeq3 PySem.SeqRoads2

theorem remove_loopAt (l : Addr) (items : Array Value) (n : Nat) (x : Value) (e : Value → Bool) (j : Nat) (hj : j < items.size) (hit : e items[j] = true) (k : Nat) (hs1 : items.size ≤ sizeLine) :
    ∀ i : Nat, j - i = k → i ≤ j → (∀ m (hm : m < items.size), i ≤ m → m < j → e items[m] = false) → Meets (Builtin.«list.remove.loop» ⟨[.ref l, x, rawInt i], []⟩)
      (fun A R s => s.heap.get? l = some { cls := .type "list", dict := none, data := .seq items n, slots := #[] } ∧ (∀ y, y ∈ items → SeqAt.EqAt A.in1 s y x (e y)) ∧ R (.ok (.ret .none)) { s with heap := s.heap.update l (Obj.mapSeq fun xs => xs.eraseIdxIfInBounds j) }) := by
  induction k with
  | zero =>
    intro i hk hij hno prog w A R s h
    obtain ⟨hp, g, d, tk, os⟩ := s; obtain ⟨hl, he, h⟩ := h
    have hij' : i = j := by omega
    subst hij'
    wp_walk using wpAny_loadPart' hl
    have hi : items[((i : Nat) : Int).toNat]? = some items[i] := by simp [hj]
    rw [hi]
    refine wpAny_bind (he _ (Array.getElem_mem hj) prog w _ _ ?_)
    rw [hit]
    have hz' : (items.eraseIdxIfInBounds i).size ≤ sizeLine + 1 := Nat.le_trans (size_erased items _) (Nat.le_succ_of_le hs1)
    wp_walk using (wpAny_updateSeq hl rfl (hz := hs1) (_hz' := hz')), wpAny_loadPart' hl
    simpa using h
  | succ k ih =>
    intro i hk hij hno prog w A R s h
    obtain ⟨hp, g, d, tk, os⟩ := s; obtain ⟨hl, he, h⟩ := h
    have hlt : i < items.size := by omega
    wp_walk using wpAny_loadPart' hl
    have hi : items[((i : Nat) : Int).toNat]? = some items[i] := by simp [hlt]
    have hc : ((i : Int) + 1) = ((i + 1 : Nat) : Int) := by push_cast; rfl
    rw [hi]
    refine wpAny_bind (he _ (Array.getElem_mem hlt) prog w _ _ ?_)
    rw [hno i hlt (Nat.le_refl _) (by omega)]
    wp_walk
    rw [hc]
    exact ⟨plainId_quiet plain_remove_loop _, codeAny_builtin entry_remove_loop (by
      rw [Around.under_plainId plain_remove_loop _]
      exact ih (i + 1) (by omega) (by omega) (fun m hm h1 h2 => hno m hm (by omega) h2) prog w A R _ ⟨hl, he, h⟩)⟩

theorem list_removeAt (l : Addr) (items : Array Value) (n : Nat) (x : Value) (e : Value → Bool) (j : Nat) (hj : j < items.size)
    (hit : e items[j] = true) (hno : ∀ m (hm : m < items.size), m < j → e items[m] = false) (hs1 : items.size ≤ sizeLine) :
    Meets (Builtin.«list.remove» ⟨[.ref l, x], []⟩)
      (fun A R s => s.heap.get? l = some { cls := .type "list", dict := none, data := .seq items n, slots := #[] } ∧ (∀ y, y ∈ items → SeqAt.EqAt A.in1 s y x (e y)) ∧ R (.ok (.ret .none)) { s with heap := s.heap.update l (Obj.mapSeq fun xs => xs.eraseIdxIfInBounds j) }) := by
  intro prog w A R s h
  obtain ⟨hp, g, d, tk, os⟩ := s; obtain ⟨hl, he, h⟩ := h
  wp_walk using wpAny_loadPart' hl
  exact ⟨plainId_quiet plain_remove_loop _, codeAny_builtin entry_remove_loop (by
    rw [Around.under_plainId plain_remove_loop _]
    exact remove_loopAt l items n x e j hj hit _ hs1 0 rfl (Nat.zero_le _) (fun m hm _ h2 => hno m hm h2) prog w A R _ ⟨hl, he, h⟩)⟩
theorem units65 {k : Nat} {A : Around} (r : Room k A) : A.units + 65 < cLine := by have := r.un; omega
section
variable {X : Cx}
def rRemoveD (K : PySem.W.Frag) : V → List V → Hp → VK → Prop := fun x xs H Q => ∃ (a : Addr) (ys : List V) (y : V) (d : PyData) (ds : List PyData) (j : Nat) (z : PyData), x = V.ref a ∧ xs = [y] ∧ H a = some (.lst ys) ∧ DpAll K H ys ds ∧ Dp K H y d ∧
  SeqAt.shaped (.list ds) = true ∧ SeqAt.shaped d = true ∧ ds[j]? = some z ∧ PyData.eqv z d = true ∧ (∀ (m : Nat) (z' : PyData), m < j → ds[m]? = some z' → PyData.eqv z' d = false) ∧ Q .non (upd H a (.lst (ys.eraseIdx j)))
theorem mt_removeD (hu : X.A.units + 65 < cLine) : MtR X "list.remove" (rRemoveD X.K) := by
  intro pins s σ H x xs v us Q I rx rxs h
  obtain ⟨a, ys, y, d, ds, j, z, rfl, rfl, hH, ha, hy, sl, sd, hz, hzj, hno, q⟩ := h
  cases rx
  cases rxs with
  | cons ry rt =>
    rename_i uy ut
    cases rt
    obtain ⟨bs, r1⟩ := Dp.reads I d y uy hy ry
    have hxs : PyData.canLayAll0 ds = true := SeqAt.canLay_of_shaped sl
    have hroom : X.A.units + 1 + min (PyData.depthAll ds) d.depth < cLine := room_in_shaped sd hu
    obtain ⟨zl, its, n, rv, hl, e0⟩ := I.lstM hH
    obtain ⟨as, h4⟩ := Dp.readsAll I ds _ its ha rv
    have hn : its.length = ds.length := SeqAt.ReadsAll.length ds its as h4
    have hmap : its.map (SeqAt.readOf s.heap) = ds := SeqAt.readsAll_map ds its as hxs h4
    obtain ⟨hjd, _⟩ := List.getElem?_eq_some_iff.mp hz
    have hjl : j < its.length := by omega
    have hj : j < its.toArray.size := by simpa using hjl
    have at_ : ∀ (m : Nat) (hm : m < its.toArray.size) (z' : PyData), ds[m]? = some z' → SeqAt.readOf s.heap its.toArray[m] = z' := by
      intro m hm z' hz'
      have hml : m < its.length := by simpa using hm
      rw [← hmap, List.getElem?_map, List.getElem?_eq_getElem hml] at hz'
      have e1 : SeqAt.readOf s.heap its[m] = z' := Option.some.inj (show some (SeqAt.readOf s.heap its[m]) = some z' from hz')
      simpa using e1
    refine call_meets PySem.F.slot_list_remove ⟨_, e0, rfl⟩ PySem.F.entry_list_remove (PySem.F.args_list_remove_2 _ _)
      (list_removeAt a its.toArray n uy (fun u => PyData.eqv (SeqAt.readOf s.heap u) d) j hj ?_ ?_ (by rw [List.size_toArray, ← hl]; exact zl)) ⟨e0, SeqAt.items_eqAt (vs := its.toArray) (show ReadsAll s.heap its.toArray.toList ds as from h4) r1 hxs (SeqAt.canLay_of_shaped sd) hroom, ?_⟩
    · show PyData.eqv (SeqAt.readOf s.heap its.toArray[j]) d = true
      rw [at_ j hj z hz]
      exact hzj
    · intro m hm hmj
      have hmd : m < ds.length := by omega
      have hz' : ds[m]? = some ds[m] := List.getElem?_eq_getElem hmd
      show PyData.eqv (SeqAt.readOf s.heap its.toArray[m]) d = false
      rw [at_ m hm _ hz']
      exact hno m _ hmj hz'
    · refine ⟨.non, _, I.lset (its' := its.eraseIdx j) hH e0 ?_ (rv.eraseIdx j) ?_, rfl, q⟩
      · show its.toArray.eraseIdxIfInBounds j = (its.eraseIdx j).toArray
        rw [List.eraseIdxIfInBounds_toArray]
      · have := len_erase ys j
        omega
def FstAt (es : List PyData) (d : PyData) (j : Nat) : Prop := ∃ z, es[j]? = some z ∧ PyData.eqv z d = true ∧ ∀ (m : Nat) (z' : PyData), m < j → es[m]? = some z' → PyData.eqv z' d = false
/-- xs.remove(y) where an equal one is there -/
def dRemove : DMt := fun x ds G Q => match ds with
  | [y] => onL x G fun a xs => ∃ (d : PyData) (es : List PyData) (j : Nat), DD G y d ∧ DDs G xs es ∧ SeqAt.shaped (.list es) = true ∧ SeqAt.shaped d = true ∧ FstAt es d j ∧ Q .non (gupd G a (.lst (xs.eraseIdx j)))
  | _ => False
theorem dmt_remove (hu : X.A.units + 65 < cLine) : MtR X "list.remove" (cMt X.K dRemove) :=
  MtR.imp (mt_removeD hu) fun v us H Q ⟨x, ds, G, Z, Q0, ok, r, rs, h, k⟩ => by
    rcases rs with _ | ⟨r1, rs⟩
    · exact False.elim h
    rcases rs with _ | ⟨r2, rs⟩
    · obtain ⟨a, xs, rfl, e, d, es, j, h1, h2, s1, s2, ⟨z, hz, hz1, hz2⟩, h3⟩ := onL_inv h
      cases r
      obtain ⟨hz0, vs, hv, rv⟩ := ok.ok a _ e
      obtain ⟨kk, ok'⟩ := wrote_l ok e (rv.eraseIdx j)
      exact ⟨a, vs, _, d, es, j, z, rfl, rfl, hv, DDs.dp ok h2 rv, DD.dp ok h1 r1, s1, s2, hz, hz1, hz2, k _ _ _ _ h3 kk ok' .non⟩
    · exact False.elim h
/-- xs.index(k) of whole numbers, where it is there -/
def dIndex : DMt := fun x ds G Q => match ds with
  | [.int k] => match lsOf G x with
    | some xs => ∃ (ns : List Int) (j : Nat), xs = ns.map .int ∧ ns[j]? = some k ∧ (∀ m z, m < j → ns[m]? = some z → z ≠ k) ∧ Q (.int j) G
    | none => False
  | _ => False
theorem reps_ints {K : PySem.W.Frag} {W : Hp} : ∀ {ns : List Int} {vs : List V}, Reps K W (ns.map .int) vs → vs = ns.map V.int
  | [], _, .nil => rfl
  | _ :: _, _, .cons r t => by cases r; rw [reps_ints t]; rfl
theorem flat_ints (ns : List Int) : (ns.map V.int).all flatV = true := by
  rw [List.all_eq_true]
  intro x hx
  obtain ⟨i, _, rfl⟩ := List.mem_map.mp hx
  rfl
theorem dmt_index : MtR X "list.index" (cMt X.K dIndex) :=
  MtR.imp mt_index fun v us H Q ⟨x, ds, G, Z, Q0, ok, r, rs, h, k⟩ => by
    rcases rs with _ | ⟨r1, rs⟩
    · exact False.elim h
    rcases rs with _ | ⟨r2, rs⟩
    · cases r1 with
      | int i =>
        unfold dIndex at h
        simp only at h
        split at h
        · next xs e =>
          obtain ⟨ns, j, rfl, hj, hno, h3⟩ := h
          obtain ⟨a, vs, rfl, hv, rv⟩ := lsOf_of ok r e
          have ev := reps_ints rv
          subst ev
          exact ⟨a, _, _, j, .int i, rfl, rfl, SqL.of hv, rfl, flat_ints ns, by rw [List.getElem?_map, hj]; rfl, by show (i == i) = true; simp, fun m z hm hz => by
            rw [List.getElem?_map] at hz
            cases e2 : ns[m]? with
            | none => rw [e2] at hz; cases hz
            | some w =>
              rw [e2] at hz; cases hz
              show (w == i) = false
              simpa using hno m w hm e2, k _ _ _ _ h3 Kp.refl ok (.int _)⟩
        · exact h.elim
      | _ => exact False.elim h
    · cases r1 <;> exact False.elim h
end
end DL
set_option linter.all false
set_option maxRecDepth 100000
namespace FIT
open PySem PySem.Spec L2 DL
/-! bodies, printed by gen.py -/
/-- is_list: 0 thing, 1 low, 2 high -/
def t_is_list : DTS :=
  (dRet (dAndV (dIsiT [.lst, .tup] (dVar 0)) (dChain (dCmpR (fun i j => decide (i ≤ j)) (fun a b => !decide (b < a))) (dCmpR (fun i j => decide (i ≤ j)) (fun a b => !decide (b < a))) (dVar 1) (dCB (dR1 dLenR) (dCons (dVar 0) dNil)) (dVar 2))))
/-- is_rule: 0 thing, 1 many, 2 low, 3 high, 4 apart -/
def t_is_rule (sp_is_whole : DSp) : DTS :=
  (dSeq (dIf (dOr (dNot (dTest (dCB (dR2 dIsiR) (dCons (dVar 0) (dCons (dC (.ty .tup)) dNil))))) (dTestB (dOp dNeQ (dCB (dR1 dLenR) (dCons (dVar 0) dNil)) (dC (.int 3))))) (dRet (dC (.bl false))) dNext)
  (dSeq (dAsg (dVar 0) (.tp [(.nm 2), (.nm 3), (.nm 4)]))
  (dSeq (dIf (dOr (dNot (dTest (dCall sp_is_whole [] (dCons (dVar 2) (dCons (dC (.int 0)) (dCons (dOp (dI0 fun i j => .int (i - j)) (dVar 1) (dC (.int 1))) dNil)))))) (dOr (dNot (dTest (dCall sp_is_whole [] (dCons (dVar 3) (dCons (dC (.int 0)) (dCons (dOp (dI0 fun i j => .int (i - j)) (dVar 1) (dC (.int 1))) dNil)))))) (dTestB (dOp dEqQ (dVar 2) (dVar 3))))) (dRet (dC (.bl false))) dNext)
  (dRet (dCall sp_is_whole [] (dCons (dVar 4) (dCons (dUn dNeg (dC (.int 400))) (dCons (dC (.int 400)) dNil))))))))
/-- need_rules: 0 rules, 1 many, 2 rule -/
def t_need_rules (sp_is_list : DSp) (sp_is_rule : DSp) : DTS :=
  (dSeq (dIf (dNot (dTest (dCall sp_is_list [] (dCons (dVar 0) (dCons (dC (.int 0)) (dCons (dC (.int 100)) dNil)))))) dNever dNext)
  (dFor (dSeqI (dVar 0)) (.nm 2) (dIf (dNot (dTest (dCall sp_is_rule [] (dCons (dVar 2) (dCons (dVar 1) dNil))))) dNever dNext)))
/-- need_marks: 0 many, 1 rules -/
def t_need_marks (sp_is_whole : DSp) (sp_need_rules : DSp) : DTS :=
  (dSeq (dIf (dNot (dTest (dCall sp_is_whole [] (dCons (dVar 0) (dCons (dC (.int 1)) (dCons (dC (.int 24)) dNil)))))) dNever dNext)
  (dDrop (dCall sp_need_rules [] (dCons (dVar 1) (dCons (dVar 0) dNil)))))
/-- need_cells: 0 cells, 1 cell -/
def t_need_cells (sp_is_list : DSp) (sp_is_plain : DSp) : DTS :=
  (dSeq (dIf (dNot (dTest (dCall sp_is_list [] (dCons (dVar 0) (dCons (dC (.int 1)) (dCons (dC (.int 24)) dNil)))))) dNever dNext)
  (dFor (dSeqI (dVar 0)) (.nm 1) (dIf (dNot (dTest (dCall sp_is_plain [] (dCons (dVar 1) dNil)))) dNever dNext)))
/-- raised: 0 lows, 1 rules, 2 cells, 3 raised_by, 4 rising_mark, 5 turn, 6 number, 7 low, 8 high, 9 apart -/
def t_raised (K : PySem.W.Frag) : DTS :=
  (dSeq (dPar 2 3 (dCons (dCB (dR1 (dListR true)) (dCons (dVar 0) dNil)) (dCons (dOp (dRepR true) (dLst (dCons (dC .non) dNil)) (dCB (dR1 dLenR) (dCons (dVar 0) dNil))) dNil)))
  (dSeq (dAsg (dC .non) (.nm 4))
  (dSeq (dFor (dRng1 (dCB (dR1 dLenR) (dCons (dVar 0) dNil))) (.nm 5) (dSeq (dAsg (dC .non) (.nm 4))
  (dFor (dEnumQ (dVar 1)) (.tp [(.nm 6), (.tp [(.nm 7), (.nm 8), (.nm 9)])]) (dIf (dAnd (dTestB (dOp dIsNR (dOp dIxR (dVar 2) (dVar 7)) (dC .non))) (dOr (dTestB (dOp dIsR (dOp dIxR (dVar 2) (dVar 8)) (dC .non))) (dTestB (dOp (dCmpR (fun i j => decide (i < j)) (fun a b => decide (a < b))) (dOp dIxR (dVar 2) (dVar 8)) (dOp dAddR (dOp dIxR (dVar 2) (dVar 7)) (dVar 9)))))) (dSeq (dSub (dOp dAddR (dOp dIxR (dVar 2) (dVar 7)) (dVar 9)) (dVar 2) (dVar 8))
  (dSeq (dSub (dVar 6) (dVar 3) (dVar 8))
  (dAsg (dVar 8) (.nm 4)))) dNext))))
  (dGhost K (dRet (dTup (dCons (dVar 2) (dCons (dVar 3) (dCons (dVar 4) dNil)))))))))
/-- led_back: 0 raised_by, 1 rules, 2 begin, 3 end, 4 found -/
def t_led_back (K : PySem.W.Frag) : DTS :=
  (dSeq (dAsg (dLstM (dCons (dOp dIxR (dVar 0) (dVar 3)) dNil)) (.nm 4))
  (dSeq (dWhile (dTestB (dOp dNeQ (dOp dIxR (dOp dIxR (dVar 1) (dOp dIxR (dVar 4) (dUn dNeg (dC (.int 1))))) (dC (.int 0))) (dVar 2))) (dDrop (dMtL dAppend (dVar 4) (dCons (dOp dIxR (dVar 0) (dOp dIxR (dOp dIxR (dVar 1) (dOp dIxR (dVar 4) (dUn dNeg (dC (.int 1))))) (dC (.int 0)))) dNil))))
  (dGhost K (dRet (dRevR false (dVar 4))))))
/-- found_cycle: 0 many, 1 rules, 2 cells, 3 raised_by, 4 mark, 5 turn -/
def t_found_cycle (sp_raised : DSp) (sp_led_back : DSp) : DTS :=
  (dSeq (dAsg (dCall sp_raised [] (dCons (dOp (dRepR false) (dLst (dCons (dC (.int 0)) dNil)) (dVar 0)) (dCons (dVar 1) dNil))) (.tp [(.nm 2), (.nm 3), (.nm 4)]))
  (dSeq (dIf (dTestB (dOp dIsR (dVar 4) (dC .non))) (dRet (dC .non)) dNext)
  (dSeq (dFor (dRng1 (dVar 0)) (.nm 5) (dAsg (dOp dIxR (dOp dIxR (dVar 1) (dOp dIxR (dVar 3) (dVar 4))) (dC (.int 0))) (.nm 4)))
  (dRet (dCall sp_led_back [] (dCons (dVar 3) (dCons (dVar 1) (dCons (dVar 4) (dCons (dVar 4) dNil)))))))))
/-- need_kept: 0 many, 1 rules, 2 cycle -/
def t_need_kept (K : PySem.W.Frag) (sp_found_cycle : DSp) : DTS :=
  (dSeq (dAsg (dCall sp_found_cycle [] (dCons (dVar 0) (dCons (dVar 1) dNil))) (.nm 2))
  (dIf (dTestB (dOp dIsNR (dVar 2) (dC .non))) (dRaise (dMk1 (He.ga K "NoFit") "cycle" (dCons (dVar 2) dNil))) dNext))
/-- least_fit: 0 lows, 1 rules -/
def t_least_fit (sp_need_cells : DSp) (sp_need_rules : DSp) (sp_need_kept : DSp) (sp_raised : DSp) : DTS :=
  (dSeq (dDrop (dCall sp_need_cells [] (dCons (dVar 0) dNil)))
  (dSeq (dDrop (dCall sp_need_rules [] (dCons (dVar 1) (dCons (dCB (dR1 dLenR) (dCons (dVar 0) dNil)) dNil))))
  (dSeq (dDropX (dCallX sp_need_kept (dCons (dCB (dR1 dLenR) (dCons (dVar 0) dNil)) (dCons (dVar 1) dNil))))
  (dRet (dOp dIxR (dCall sp_raised [] (dCons (dVar 0) (dCons (dVar 1) dNil))) (dC (.int 0)))))))
/-- raised_from: 0 many, 1 rules, 2 mark, 3 cells, 4 raised_by, 5 still, 6 other -/
def t_raised_from (sp_raised : DSp) : DTS :=
  (dSeq (dAsg (dCall sp_raised [] (dCons (dLc false (dRng1 (dVar 0)) (.nm 6) dYes (dIfE (dTestB (dOp dEqQ (dVar 6) (dVar 2))) (dC (.int 0)) (dC .non)) [6]) (dCons (dVar 1) dNil))) (.tp [(.nm 3), (.nm 4), (.nm 5)]))
  (dRet (dTup (dCons (dVar 3) (dCons (dVar 4) dNil)))))
/-- implied_cells: 0 many, 1 rules, 2 low, 3 high, 4 cells, 5 raised_by -/
def t_implied_cells (sp_raised_from : DSp) : DTS :=
  (dSeq (dAsg (dCall sp_raised_from [] (dCons (dVar 0) (dCons (dVar 1) (dCons (dVar 2) dNil)))) (.tp [(.nm 4), (.nm 5)]))
  (dRet (dOp dIxR (dVar 4) (dVar 3))))
/-- apart_by: 0 many, 1 rules, 2 low, 3 high -/
def t_apart_by (sp_need_marks : DSp) (sp_is_rule : DSp) (sp_need_kept : DSp) (sp_implied_cells : DSp) : DTS :=
  (dSeq (dDrop (dCall sp_need_marks [] (dCons (dVar 0) (dCons (dVar 1) dNil))))
  (dSeq (dIf (dNot (dTest (dCall sp_is_rule [] (dCons (dTup (dCons (dVar 2) (dCons (dVar 3) (dCons (dC (.int 0)) dNil)))) (dCons (dVar 0) dNil))))) dNever dNext)
  (dSeq (dDropX (dCallX sp_need_kept (dCons (dVar 0) (dCons (dVar 1) dNil))))
  (dRet (dCall sp_implied_cells [] (dCons (dVar 0) (dCons (dVar 1) (dCons (dVar 2) (dCons (dVar 3) dNil)))))))))
/-- follows: 0 many, 1 rules, 2 rule, 3 low, 4 high, 5 apart, 6 cells, 7 raised_by -/
def t_follows (sp_need_marks : DSp) (sp_is_rule : DSp) (sp_need_kept : DSp) (sp_raised_from : DSp) (sp_led_back : DSp) (sp_raised : DSp) : DTS :=
  (dSeq (dDrop (dCall sp_need_marks [] (dCons (dVar 0) (dCons (dVar 1) dNil))))
  (dSeq (dIf (dNot (dTest (dCall sp_is_rule [] (dCons (dVar 2) (dCons (dVar 0) dNil))))) dNever dNext)
  (dSeq (dDropX (dCallX sp_need_kept (dCons (dVar 0) (dCons (dVar 1) dNil))))
  (dSeq (dAsg (dVar 2) (.tp [(.nm 3), (.nm 4), (.nm 5)]))
  (dSeq (dAsg (dCall sp_raised_from [] (dCons (dVar 0) (dCons (dVar 1) (dCons (dVar 3) dNil)))) (.tp [(.nm 6), (.nm 7)]))
  (dSeq (dIf (dAnd (dTestB (dOp dIsNR (dOp dIxR (dVar 6) (dVar 4)) (dC .non))) (dTestB (dOp (dCmpR (fun i j => decide (j ≤ i)) (fun a b => !decide (a < b))) (dOp dIxR (dVar 6) (dVar 4)) (dVar 5)))) (dRet (dTup (dCons (dC (.str "follows")) (dCons (dCall sp_led_back [] (dCons (dVar 7) (dCons (dVar 1) (dCons (dVar 3) (dCons (dVar 4) dNil))))) dNil)))) dNext)
  (dRet (dTup (dCons (dC (.str "open")) (dCons (dOp dIxR (dCall sp_raised [] (dCons (dOp (dRepR false) (dLst (dCons (dC (.int 0)) dNil)) (dVar 0)) (dCons (dOp dAddR (dCB (dR1 (dListR false)) (dCons (dVar 1) dNil)) (dLst (dCons (dTup (dCons (dVar 4) (dCons (dVar 3) (dCons (dOp (dI0 fun i j => .int (i - j)) (dC (.int 1)) (dVar 5)) dNil)))) dNil))) dNil))) (dC (.int 0))) dNil))))))))))
/-- _law_box: 0 cell -/
def t_law_box : DTS :=
  (dRet (dLstM (dCons (dCB (dR2 dMax2R) (dCons (dC (.int 0)) (dCons (dOp (dI0 fun i j => .int (i - j)) (dVar 0) (dOp (dI CPow fun i j => .int (i ^ j.toNat)) (dC (.int 10)) (dC (.int 18)))) dNil))) (dCons (dOp (dI (fun _ j => 0 < j) fun i j => .int (i % j)) (dCB (dR1 dIntR) (dCons (dVar 0) dNil)) (dC (.int 2147483587))) (dCons (dC (.int 0)) dNil)))))
/-- _law_take: 0 box, 1 many, 2 digit, 3 one, 4 other -/
def t_law_take : DTS :=
  (dSeq (dIf (dTestB (dOp (dCmpR (fun i j => decide (j < i)) (fun a b => decide (b < a))) (dOp dIxR (dVar 0) (dC (.int 0))) (dC (.int 0)))) (dSeq (dAsg (dOp (dI (fun _ j => 0 < j) fun i j => .int (i % j)) (dCB (dR1 dIntR) (dCons (dOp dIxR (dVar 0) (dC (.int 0))) dNil)) (dVar 1)) (.nm 2))
  (dSeq (dSub (dOp (dI CDivW fun i j => .int (i / j)) (dOp dIxR (dVar 0) (dC (.int 0))) (dVar 1)) (dVar 0) (dC (.int 0)))
  (dRet (dVar 2)))) dNext)
  (dSeq (dSub (dOp dAddR (dOp dIxR (dVar 0) (dC (.int 2))) (dC (.int 1))) (dVar 0) (dC (.int 2)))
  (dSeq (dAsg (dOp (dI (fun _ j => 0 < j) fun i j => .int (i % j)) (dCB (dR1 dIntR) (dCons (dOp (dI CPow fun i j => .int (i ^ j.toNat)) (dOp dAddR (dOp dAddR (dOp dIxR (dVar 0) (dC (.int 1))) (dOp (dI MulOk fun i j => .int (i * j)) (dC (.int 7001)) (dOp dIxR (dVar 0) (dC (.int 2))))) (dC (.int 37))) (dC (.int 5))) dNil)) (dC (.int 2147483647))) (.nm 3))
  (dSeq (dAsg (dOp (dI (fun _ j => 0 < j) fun i j => .int (i % j)) (dCB (dR1 dIntR) (dCons (dOp (dI CPow fun i j => .int (i ^ j.toNat)) (dOp dAddR (dOp (dI MulOk fun i j => .int (i * j)) (dOp dIxR (dVar 0) (dC (.int 1))) (dOp dIxR (dVar 0) (dC (.int 2)))) (dC (.int 65003))) (dC (.int 3))) dNil)) (dC (.int 2147483629))) (.nm 4))
  (dRet (dOp (dI (fun _ j => 0 < j) fun i j => .int (i % j)) (dOp (dI CDivW fun i j => .int (i / j)) (dOp dAddR (dOp (dI MulOk fun i j => .int (i * j)) (dVar 3) (dC (.int 2147483629))) (dVar 4)) (dC (.int 8))) (dVar 1)))))))
/-- _law_cell: 0 script, 1 k -/
def t_law_cell : DTS :=
  (dSeq (dIf (dTestB (dOp (dCmpR (fun i j => decide (i < j)) (fun a b => decide (a < b))) (dVar 1) (dCB (dR1 dLenR) (dCons (dVar 0) dNil)))) (dRet (dOp dIxR (dVar 0) (dVar 1))) dNext)
  (dRet (dOp dAddR (dOp (dI MulOk fun i j => .int (i * j)) (dC (.int 8087)) (dVar 1)) (dC (.int 73)))))
/-- _law_same: 0 given, 1 due, 2 k -/
def t_law_same (sp_law_same : DSp) : DTS :=
  (dSeq (dIf (dOr (dTestB (dOp dIsR (dVar 1) (dC .non))) (dTest (dCB (dR2 dIsiR) (dCons (dVar 1) (dCons (dC (.ty .bool)) dNil))))) (dRet (dIfE (dTestB (dOp dIsR (dVar 1) (dC .non))) (dOp dIsR (dVar 0) (dC .non)) (dAndV (dCB (dR2 dIsiR) (dCons (dVar 0) (dCons (dC (.ty .bool)) dNil))) (dOp dEqQ (dOp dIsR (dVar 0) (dC (.bl true))) (dOp dIsR (dVar 1) (dC (.bl true))))))) dNext)
  (dSeq (dIf (dTest (dCB (dR2 dIsiR) (dCons (dVar 1) (dCons (dC (.ty .int)) dNil)))) (dRet (dAndV (dCB (dR2 dIsiR) (dCons (dVar 0) (dCons (dC (.ty .int)) dNil))) (dAndV (dNotV (dCB (dR2 dIsiR) (dCons (dVar 0) (dCons (dC (.ty .bool)) dNil)))) (dOp dEqQ (dOp (dI0 fun i j => .int (i - j)) (dCB (dR1 dIntR) (dCons (dVar 0) dNil)) (dVar 1)) (dC (.int 0)))))) dNext)
  (dSeq (dIf (dTest (dCB (dR2 dIsiR) (dCons (dVar 1) (dCons (dC (.ty .str)) dNil)))) (dSeq (dIf (dOr (dNot (dTest (dCB (dR2 dIsiR) (dCons (dVar 0) (dCons (dC (.ty .str)) dNil))))) (dTestB (dOp dNeQ (dCB (dR1 dLenR) (dCons (dVar 0) dNil)) (dCB (dR1 dLenR) (dCons (dVar 1) dNil))))) (dRet (dC (.bl false))) dNext)
  (dRet (dOp dEqQ (dLc false (dRng1 (dCB (dR1 dLenR) (dCons (dVar 1) dNil))) (.nm 2) (dTestB (dOp dNeQ (dSl (dSlR false) (dVar 0) (dPart (dVar 2)) (dPart (dOp dAddR (dVar 2) (dC (.int 1))))) (dOp dIxR (dVar 1) (dVar 2)))) (dVar 2) [2]) (dLst dNil)))) dNext)
  (dSeq (dIf (dOr (dTestB (dOp dNeQ (dCB (dR2 dIsiR) (dCons (dVar 0) (dCons (dC (.ty .lst)) dNil))) (dCB (dR2 dIsiR) (dCons (dVar 1) (dCons (dC (.ty .lst)) dNil))))) (dTestB (dOp dNeQ (dCB (dR2 dIsiR) (dCons (dVar 0) (dCons (dC (.ty .tup)) dNil))) (dCB (dR2 dIsiR) (dCons (dVar 1) (dCons (dC (.ty .tup)) dNil)))))) (dRet (dC (.bl false))) dNext)
  (dRet (dAndV (dOp dEqQ (dCB (dR1 dLenR) (dCons (dVar 0) dNil)) (dCB (dR1 dLenR) (dCons (dVar 1) dNil))) (dOp dEqQ (dLc false (dRng1 (dCB (dR1 dLenR) (dCons (dVar 1) dNil))) (.nm 2) (dNot (dTest (dCall sp_law_same [] (dCons (dOp dIxR (dVar 0) (dVar 2)) (dCons (dOp dIxR (dVar 1) (dVar 2)) dNil))))) (dVar 2) [2]) (dLst dNil))))))))
/-- _law_mixed: 0 box, 1 items, 2 left, 3 found -/
def t_law_mixed (K : PySem.W.Frag) (sp_law_take : DSp) : DTS :=
  (dSeq (dPar 2 3 (dCons (dCB (dR1 (dListR true)) (dCons (dVar 1) dNil)) (dCons (dLstM dNil) dNil)))
  (dSeq (dWhile (dTestB (dOp dNeQ (dVar 2) (dLst dNil))) (dDrop (dMtL dAppend (dVar 3) (dCons (dMtL dPop (dVar 2) (dCons (dCall sp_law_take [] (dCons (dVar 0) (dCons (dCB (dR1 dLenR) (dCons (dVar 2) dNil)) dNil))) dNil)) dNil))))
  (dGhost K (dRet (dVar 3)))))
/-- _law_round_rules: 0 box, 1 many, 2 marks, 3 apart, 4 k -/
def t_law_round_rules (K : PySem.W.Frag) (sp_law_mixed : DSp) (sp_law_take : DSp) : DTS :=
  (dSeq (dAsg (dSl (dSlR false) (dCall sp_law_mixed [] (dCons (dVar 0) (dCons (dListRg1 false (dVar 1)) dNil))) dNoPart (dPart (dOp dAddR (dC (.int 2)) (dCall sp_law_take [] (dCons (dVar 0) (dCons (dC (.int 4)) dNil)))))) (.nm 2))
  (dSeq (dAsg (dLc true (dRng1 (dOp (dI0 fun i j => .int (i - j)) (dCB (dR1 dLenR) (dCons (dVar 2) dNil)) (dC (.int 1)))) (.nm 4) dYes (dOp (dI0 fun i j => .int (i - j)) (dCall sp_law_take [] (dCons (dVar 0) (dCons (dC (.int 81)) dNil))) (dC (.int 40))) [4]) (.nm 3))
  (dSeq (dDrop (dMtL dAppend (dVar 3) (dCons (dOp (dI0 fun i j => .int (i - j)) (dOp (dI0 fun i j => .int (i - j)) (dCall sp_law_take [] (dCons (dVar 0) (dCons (dC (.int 4)) dNil))) (dC (.int 1))) (dCB (dR1 (dOnInts (fun _ => True) fun ns => .int ns.sum)) (dCons (dVar 3) dNil))) dNil)))
  (dGhost K (dRet (dLc false (dRng1 (dCB (dR1 dLenR) (dCons (dVar 2) dNil))) (.nm 4) dYes (dTup (dCons (dOp dIxR (dVar 2) (dVar 4)) (dCons (dOp dIxR (dOp dAddR (dVar 2) (dSl (dSlR false) (dVar 2) dNoPart (dPart (dC (.int 1))))) (dOp dAddR (dVar 4) (dC (.int 1)))) (dCons (dOp dIxR (dVar 3) (dVar 4)) dNil)))) [4]))))))
/-- _law_drawn_rules: 0 box, 1 many, 2 count, 3 k, 4 hidden, 5 rules, 6 harder, 7 low, 8 high, 9 slack -/
def t_law_drawn_rules (K : PySem.W.Frag) (sp_law_take : DSp) (sp_law_round_rules : DSp) (sp_law_mixed : DSp) : DTS :=
  (dSeq (dAsg (dLc false (dRng1 (dVar 1)) (.nm 3) dYes (dOp (dI0 fun i j => .int (i - j)) (dCall sp_law_take [] (dCons (dVar 0) (dCons (dC (.int 121)) dNil))) (dC (.int 60))) [3]) (.nm 4))
  (dSeq (dAsg (dLstM dNil) (.nm 5))
  (dSeq (dIf (dTestB (dOp dEqQ (dVar 1) (dC (.int 1)))) (dGhost K (dRet (dTup (dCons (dVar 4) (dCons (dVar 5) dNil))))) dNext)
  (dSeq (dAsg (dOp dEqQ (dCall sp_law_take [] (dCons (dVar 0) (dCons (dC (.int 4)) dNil))) (dC (.int 0))) (.nm 6))
  (dSeq (dFor (dRng1 (dVar 2)) (.nm 3) (dSeq (dAsg (dCall sp_law_take [] (dCons (dVar 0) (dCons (dVar 1) dNil))) (.nm 7))
  (dSeq (dAsg (dOp (dI (fun _ j => 0 < j) fun i j => .int (i % j)) (dCB (dR1 dIntR) (dCons (dOp dAddR (dOp dAddR (dVar 7) (dC (.int 1))) (dCall sp_law_take [] (dCons (dVar 0) (dCons (dOp (dI0 fun i j => .int (i - j)) (dVar 1) (dC (.int 1))) dNil)))) dNil)) (dVar 1)) (.nm 8))
  (dSeq (dAsg (dOp dIxR (dLst (dCons (dC (.int 0)) (dCons (dCall sp_law_take [] (dCons (dVar 0) (dCons (dC (.int 10)) dNil))) (dCons (dCall sp_law_take [] (dCons (dVar 0) (dCons (dC (.int 250)) dNil))) dNil)))) (dCall sp_law_take [] (dCons (dVar 0) (dCons (dC (.int 3)) dNil)))) (.nm 9))
  (dSeq (dIf (dAnd (dTest (dVar 6)) (dTestB (dOp dEqQ (dCall sp_law_take [] (dCons (dVar 0) (dCons (dC (.int 5)) dNil))) (dC (.int 0))))) (dAsg (dOp (dI0 fun i j => .int (i - j)) (dOp (dI0 fun i j => .int (i - j)) (dC (.int 0)) (dC (.int 1))) (dCall sp_law_take [] (dCons (dVar 0) (dCons (dC (.int 4)) dNil)))) (.nm 9)) dNext)
  (dDrop (dMtL dAppend (dVar 5) (dCons (dTup (dCons (dVar 7) (dCons (dVar 8) (dCons (dOp (dI0 fun i j => .int (i - j)) (dOp (dI0 fun i j => .int (i - j)) (dOp dIxR (dVar 4) (dVar 8)) (dOp dIxR (dVar 4) (dVar 7))) (dVar 9)) dNil)))) dNil))))))))
  (dSeq (dIf (dTestB (dOp dEqQ (dCall sp_law_take [] (dCons (dVar 0) (dCons (dC (.int 3)) dNil))) (dC (.int 0)))) (dAsg (dOp dCatM (dVar 5) (dCall sp_law_round_rules [] (dCons (dVar 0) (dCons (dVar 1) dNil)))) (.nm 5)) dNext)
  (dGhost K (dRet (dTup (dCons (dVar 4) (dCons (dCall sp_law_mixed [] (dCons (dVar 0) (dCons (dVar 5) dNil))) dNil)))))))))))
/-- _law_far: 0 many, 1 rules, 2 k, 3 j, 4 far, 5 low, 6 high, 7 apart, 8 mid -/
def t_law_far (K : PySem.W.Frag) : DTS :=
  (dSeq (dAsg (dLc true (dRng1 (dVar 0)) (.nm 2) dYes (dLc true (dRng1 (dVar 0)) (.nm 3) dYes (dIfE (dTestB (dOp dEqQ (dVar 2) (dVar 3))) (dC (.int 0)) (dC .non)) [3]) [2]) (.nm 4))
  (dSeq (dFor (dSeqI (dVar 1)) (.tp [(.nm 5), (.nm 6), (.nm 7)]) (dIf (dOr (dTestB (dOp dIsR (dOp dIxR (dOp dIxR (dVar 4) (dVar 5)) (dVar 6)) (dC .non))) (dTestB (dOp (dCmpR (fun i j => decide (i < j)) (fun a b => decide (a < b))) (dOp dIxR (dOp dIxR (dVar 4) (dVar 5)) (dVar 6)) (dVar 7)))) (dSub (dVar 7) (dOp dIxR (dVar 4) (dVar 5)) (dVar 6)) dNext))
  (dSeq (dFor (dRng1 (dVar 0)) (.nm 8) (dSeq (dFor (dRng1 (dVar 0)) (.nm 2) (dIf (dTestB (dOp dIsNR (dOp dIxR (dOp dIxR (dVar 4) (dVar 2)) (dVar 8)) (dC .non))) (dFor (dRng1 (dVar 0)) (.nm 3) (dIf (dAnd (dTestB (dOp dIsNR (dOp dIxR (dOp dIxR (dVar 4) (dVar 8)) (dVar 3)) (dC .non))) (dOr (dTestB (dOp dIsR (dOp dIxR (dOp dIxR (dVar 4) (dVar 2)) (dVar 3)) (dC .non))) (dTestB (dOp (dCmpR (fun i j => decide (i < j)) (fun a b => decide (a < b))) (dOp dIxR (dOp dIxR (dVar 4) (dVar 2)) (dVar 3)) (dOp dAddR (dOp dIxR (dOp dIxR (dVar 4) (dVar 2)) (dVar 8)) (dOp dIxR (dOp dIxR (dVar 4) (dVar 8)) (dVar 3))))))) (dSub (dOp dAddR (dOp dIxR (dOp dIxR (dVar 4) (dVar 2)) (dVar 8)) (dOp dIxR (dOp dIxR (dVar 4) (dVar 8)) (dVar 3))) (dOp dIxR (dVar 4) (dVar 2)) (dVar 3)) dNext)) dNext))
  (dIf (dTestB (dOp dNeQ (dLc false (dRng1 (dVar 0)) (.nm 2) (dTestB (dOp (dCmpR (fun i j => decide (j < i)) (fun a b => decide (b < a))) (dOp dIxR (dOp dIxR (dVar 4) (dVar 2)) (dVar 2)) (dC (.int 0)))) (dVar 2) [2]) (dLst dNil))) (dGhost K (dRet (dC .non))) dNext)))
  (dGhost K (dRet (dVar 4))))))
/-- _law_chain_right: 0 chain, 1 rules, 2 begin, 3 end, 4 number, 5 marks, 6 ends, 7 k -/
def t_law_chain_right : DTS :=
  (dSeq (dIf (dOr (dNot (dTest (dCB (dR2 dIsiR) (dCons (dVar 0) (dCons (dC (.ty .lst)) dNil))))) (dOr (dTestB (dOp dEqQ (dVar 0) (dLst dNil))) (dTestB (dOp (dCmpR (fun i j => decide (j < i)) (fun a b => decide (b < a))) (dCB (dR1 dLenR) (dCons (dVar 0) dNil)) (dCB (dR1 dLenR) (dCons (dVar 1) dNil)))))) (dRet (dC (.bl false))) dNext)
  (dSeq (dFor (dSeqI (dVar 0)) (.nm 4) (dIf (dOr (dNot (dTest (dCB (dR2 dIsiR) (dCons (dVar 4) (dCons (dC (.ty .int)) dNil))))) (dOr (dTest (dCB (dR2 dIsiR) (dCons (dVar 4) (dCons (dC (.ty .bool)) dNil)))) (dNot (dTestB (dChain (dCmpR (fun i j => decide (i ≤ j)) (fun a b => !decide (b < a))) (dCmpR (fun i j => decide (i < j)) (fun a b => decide (a < b))) (dC (.int 0)) (dVar 4) (dCB (dR1 dLenR) (dCons (dVar 1) dNil))))))) (dRet (dC (.bl false))) dNext))
  (dSeq (dAsg (dLc false (dSeqI (dVar 0)) (.nm 4) dYes (dOp dIxR (dOp dIxR (dVar 1) (dVar 4)) (dC (.int 0))) [4]) (.nm 5))
  (dSeq (dAsg (dLc false (dSeqI (dVar 0)) (.nm 4) dYes (dOp dIxR (dOp dIxR (dVar 1) (dVar 4)) (dC (.int 1))) [4]) (.nm 6))
  (dSeq (dIf (dOr (dTestB (dOp dNeQ (dOp dIxR (dVar 5) (dC (.int 0))) (dVar 2))) (dOr (dTestB (dOp dNeQ (dOp dIxR (dVar 6) (dUn dNeg (dC (.int 1)))) (dVar 3))) (dTestB (dOp dNeQ (dSl (dSlR false) (dVar 5) (dPart (dC (.int 1))) dNoPart) (dSl (dSlR false) (dVar 6) dNoPart (dPart (dUn dNeg (dC (.int 1))))))))) (dRet (dC (.bl false))) dNext)
  (dSeq (dIf (dTestB (dOp dNeQ (dLc false (dRng1 (dCB (dR1 dLenR) (dCons (dVar 5) dNil))) (.nm 7) (dTestB (dOp (dInR false) (dOp dIxR (dVar 5) (dVar 7)) (dSl (dSlR false) (dVar 5) dNoPart (dPart (dVar 7))))) (dVar 7) [7]) (dLst dNil))) (dRet (dC (.bl false))) dNext)
  (dRet (dOrV (dOp dEqQ (dVar 2) (dVar 3)) (dOp (dInR true) (dVar 3) (dVar 5))))))))))
/-- _law_cycle_right: 0 cycle, 1 rules, 2 number -/
def t_law_cycle_right (sp_law_chain_right : DSp) : DTS :=
  (dSeq (dIf (dOr (dNot (dTest (dCB (dR2 dIsiR) (dCons (dVar 0) (dCons (dC (.ty .lst)) dNil))))) (dOr (dTestB (dOp dEqQ (dVar 0) (dLst dNil))) (dOr (dNot (dTest (dCB (dR2 dIsiR) (dCons (dOp dIxR (dVar 0) (dC (.int 0))) (dCons (dC (.ty .int)) dNil))))) (dTest (dCB (dR2 dIsiR) (dCons (dOp dIxR (dVar 0) (dC (.int 0))) (dCons (dC (.ty .bool)) dNil))))))) (dRet (dC (.bl false))) dNext)
  (dSeq (dIf (dOr (dNot (dTestB (dChain (dCmpR (fun i j => decide (i ≤ j)) (fun a b => !decide (b < a))) (dCmpR (fun i j => decide (i < j)) (fun a b => decide (a < b))) (dC (.int 0)) (dOp dIxR (dVar 0) (dC (.int 0))) (dCB (dR1 dLenR) (dCons (dVar 1) dNil))))) (dNot (dTest (dCall sp_law_chain_right [] (dCons (dVar 0) (dCons (dVar 1) (dCons (dOp dIxR (dOp dIxR (dVar 1) (dOp dIxR (dVar 0) (dC (.int 0)))) (dC (.int 0))) (dCons (dOp dIxR (dOp dIxR (dVar 1) (dOp dIxR (dVar 0) (dC (.int 0)))) (dC (.int 0))) dNil)))))))) (dRet (dC (.bl false))) dNext)
  (dRet (dOp (dCmpR (fun i j => decide (j < i)) (fun a b => decide (b < a))) (dCB (dR1 (dOnInts (fun _ => True) fun ns => .int ns.sum)) (dCons (dLc false (dSeqI (dVar 0)) (.nm 2) dYes (dOp dIxR (dOp dIxR (dVar 1) (dVar 2)) (dC (.int 2))) [2]) dNil)) (dC (.int 0))))))
end FIT
set_option linter.all false
set_option maxRecDepth 100000
namespace FIT
open DL
/-! the plain law: rules that raise marks, chains, cycles -/
abbrev Rl := Nat × Nat × Int
/-- rules of n marks -/
def Vr (n : Nat) (rs : List Rl) : Prop := ∀ r ∈ rs, r.1 < n ∧ r.2.1 < n ∧ r.1 ≠ r.2.1 ∧ -400 ≤ r.2.2 ∧ r.2.2 ≤ 400
def Vw (n : Nat) (rs : List Rl) : Prop := ∀ r ∈ rs, r.1 < n ∧ r.2.1 < n ∧ r.1 ≠ r.2.1
theorem Vr.w {n : Nat} {rs : List Rl} (h : Vr n rs) : Vw n rs := fun r hr => ⟨(h r hr).1, (h r hr).2.1, (h r hr).2.2.1⟩
/-- cells that keep all rules -/
def Pot (rs : List Rl) (c : Nat → Int) : Prop := ∀ r ∈ rs, c r.1 + r.2.2 ≤ c r.2.1
/-- the same, where a mark may have no cell as yet -/
def PotO (rs : List Rl) (c : Nat → Option Int) : Prop := ∀ r ∈ rs, ∀ a, c r.1 = some a → ∃ b, c r.2.1 = some b ∧ a + r.2.2 ≤ b
/-- a chain of rules and its sum -/
inductive Ch (rs : List Rl) : Nat → Nat → Int → Prop
  | nil (x : Nat) : Ch rs x x 0
  | snoc {x : Nat} {r : Rl} {s : Int} : Ch rs x r.1 s → r ∈ rs → Ch rs x r.2.1 (s + r.2.2)
theorem Ch.pot {rs : List Rl} {q : Nat → Int} (hq : Pot rs q) {x y : Nat} {s : Int} (h : Ch rs x y s) : s ≤ q y - q x := by
  induction h with
  | nil => omega
  | snoc h hr ih => have := hq _ hr; omega
theorem Ch.trans {rs : List Rl} {x y z : Nat} {s t : Int} (h : Ch rs x y s) (g : Ch rs y z t) : Ch rs x z (s + t) := by
  induction g with
  | nil => rw [Int.add_zero]; exact h
  | snoc g hr ih => rw [← Int.add_assoc]; exact .snoc ih hr
theorem Ch.potO {rs : List Rl} {c : Nat → Option Int} (hc : PotO rs c) {x y : Nat} {s : Int} (h : Ch rs x y s) {a : Int} (ha : c x = some a) : ∃ b, c y = some b ∧ a + s ≤ b := by
  induction h with
  | nil => exact ⟨a, ha, by omega⟩
  | snoc h hr ih =>
    obtain ⟨b, hb, h1⟩ := ih
    obtain ⟨b2, hb2, h2⟩ := hc _ hr b hb
    exact ⟨b2, hb2, by omega⟩
/-- raising, in round t, ahead of rule i -/
structure BI (n : Nat) (rs : List Rl) (l : Nat → Option Int) (t i T : Nat) (c : Nat → Option Int) (p : Nat → Option Nat) (R τ : Nat → Nat) : Prop where
  a : ∀ x k, p x = some k → ∃ u w cu cx, rs[k]? = some (u, x, w) ∧ u < n ∧ x < n ∧ c u = some cu ∧ c x = some cx ∧ cx ≤ cu + w ∧ (τ x ≤ τ u → cx < cu + w) ∧ R x ≤ R u + 1
  b : ∀ x, 0 < R x → ∃ k, p x = some k
  d : ∀ j u v w cu, rs[j]? = some (u, v, w) → c u = some cu → (∃ cv, c v = some cv ∧ cu + w ≤ cv) ∨ (if j < i then t else t - 1) ≤ R u
  e : ∀ x, R x ≤ t ∧ τ x < T
  f : ∀ x, p x = none → c x = l x
  g : ∀ x cx, x < n → c x = some cx → ∃ j lj, j < n ∧ l j = some lj ∧ Ch rs j x (cx - lj)
  h : ∀ x lx, l x = some lx → ∃ cx, c x = some cx ∧ lx ≤ cx
  m : ∀ x k lx cx, p x = some k → l x = some lx → c x = some cx → lx < cx
theorem BI.start (n : Nat) (rs : List Rl) (l : Nat → Option Int) : BI n rs l 1 0 1 l (fun _ => none) (fun _ => 0) (fun _ => 0) :=
  ⟨fun x k h => (nomatch h), fun x h => absurd h (by simp), fun j u v w cu h _ => .inr (by simp), fun x => ⟨by simp, by simp⟩, fun x _ => rfl, fun x cx hx h => ⟨x, cx, hx, h, by rw [Int.sub_self]; exact .nil x⟩,
    fun x lx h => ⟨lx, h, Int.le_refl _⟩, fun x k lx cx h => (nomatch h)⟩
section
variable {n : Nat} {rs : List Rl} {l : Nat → Option Int} {t i T : Nat} {c : Nat → Option Int} {p : Nat → Option Nat} {R τ : Nat → Nat}
theorem BI.next (h : BI n rs l t rs.length T c p R τ) : BI n rs l (t + 1) 0 T c p R τ := by
  refine ⟨h.a, h.b, fun j u v w cu e hu => ?_, fun x => ⟨by have := (h.e x).1; omega, (h.e x).2⟩, h.f, h.g, h.h, h.m⟩
  have hj := (List.getElem?_eq_some_iff.mp e).1
  rcases h.d j u v w cu e hu with q | q
  · exact .inl q
  · rw [if_pos hj] at q
    exact .inr (by rw [if_neg (by omega)]; omega)
theorem BI.keep {u v : Nat} {w : Int} (h : BI n rs l t i T c p R τ) (e : rs[i]? = some (u, v, w)) (hs : ∀ cu, c u = some cu → ∃ cv, c v = some cv ∧ cu + w ≤ cv) : BI n rs l t (i + 1) T c p R τ := by
  refine ⟨h.a, h.b, fun j u' v' w' cu e' hu => ?_, h.e, h.f, h.g, h.h, h.m⟩
  by_cases hj : j = i
  · subst hj
    rw [e] at e'; cases e'
    exact .inl (hs cu hu)
  · rcases h.d j u' v' w' cu e' hu with q | q
    · exact .inl q
    · refine .inr ?_
      by_cases h1 : j < i
      · rw [if_pos h1] at q; rw [if_pos (by omega)]; exact q
      · rw [if_neg h1] at q; rw [if_neg (by omega)]; exact q
theorem BI.up {u v : Nat} {w cu : Int} (V : Vw n rs) (ht : 1 ≤ t) (h : BI n rs l t i T c p R τ) (e : rs[i]? = some (u, v, w)) (hcu : c u = some cu) (hs : ∀ cv, c v = some cv → cv < cu + w) :
    BI n rs l t (i + 1) (T + 1) (fup c v (some (cu + w))) (fup p v (some i)) (fup R v t) (fup τ v T) := by
  obtain ⟨hu, hv, huv⟩ := V _ (List.mem_of_getElem? e)
  simp only at hu hv huv
  have hRu : t - 1 ≤ R u := by
    rcases h.d i u v w cu e hcu with ⟨cv, q1, q2⟩ | q
    · have := hs cv q1; omega
    · rw [if_neg (by omega)] at q; exact q
  refine ⟨fun x k hx => ?_, fun x hx => ?_, fun j u' v' w' cu' e' hu' => ?_, fun x => ?_, fun x hx => ?_, fun x cx hxn hx => ?_, fun x lx hx => ?_, fun x k lx cx hp hl hc => ?_⟩
  · by_cases hxv : x = v
    · subst hxv
      rw [fup_same] at hx; cases hx
      refine ⟨u, w, cu, cu + w, e, hu, hv, by rw [fup_ne huv]; exact hcu, fup_same, Int.le_refl _, fun hh => ?_, ?_⟩
      · rw [fup_same, fup_ne huv] at hh
        have := (h.e u).2
        omega
      · rw [fup_same, fup_ne huv]; omega
    · rw [fup_ne hxv] at hx
      obtain ⟨u', w', cu', cx, e1, h1, h2, g1, g2, h3, h4, h5⟩ := h.a x k hx
      by_cases hu' : u' = v
      · subst hu'
        have := hs _ g1
        refine ⟨u', w', cu + w, cx, e1, h1, h2, fup_same, by rw [fup_ne hxv]; exact g2, by omega, fun _ => by omega, ?_⟩
        rw [fup_same, fup_ne hxv]; have := (h.e x).1; omega
      · refine ⟨u', w', cu', cx, e1, h1, h2, by rw [fup_ne hu']; exact g1, by rw [fup_ne hxv]; exact g2, h3, fun hh => ?_, ?_⟩
        · rw [fup_ne hxv, fup_ne hu'] at hh; exact h4 hh
        · rw [fup_ne hxv, fup_ne hu']; exact h5
  · by_cases hxv : x = v
    · subst hxv; exact ⟨i, fup_same⟩
    · rw [fup_ne hxv] at hx ⊢; exact h.b x hx
  · by_cases hu2 : u' = v
    · subst hu2
      refine .inr ?_
      rw [fup_same]; split <;> omega
    · rw [fup_ne hu2] at hu' ⊢
      by_cases hj : j = i
      · subst hj
        rw [e] at e'; cases e'
        rw [hcu] at hu'; cases hu'
        exact .inl ⟨_, fup_same, Int.le_refl _⟩
      · rcases h.d j u' v' w' cu' e' hu' with ⟨cv, q1, q2⟩ | q
        · refine .inl ?_
          by_cases hv' : v' = v
          · subst hv'
            have := hs _ q1
            exact ⟨_, fup_same, by omega⟩
          · exact ⟨cv, by rw [fup_ne hv']; exact q1, q2⟩
        · refine .inr ?_
          by_cases h1 : j < i
          · rw [if_pos h1] at q; rw [if_pos (by omega)]; exact q
          · rw [if_neg h1] at q; rw [if_neg (by omega)]; exact q
  · by_cases hxv : x = v
    · subst hxv; rw [fup_same, fup_same]; omega
    · rw [fup_ne hxv, fup_ne hxv]; have := h.e x; omega
  · by_cases hxv : x = v
    · subst hxv; rw [fup_same] at hx; cases hx
    · rw [fup_ne hxv] at hx ⊢; exact h.f x hx
  · by_cases hxv : x = v
    · subst hxv
      rw [fup_same] at hx; cases hx
      obtain ⟨j, lj, hj, hl, hch⟩ := h.g u cu hu hcu
      refine ⟨j, lj, hj, hl, ?_⟩
      have := Ch.snoc (r := (u, x, w)) hch (List.mem_of_getElem? e)
      rw [show cu + w - lj = cu - lj + w by omega]
      exact this
    · rw [fup_ne hxv] at hx; exact h.g x cx hxn hx
  · by_cases hxv : x = v
    · subst hxv
      obtain ⟨cx, h1, h2⟩ := h.h x lx hx
      have := hs _ h1
      exact ⟨_, fup_same, by omega⟩
    · rw [fup_ne hxv]; exact h.h x lx hx
  · by_cases hxv : x = v
    · subst hxv
      rw [fup_same] at hc; cases hc
      obtain ⟨cx, h1, h2⟩ := h.h x lx hl
      have := hs _ h1
      omega
    · rw [fup_ne hxv] at hp hc; exact h.m x k lx cx hp hl hc
end

/-! ### going back -/
def itr (P : Nat → Nat) : Nat → Nat → Nat
  | 0, x => x
  | i + 1, x => P (itr P i x)
theorem itr_add (P : Nat → Nat) : ∀ (i j x : Nat), itr P (i + j) x = itr P i (itr P j x)
  | 0, j, x => by simp [itr]
  | i + 1, j, x => by rw [show i + 1 + j = (i + j) + 1 by omega, itr, itr, itr_add P i j x]
/-- the mark from which x was raised -/
def bk (rs : List Rl) (p : Nat → Option Nat) (x : Nat) : Nat := match p x with
  | some k => (rs[k]?.getD (0, 0, 0)).1
  | none => 0
def wtB (rs : List Rl) (p : Nat → Option Nat) (x : Nat) : Int := match p x with
  | some k => (rs[k]?.getD (0, 0, 0)).2.2
  | none => 0
section
variable {n : Nat} {rs : List Rl} {l : Nat → Option Int} {t i T : Nat} {c : Nat → Option Int} {p : Nat → Option Nat} {R τ : Nat → Nat}
def cg (c : Nat → Option Int) (x : Nat) : Int := (c x).getD 0
theorem BI.edge (h : BI n rs l t i T c p R τ) {x k : Nat} (e : p x = some k) :
    rs[k]? = some (bk rs p x, x, wtB rs p x) ∧ bk rs p x < n ∧ x < n ∧ cg c x ≤ cg c (bk rs p x) + wtB rs p x ∧ (τ x ≤ τ (bk rs p x) → cg c x < cg c (bk rs p x) + wtB rs p x) ∧ R x ≤ R (bk rs p x) + 1 ∧ ∃ cu, c (bk rs p x) = some cu := by
  obtain ⟨u, w, cu, cx, e1, h1, h2, g1, g2, h3, h4, h5⟩ := h.a x k e
  have e2 : bk rs p x = u := by unfold bk; rw [e]; simp [e1]
  have e3 : wtB rs p x = w := by unfold wtB; rw [e]; simp [e1]
  have e4 : cg c x = cx := by unfold cg; rw [g2]; rfl
  have e5 : cg c u = cu := by unfold cg; rw [g1]; rfl
  rw [e2, e3, e4, e5]
  exact ⟨e1, h1, h2, h3, h4, h5, cu, g1⟩
end
/-- numbers below n, one more than n: two alike -/
theorem pigeon : ∀ (n : Nat) (f : Nat → Nat), (∀ i, i ≤ n → f i < n) → ∃ i j, i < j ∧ j ≤ n ∧ f i = f j
  | 0, f, h => absurd (h 0 (Nat.le_refl _)) (by omega)
  | n + 1, f, h => by
    by_cases hx : ∃ i, i ≤ n ∧ f i = f (n + 1)
    · obtain ⟨i, hi, e⟩ := hx
      exact ⟨i, n + 1, by omega, Nat.le_refl _, e⟩
    · -- the value n in place of f (n + 1)
      let g : Nat → Nat := fun i => if f i = n then f (n + 1) else f i
      have hg : ∀ i, i ≤ n → g i < n := fun i hi => by
        show (if f i = n then f (n + 1) else f i) < n
        have h1 := h i (by omega)
        have h2 := h (n + 1) (Nat.le_refl _)
        split
        · next e =>
          have : f (n + 1) ≠ n := fun q => hx ⟨i, hi, by rw [e, q]⟩
          omega
        · next e => omega
      obtain ⟨i, j, h1, h2, e⟩ := pigeon n g hg
      refine ⟨i, j, h1, by omega, ?_⟩
      have e : (if f i = n then f (n + 1) else f i) = (if f j = n then f (n + 1) else f j) := e
      split at e
      · next a =>
        split at e
        · next b => rw [a, b]
        · next b => exact absurd ⟨j, h2, e.symm⟩ hx
      · next a =>
        split at e
        · next b => exact absurd ⟨i, by omega, e⟩ hx
        · next b => exact e
theorem nodup_le : ∀ (n : Nat) (l : List Nat), l.Nodup → (∀ x ∈ l, x < n) → l.length ≤ n
  | 0, [], _, _ => Nat.le_refl _
  | 0, a :: _, _, h => absurd (h a List.mem_cons_self) (by omega)
  | n + 1, l, hn, h => by
    have h1 := nodup_le n (l.erase n) (hn.erase n) fun x hx => by
      have h2 := h x (List.mem_of_mem_erase hx)
      have h3 : x ≠ n := fun e => by
        subst e
        exact (List.Nodup.not_mem_erase hn) hx
      omega
    by_cases hm : n ∈ l
    · rw [List.length_erase_of_mem hm] at h1; omega
    · rw [List.erase_of_not_mem hm] at h1; omega
/-- a mark that the last round raised: going back, n steps, all was raised; then a cycle -/
structure Tr (n : Nat) (rs : List Rl) (p : Nat → Option Nat) (s : Nat) (l : Nat) : Prop where
  pos : 0 < l
  back : itr (bk rs p) l s = s
  min : ∀ i, 0 < i → i < l → itr (bk rs p) i s ≠ s
  edge : ∀ i, ∃ k, p (itr (bk rs p) i s) = some k ∧ rs[k]? = some (itr (bk rs p) (i + 1) s, itr (bk rs p) i s, wtB rs p (itr (bk rs p) i s))
  lt : ∀ i, itr (bk rs p) i s < n
  sum : 0 < ((List.range l).map fun i => wtB rs p (itr (bk rs p) i s)).sum
theorem sum_range_succ (f : Nat → Int) (l : Nat) : ((List.range (l + 1)).map f).sum = ((List.range l).map f).sum + f l := by
  rw [List.range_succ, List.map_append, List.sum_append]; simp
/-- n steps back, all raised: then a cycle -/
theorem BI.cyc {n : Nat} {rs : List Rl} {l : Nat → Option Int} {t i T : Nat} {c : Nat → Option Int} {p : Nat → Option Nat} {R τ : Nat → Nat} (h : BI n rs l t i T c p R τ) {m : Nat} (hE : ∀ j, j < n → ∃ k, p (itr (bk rs p) j m) = some k) (hn : 0 < n) : ∃ l, Tr n rs p (itr (bk rs p) n m) l := by
  have hlt : ∀ j, j ≤ n → itr (bk rs p) j m < n := by
    intro j hj
    cases j with
    | zero =>
      obtain ⟨k, hk⟩ := hE 0 hn
      exact (h.edge hk).2.2.1
    | succ j =>
      obtain ⟨k, hk⟩ := hE j (by omega)
      exact (h.edge hk).2.1
  obtain ⟨i0, j0, hij, hj0, eq⟩ := pigeon n (fun j => itr (bk rs p) j m) hlt
  -- everything behind i0 is one of i0 .. j0 - 1
  have per : ∀ d, ∃ e, i0 ≤ e ∧ e < j0 ∧ itr (bk rs p) (i0 + d) m = itr (bk rs p) e m := by
    intro d
    induction d with
    | zero => exact ⟨i0, Nat.le_refl _, hij, rfl⟩
    | succ d ih =>
      obtain ⟨e, h1, h2, h3⟩ := ih
      by_cases he : e + 1 = j0
      · refine ⟨i0, Nat.le_refl _, hij, ?_⟩
        show bk rs p (itr (bk rs p) (i0 + d) m) = _
        rw [h3]
        show itr (bk rs p) (e + 1) m = _
        rw [he]; exact eq.symm
      · refine ⟨e + 1, by omega, by omega, ?_⟩
        show bk rs p (itr (bk rs p) (i0 + d) m) = _
        rw [h3]; rfl
  obtain ⟨s, es⟩ : ∃ s, itr (bk rs p) n m = s := ⟨_, rfl⟩
  rw [es]
  have hs : ∀ d, ∃ e, i0 ≤ e ∧ e < j0 ∧ itr (bk rs p) d s = itr (bk rs p) e m := fun d => by
    have := per (d + n - i0)
    rw [show i0 + (d + n - i0) = d + n by omega, itr_add, es] at this
    exact this
  have edge : ∀ d, ∃ k, p (itr (bk rs p) d s) = some k := fun d => by
    obtain ⟨e, h1, h2, h3⟩ := hs d
    rw [h3]; exact hE e (by omega)
  have hret : itr (bk rs p) (j0 - i0) s = s := by
    have eq' : itr (bk rs p) i0 m = itr (bk rs p) j0 m := eq
    have e1 : s = itr (bk rs p) (n - j0) (itr (bk rs p) j0 m) := by rw [← es, ← itr_add]; congr 1; omega
    have e0 : s = itr (bk rs p) (n - i0) (itr (bk rs p) i0 m) := by rw [← es, ← itr_add]; congr 1; omega
    calc itr (bk rs p) (j0 - i0) s = itr (bk rs p) (j0 - i0) (itr (bk rs p) (n - j0) (itr (bk rs p) j0 m)) := by rw [← e1]
      _ = itr (bk rs p) (n - i0) (itr (bk rs p) j0 m) := by rw [← itr_add]; congr 1; omega
      _ = itr (bk rs p) (n - i0) (itr (bk rs p) i0 m) := by rw [eq']
      _ = s := e0.symm
  -- the least return
  have ⟨l, hl0, hl1, hl2⟩ : ∃ l, 0 < l ∧ itr (bk rs p) l s = s ∧ ∀ i, 0 < i → i < l → itr (bk rs p) i s ≠ s := by
    have key : ∀ b, 0 < b → itr (bk rs p) b s = s → ∃ l, 0 < l ∧ itr (bk rs p) l s = s ∧ ∀ i, 0 < i → i < l → itr (bk rs p) i s ≠ s := by
      intro b
      induction b using Nat.strongRecOn with
      | ind b ih =>
        intro hb he
        by_cases hx : ∃ i, 0 < i ∧ i < b ∧ itr (bk rs p) i s = s
        · obtain ⟨i, h1, h2, h3⟩ := hx
          exact ih i h2 h1 h3
        · exact ⟨b, hb, he, fun i h1 h2 h3 => hx ⟨i, h1, h2, h3⟩⟩
    exact key (j0 - i0) (by omega) hret
  refine ⟨l, hl0, hl1, hl2, fun d => ?_, fun d => ?_, ?_⟩
  · obtain ⟨k, hk⟩ := edge d
    exact ⟨k, hk, (h.edge hk).1⟩
  · obtain ⟨k, hk⟩ := edge d
    exact (h.edge hk).2.2.1
  · -- the sum
    have st : ∀ d, cg c (itr (bk rs p) d s) ≤ cg c (itr (bk rs p) (d + 1) s) + wtB rs p (itr (bk rs p) d s) ∧ (τ (itr (bk rs p) d s) ≤ τ (itr (bk rs p) (d + 1) s) → cg c (itr (bk rs p) d s) < cg c (itr (bk rs p) (d + 1) s) + wtB rs p (itr (bk rs p) d s)) := fun d => by
      obtain ⟨k, hk⟩ := edge d
      exact ⟨(h.edge hk).2.2.2.1, (h.edge hk).2.2.2.2.1⟩
    have acc : ∀ d, cg c s ≤ cg c (itr (bk rs p) d s) + ((List.range d).map fun i => wtB rs p (itr (bk rs p) i s)).sum ∧
        (cg c s < cg c (itr (bk rs p) d s) + ((List.range d).map fun i => wtB rs p (itr (bk rs p) i s)).sum ∨ τ (itr (bk rs p) d s) + d ≤ τ s) := by
      intro d
      induction d with
      | zero => exact ⟨by simp [itr], .inr (by simp [itr])⟩
      | succ d ih =>
        obtain ⟨h1, h2⟩ := ih
        obtain ⟨h3, h4⟩ := st d
        rw [sum_range_succ]
        refine ⟨by omega, ?_⟩
        by_cases q : τ (itr (bk rs p) d s) ≤ τ (itr (bk rs p) (d + 1) s)
        · have := h4 q
          exact .inl (by omega)
        · rcases h2 with h2 | h2
          · exact .inl (by omega)
          · exact .inr (by omega)
    obtain ⟨h1, h2⟩ := acc l
    rw [hl1] at h1 h2
    rcases h2 with h2 | h2 <;> omega

theorem BI.back {n : Nat} {rs : List Rl} {l : Nat → Option Int} {i T : Nat} {c : Nat → Option Int} {p : Nat → Option Nat} {R τ : Nat → Nat} (h : BI n rs l n i T c p R τ) {m : Nat} (hm : R m = n) : ∀ j, j < n → ∃ k, p (itr (bk rs p) j m) = some k := by
  have hR : ∀ j, j ≤ n → n ≤ R (itr (bk rs p) j m) + j := by
    intro j
    induction j with
    | zero => intro _; show n ≤ R m + 0; omega
    | succ j ih =>
      intro hj
      have h1 := ih (by omega)
      obtain ⟨k, hk⟩ := h.b (itr (bk rs p) j m) (by omega)
      have h2 := (h.edge hk).2.2.2.2.2.1
      show n ≤ R (bk rs p (itr (bk rs p) j m)) + (j + 1)
      omega
  exact fun j hj => h.b _ (by have := hR j (by omega); omega)
theorem BI.trace {n : Nat} {rs : List Rl} {l : Nat → Option Int} {i T : Nat} {c : Nat → Option Int} {p : Nat → Option Nat} {R τ : Nat → Nat} (h : BI n rs l n i T c p R τ) {m : Nat} (hm : R m = n) (hn : 0 < n) :
    (∀ j, j < n → ∃ k, p (itr (bk rs p) j m) = some k ∧ rs[k]? = some (itr (bk rs p) (j + 1) m, itr (bk rs p) j m, wtB rs p (itr (bk rs p) j m)) ∧ itr (bk rs p) j m < n) ∧ ∃ l, Tr n rs p (itr (bk rs p) n m) l :=
  ⟨fun j hj => by
    obtain ⟨k, hk⟩ := h.back hm j hj
    have q := h.edge hk
    exact ⟨k, hk, q.1, q.2.2.1⟩, h.cyc (h.back hm) hn⟩
theorem Tr.pot {n : Nat} {rs : List Rl} {p : Nat → Option Nat} {s l : Nat} (t : Tr n rs p s l) {q : Nat → Int} (hq : Pot rs q) : False := by
  have key : ∀ d, ((List.range d).map fun i => wtB rs p (itr (bk rs p) i s)).sum ≤ q s - q (itr (bk rs p) d s) := by
    intro d
    induction d with
    | zero => show (0 : Int) ≤ q s - q s; omega
    | succ d ih =>
      rw [sum_range_succ]
      obtain ⟨k, hk, er⟩ := t.edge d
      have := hq _ (List.mem_of_getElem? er)
      simp only at this
      omega
  have h1 := key l
  rw [t.back] at h1
  have := t.sum
  omega

/-! ### going back to a mark -/
structure Pa (n : Nat) (rs : List Rl) (p : Nat → Option Nat) (b e : Nat) (l : Nat) : Prop where
  pos : 0 < l
  back : itr (bk rs p) l e = b
  min : ∀ i, 0 < i → i < l → itr (bk rs p) i e ≠ b
  edge : ∀ i, i < l → ∃ k, p (itr (bk rs p) i e) = some k ∧ rs[k]? = some (itr (bk rs p) (i + 1) e, itr (bk rs p) i e, wtB rs p (itr (bk rs p) i e))
  lt : ∀ i, i ≤ l → itr (bk rs p) i e < n
  inj : ∀ i j, 0 < i → i < j → j ≤ l → itr (bk rs p) i e ≠ itr (bk rs p) j e
  fin : b = e ∨ ∀ i, 0 < i → i ≤ l → itr (bk rs p) i e ≠ e
/-- the chain's sum -/
def psum (rs : List Rl) (p : Nat → Option Nat) (e l : Nat) : Int := ((List.range l).map fun i => wtB rs p (itr (bk rs p) i e)).sum
theorem BI.chain {n : Nat} {rs : List Rl} {lo hi : Nat} {t i T : Nat} {c : Nat → Option Int} {p : Nat → Option Nat} {R τ : Nat → Nat} (h : BI n rs (fun x => if x = lo then some 0 else none) t i T c p R τ) {q : Nat → Int} (hq : Pot rs q)
    (hne : lo ≠ hi) (hhi : hi < n) (hlo : lo < n) {ch : Int} (hch : c hi = some ch) : ∃ l, Pa n rs p lo hi l ∧ ch ≤ psum rs p hi l := by
  have hplo : p lo = none := by
    cases e : p lo with
    | none => rfl
    | some k =>
      obtain ⟨u, w, cu, cx, _, _, _, _, g2, _⟩ := h.a lo k e
      have h1 := h.m lo k 0 cx e (by simp) g2
      obtain ⟨j, lj, hj, hl, hc⟩ := h.g lo cx hlo g2
      have hl : (if j = lo then some (0 : Int) else none) = some lj := hl
      split at hl
      · next ej =>
        cases hl
        subst ej
        have := hc.pot hq
        omega
      · cases hl
  have hclo : c lo = some 0 := by rw [h.f lo hplo]; simp
  have hdef : ∀ x, (∃ a, c x = some a) → x ≠ lo → ∃ k, p x = some k := fun x ⟨a, ha⟩ hx => by
    cases e : p x with
    | some k => exact ⟨k, rfl⟩
    | none =>
      rw [h.f x e] at ha
      simp only [if_neg hx] at ha
      cases ha
  have hc : ∀ d, (∀ j, j < d → itr (bk rs p) j hi ≠ lo) → ∃ a, c (itr (bk rs p) d hi) = some a := by
    intro d
    induction d with
    | zero => intro _; exact ⟨ch, hch⟩
    | succ d ih =>
      intro hd
      obtain ⟨k, hk⟩ := hdef _ (ih fun j hj => hd j (by omega)) (hd d (by omega))
      exact (h.edge hk).2.2.2.2.2.2
  have ex : ∃ d, d < n ∧ itr (bk rs p) d hi = lo := by
    by_cases hx : ∃ d, d < n ∧ itr (bk rs p) d hi = lo
    · exact hx
    · exfalso
      have hno : ∀ j, j < n → itr (bk rs p) j hi ≠ lo := fun j hj e => hx ⟨j, hj, e⟩
      obtain ⟨l, tr⟩ := h.cyc (m := hi) (fun j hj => hdef _ (hc j fun j' hj' => hno j' (by omega)) (hno j hj)) (by omega)
      exact tr.pot hq
  have ⟨l, hl, hl1, hl2⟩ : ∃ l, l < n ∧ itr (bk rs p) l hi = lo ∧ ∀ i, i < l → itr (bk rs p) i hi ≠ lo := by
    obtain ⟨d, hd, e⟩ := ex
    have key : ∀ b, b < n → itr (bk rs p) b hi = lo → ∃ l, l < n ∧ itr (bk rs p) l hi = lo ∧ ∀ i, i < l → itr (bk rs p) i hi ≠ lo := by
      intro b
      induction b using Nat.strongRecOn with
      | ind b ih =>
        intro hb he
        by_cases hx : ∃ i, i < b ∧ itr (bk rs p) i hi = lo
        · obtain ⟨i, h2, h3⟩ := hx
          exact ih i h2 (by omega) h3
        · exact ⟨b, hb, he, fun i h2 h3 => hx ⟨i, h2, h3⟩⟩
    exact key d hd e
  have hpos : 0 < l := by
    rcases Nat.eq_zero_or_pos l with e | e
    · subst e; exact absurd hl1.symm hne
    · exact e
  have hed : ∀ i, i < l → ∃ k, p (itr (bk rs p) i hi) = some k := fun i hi' => hdef _ (hc i fun j hj => hl2 j (by omega)) (hl2 i hi')
  refine ⟨l, ⟨hpos, hl1, fun i _ h2 => hl2 i h2, fun i h2 => ?_, fun i h2 => ?_, fun i j h0 h1 h2 e => ?_, .inr fun i h0 h1 e => ?_⟩, ?_⟩
  · obtain ⟨k, hk⟩ := hed i h2
    exact ⟨k, hk, (h.edge hk).1⟩
  · cases i with
    | zero => exact hhi
    | succ i =>
      obtain ⟨k, hk⟩ := hed i (by omega)
      exact (h.edge hk).2.1
  · have : itr (bk rs p) (l - j + i) hi = lo := by
      rw [itr_add, e, ← itr_add, show l - j + j = l by omega]
      exact hl1
    exact hl2 _ (by omega) this
  · have : itr (bk rs p) (l - i) hi = lo := by
      have q : itr (bk rs p) (l - i + i) hi = lo := by rw [show l - i + i = l by omega]; exact hl1
      rw [itr_add, e] at q
      exact q
    exact hl2 _ (by omega) this
  · have acc : ∀ d, d ≤ l → cg c hi ≤ cg c (itr (bk rs p) d hi) + psum rs p hi d := by
      intro d
      induction d with
      | zero => intro _; show cg c hi ≤ cg c hi + 0; omega
      | succ d ih =>
        intro hd
        obtain ⟨k, hk⟩ := hed d (by omega)
        have h1 := (h.edge hk).2.2.2.1
        have h2 := ih (by omega)
        have e : psum rs p hi (d + 1) = psum rs p hi d + wtB rs p (itr (bk rs p) d hi) := sum_range_succ _ _
        rw [e]
        show cg c hi ≤ cg c (bk rs p (itr (bk rs p) d hi)) + _
        omega
    have h1 := acc l (Nat.le_refl _)
    rw [hl1] at h1
    have e1 : cg c hi = ch := by unfold cg; rw [hch]; rfl
    have e2 : cg c lo = 0 := by unfold cg; rw [hclo]; rfl
    omega
/-! ### the law's own table -/
abbrev Fm := Nat → Nat → Option Int
def Fle (F : Fm) (k j : Nat) (w : Int) : Prop := ∃ c, F k j = some c ∧ w ≤ c
/-- closed: no cycle sums up above 0 -/
structure Cl (n : Nat) (rs : List Rl) (F : Fm) : Prop where
  dg : ∀ k, k < n → F k k = some 0
  rl : ∀ r ∈ rs, Fle F r.1 r.2.1 r.2.2
  tri : ∀ k m j a b, k < n → m < n → j < n → F k m = some a → F m j = some b → Fle F k j (a + b)
/-- each is a chain's sum, and none is great -/
structure Att (rs : List Rl) (n t : Nat) (F : Fm) : Prop where
  ch : ∀ k j a, k < n → j < n → F k j = some a → Ch rs k j a
  bd : ∀ k j a, F k j = some a → a.natAbs ≤ 400 * 2 ^ t
theorem Cl.no {n : Nat} {rs : List Rl} {F : Fm} {p : Nat → Option Nat} {s l : Nat} (h : Cl n rs F) (t : Tr n rs p s l) : False := by
  have key : ∀ d, Fle F (itr (bk rs p) d s) s (((List.range d).map fun i => wtB rs p (itr (bk rs p) i s)).sum) := by
    intro d
    induction d with
    | zero =>
      exact ⟨0, h.dg _ (t.lt 0), by simp⟩
    | succ d ih =>
      obtain ⟨c, e, hc⟩ := ih
      obtain ⟨k, hk, er⟩ := t.edge d
      obtain ⟨c2, e2, hc2⟩ := h.rl _ (List.mem_of_getElem? er)
      obtain ⟨c3, e3, hc3⟩ := h.tri _ _ _ _ _ (t.lt (d + 1)) (t.lt d) (t.lt 0) e2 e
      refine ⟨c3, e3, ?_⟩
      rw [sum_range_succ]
      simp only at hc2
      omega
  obtain ⟨c, e, hc⟩ := key l
  rw [t.back, h.dg s (t.lt 0)] at e
  cases e
  have := t.sum
  omega
/-- the way through t, if it is better -/
def gm (F : Fm) (t : Nat) : Fm := fun k j => match F k t, F t j with
  | some a, some b => match F k j with
    | none => some (a + b)
    | some c => if c < a + b then some (a + b) else some c
  | _, _ => F k j
theorem gm_some {F : Fm} {t k j : Nat} {a b : Int} (h1 : F k t = some a) (h2 : F t j = some b) : gm F t k j = match F k j with
    | none => some (a + b)
    | some c => if c < a + b then some (a + b) else some c := by unfold gm; rw [h1, h2]
theorem gm_n1 {F : Fm} {t k j : Nat} (h : F k t = none) : gm F t k j = F k j := by unfold gm; rw [h]
theorem gm_n2 {F : Fm} {t k j : Nat} (h : F t j = none) : gm F t k j = F k j := by
  unfold gm; rw [h]
  cases F k t <;> rfl
theorem gm_ge {F : Fm} {t k j : Nat} {c : Int} (h : F k j = some c) : Fle (gm F t) k j c := by
  cases h1 : F k t with
  | none => exact ⟨c, by rw [gm_n1 h1]; exact h, Int.le_refl _⟩
  | some a =>
    cases h2 : F t j with
    | none => exact ⟨c, by rw [gm_n2 h2]; exact h, Int.le_refl _⟩
    | some b =>
      unfold Fle
      rw [gm_some h1 h2, h]
      by_cases q : c < a + b
      · exact ⟨a + b, by simp [q], by omega⟩
      · exact ⟨c, by simp [q], Int.le_refl _⟩
theorem gm_via {F : Fm} {t k j : Nat} {a b : Int} (h1 : F k t = some a) (h2 : F t j = some b) : Fle (gm F t) k j (a + b) := by
  unfold Fle
  rw [gm_some h1 h2]
  cases h : F k j with
  | none => exact ⟨_, rfl, Int.le_refl _⟩
  | some c =>
    by_cases q : c < a + b
    · exact ⟨a + b, by simp [q], Int.le_refl _⟩
    · exact ⟨c, by simp [q], by omega⟩
theorem gm_inv {F : Fm} {t k j : Nat} {x : Int} (h : gm F t k j = some x) : F k j = some x ∨ ∃ a b, F k t = some a ∧ F t j = some b ∧ x = a + b := by
  cases h1 : F k t with
  | none => rw [gm_n1 h1] at h; exact .inl h
  | some a =>
    cases h2 : F t j with
    | none => rw [gm_n2 h2] at h; exact .inl h
    | some b =>
      rw [gm_some h1 h2] at h
      cases h3 : F k j with
      | none => rw [h3] at h; exact .inr ⟨a, b, rfl, rfl, by simpa using h.symm⟩
      | some c =>
        rw [h3] at h
        by_cases q : c < a + b
        · simp [q] at h; exact .inr ⟨a, b, rfl, rfl, h.symm⟩
        · simp [q] at h; exact .inl (by rw [h])
theorem gm_col {F : Fm} {t k : Nat} (h : F t t = some 0) : gm F t k t = F k t := by
  cases h1 : F k t with
  | none => rw [gm_n1 h1]; exact h1
  | some a => rw [gm_some h1 h, h1]; simp
theorem gm_row {F : Fm} {t j : Nat} (h : F t t = some 0) : gm F t t j = F t j := by
  cases h1 : F t j with
  | none => rw [gm_n2 h1]; exact h1
  | some a => rw [gm_some h h1, h1]; simp
structure Cm (n : Nat) (rs : List Rl) (t : Nat) (F : Fm) : Prop where
  dg : ∀ k, k < n → F k k = some 0
  rl : ∀ r ∈ rs, Fle F r.1 r.2.1 r.2.2
  tri : ∀ k m j a b, k < n → m < t → j < n → F k m = some a → F m j = some b → Fle F k j (a + b)
theorem Cm.step {n : Nat} {rs : List Rl} {t : Nat} {F : Fm} (h : Cm n rs t F) (ht : t < n) (hd : ∀ k, k < n → ∀ c, gm F t k k = some c → ¬ 0 < c) : Cm n rs (t + 1) (gm F t) := by
  have htt := h.dg t ht
  refine ⟨fun k hk => ?_, fun r hr => ?_, fun k m j a b hk hm hj h1 h2 => ?_⟩
  · obtain ⟨c, e, hc⟩ := gm_ge (t := t) (h.dg k hk)
    have := hd k hk c e
    rw [e]; congr 1; omega
  · obtain ⟨c, e, hc⟩ := h.rl r hr
    obtain ⟨c2, e2, hc2⟩ := gm_ge (t := t) e
    exact ⟨c2, e2, by omega⟩
  · by_cases hmt : m = t
    · subst hmt
      rw [gm_col htt] at h1
      rw [gm_row htt] at h2
      exact gm_via h1 h2
    · have hm' : m < t := by omega
      have hmn : m < n := by omega
      rcases gm_inv h1 with h1 | ⟨a1, a2, e1, e2, ea⟩
      · rcases gm_inv h2 with h2 | ⟨b1, b2, f1, f2, eb⟩
        · obtain ⟨c, e, hc⟩ := h.tri k m j a b hk hm' hj h1 h2
          obtain ⟨c2, e2, hc2⟩ := gm_ge (t := t) e
          exact ⟨c2, e2, by omega⟩
        · obtain ⟨c, e, hc⟩ := h.tri k m t a b1 hk hm' ht h1 f1
          obtain ⟨c2, e2, hc2⟩ := gm_via e f2
          exact ⟨c2, e2, by omega⟩
      · rcases gm_inv h2 with h2 | ⟨b1, b2, f1, f2, eb⟩
        · obtain ⟨c, e, hc⟩ := h.tri t m j a2 b ht hm' hj e2 h2
          obtain ⟨c2, g2, hc2⟩ := gm_via e1 e
          exact ⟨c2, g2, by omega⟩
        · obtain ⟨c, e, hc⟩ := h.tri t m t a2 b1 ht hm' ht e2 f1
          rw [htt] at e; cases e
          obtain ⟨c2, g2, hc2⟩ := gm_via e1 f2
          exact ⟨c2, g2, by omega⟩
theorem Cm.done {n : Nat} {rs : List Rl} {F : Fm} (h : Cm n rs n F) : Cl n rs F := ⟨h.dg, h.rl, h.tri⟩
theorem Att.step {n : Nat} {rs : List Rl} {t : Nat} {F : Fm} (h : Att rs n t F) (ht : t < n) : Att rs n (t + 1) (gm F t) := by
  refine ⟨fun k j a hk hj e => ?_, fun k j a e => ?_⟩
  · rcases gm_inv e with e | ⟨x, y, e1, e2, ea⟩
    · exact h.ch k j a hk hj e
    · rw [ea]
      exact (h.ch k t x hk ht e1).trans (h.ch t j y ht hj e2)
  · have e2 : 2 ^ (t + 1) = 2 * 2 ^ t := Nat.pow_succ' ..
    rcases gm_inv e with e | ⟨x, y, h1, h2, ea⟩
    · have := h.bd k j a e
      omega
    · have := h.bd k t x h1
      have := h.bd t j y h2
      omega
/-- the table at first, rule by rule -/
def f0 : Fm := fun k j => if k = j then some 0 else none
def frl (F : Fm) (r : Rl) : Fm := match F r.1 r.2.1 with
  | none => fun k j => if k = r.1 ∧ j = r.2.1 then some r.2.2 else F k j
  | some c => if c < r.2.2 then fun k j => if k = r.1 ∧ j = r.2.1 then some r.2.2 else F k j else F
structure C0 (n : Nat) (rs pre : List Rl) (F : Fm) : Prop where
  dg : ∀ k, F k k = some 0
  rl : ∀ r ∈ pre, Fle F r.1 r.2.1 r.2.2
  sm : Att rs n 0 F
theorem C0.start (n : Nat) (rs : List Rl) : C0 n rs [] f0 := by
  refine ⟨fun k => by simp [f0], by simp, fun k j a hk hj e => ?_, fun k j a e => ?_⟩
  · unfold f0 at e
    split at e
    · next h => subst h; cases e; exact .nil _
    · cases e
  · unfold f0 at e
    split at e
    · cases e; simp
    · cases e
theorem frl_at {F : Fm} {r : Rl} : Fle (frl F r) r.1 r.2.1 r.2.2 := by
  unfold frl Fle
  cases h : F r.1 r.2.1 with
  | none => exact ⟨_, by simp, Int.le_refl _⟩
  | some c =>
    by_cases q : c < r.2.2
    · exact ⟨r.2.2, by simp [q], Int.le_refl _⟩
    · exact ⟨c, by simp [q, h], by omega⟩
theorem frl_ge {F : Fm} {r : Rl} {k j : Nat} {x : Int} (e : F k j = some x) : Fle (frl F r) k j x := by
  unfold frl Fle
  cases h : F r.1 r.2.1 with
  | none =>
    by_cases q : k = r.1 ∧ j = r.2.1
    · rw [q.1, q.2, h] at e; cases e
    · exact ⟨x, by simp [q, e], Int.le_refl _⟩
  | some c =>
    by_cases q2 : c < r.2.2
    · by_cases q : k = r.1 ∧ j = r.2.1
      · rw [q.1, q.2, h] at e; cases e
        exact ⟨r.2.2, by simp [q2, q], by omega⟩
      · exact ⟨x, by simp [q2, q, e], Int.le_refl _⟩
    · exact ⟨x, by simp [q2, e], Int.le_refl _⟩
theorem frl_inv {F : Fm} {r : Rl} {k j : Nat} {x : Int} (e : frl F r k j = some x) : F k j = some x ∨ (k = r.1 ∧ j = r.2.1 ∧ x = r.2.2) := by
  unfold frl at e
  cases h : F r.1 r.2.1 with
  | none =>
    rw [h] at e
    simp only at e
    split at e
    · next q => cases e; exact .inr ⟨q.1, q.2, rfl⟩
    · exact .inl e
  | some c =>
    rw [h] at e
    simp only at e
    split at e
    · simp only at e
      split at e
      · next q => cases e; exact .inr ⟨q.1, q.2, rfl⟩
      · exact .inl e
    · exact .inl e
theorem C0.step {n : Nat} {rs pre : List Rl} {F : Fm} {r : Rl} (h : C0 n rs pre F) (hr : r ∈ rs) (hne : r.1 ≠ r.2.1) (hb : -400 ≤ r.2.2 ∧ r.2.2 ≤ 400) : C0 n rs (pre ++ [r]) (frl F r) := by
  refine ⟨fun k => ?_, fun r' hm => ?_, fun k j a hk hj e => ?_, fun k j a e => ?_⟩
  · obtain ⟨x, e, hx⟩ := frl_ge (r := r) (h.dg k)
    rcases frl_inv e with e2 | ⟨e1, e2, _⟩
    · rw [h.dg k] at e2; cases e2; exact e
    · exact absurd (e1.symm.trans e2) hne
  · rcases List.mem_append.mp hm with hm | hm
    · obtain ⟨x, e, hx⟩ := h.rl r' hm
      obtain ⟨y, e2, hy⟩ := frl_ge (r := r) e
      exact ⟨y, e2, by omega⟩
    · simp at hm; subst hm; exact frl_at
  · rcases frl_inv e with e | ⟨e1, e2, e3⟩
    · exact h.sm.ch k j a hk hj e
    · subst e1 e2 e3
      have := Ch.snoc (.nil r.1) hr
      rw [Int.zero_add] at this
      exact this
  · rcases frl_inv e with e | ⟨e1, e2, e3⟩
    · exact h.sm.bd k j a e
    · omega
theorem C0.done {n : Nat} {rs : List Rl} {F : Fm} (h : C0 n rs rs F) : Cm n rs 0 F := ⟨fun k _ => h.dg k, h.rl, fun k m j a b hk hm => absurd hm (by omega)⟩
/-- the number of the rule that raised, i steps back -/
def kf (rs : List Rl) (p : Nat → Option Nat) (s i : Nat) : Nat := (p (itr (bk rs p) i s)).getD 0
theorem Tr.kf_at {n : Nat} {rs : List Rl} {p : Nat → Option Nat} {s l : Nat} (t : Tr n rs p s l) (i : Nat) : p (itr (bk rs p) i s) = some (kf rs p s i) ∧ rs[kf rs p s i]? = some (itr (bk rs p) (i + 1) s, itr (bk rs p) i s, wtB rs p (itr (bk rs p) i s)) ∧ kf rs p s i < rs.length := by
  obtain ⟨k, e1, e2⟩ := t.edge i
  have e : kf rs p s i = k := by unfold kf; rw [e1]; rfl
  rw [e]
  exact ⟨e1, e2, (List.getElem?_eq_some_iff.mp e2).1⟩
theorem Tr.inj {n : Nat} {rs : List Rl} {p : Nat → Option Nat} {s l : Nat} (t : Tr n rs p s l) {i j : Nat} (hij : i < j) (hj : j < l) : itr (bk rs p) i s ≠ itr (bk rs p) j s := fun e => by
  have h1 : itr (bk rs p) (l - j + i) s = s := by
    rw [itr_add, e, ← itr_add, show l - j + j = l by omega]
    exact t.back
  exact t.min (l - j + i) (by omega) (by omega) h1
theorem Tr.inj1 {n : Nat} {rs : List Rl} {p : Nat → Option Nat} {s l : Nat} (t : Tr n rs p s l) {i j : Nat} (h0 : 0 < i) (hij : i < j) (hj : j ≤ l) : itr (bk rs p) i s ≠ itr (bk rs p) j s := fun e => by
  have h1 : itr (bk rs p) (l - j + i) s = s := by
    rw [itr_add, e, ← itr_add, show l - j + j = l by omega]
    exact t.back
  exact t.min (l - j + i) (by omega) (by omega) h1
theorem Tr.len {n : Nat} {rs : List Rl} {p : Nat → Option Nat} {s l : Nat} (t : Tr n rs p s l) : l ≤ rs.length := by
  have := nodup_le rs.length ((List.range l).map fun i => kf rs p s i) ?_ ?_
  · simpa using this
  · refine List.Pairwise.map _ (R := fun i j => i < j ∧ j < l) (fun i j ⟨h1, h2⟩ e => ?_) ?_
    · have q1 := (t.kf_at i).2.1
      have q2 := (t.kf_at j).2.1
      rw [e, q2] at q1
      simp only [Option.some.injEq, Prod.mk.injEq] at q1
      exact t.inj h1 h2 q1.2.1.symm
    · refine List.Pairwise.imp_of_mem (R := fun i j => i < j) (fun {i j} hi hj h => ⟨h, List.mem_range.mp hj⟩) List.pairwise_lt_range
  · intro x hx
    obtain ⟨i, _, rfl⟩ := List.mem_map.mp hx
    exact (t.kf_at i).2.2
def cyc (rs : List Rl) (p : Nat → Option Nat) (s l : Nat) : List Nat := (List.range l).map fun i => kf rs p s (l - 1 - i)
theorem cyc_rev (rs : List Rl) (p : Nat → Option Nat) (s l : Nat) : ((List.range l).map fun i => kf rs p s i).reverse = cyc rs p s l := by
  refine List.ext_getElem (by simp [cyc]) fun i h1 h2 => ?_
  simp only [cyc, List.getElem_reverse, List.getElem_map, List.getElem_range, List.length_map, List.length_range]
theorem sum_rev : ∀ l : List Int, l.reverse.sum = l.sum
  | [] => rfl
  | a :: t => by rw [List.reverse_cons, List.sum_append, sum_rev t]; simp; omega
theorem Tr.pa {n : Nat} {rs : List Rl} {p : Nat → Option Nat} {s l : Nat} (t : Tr n rs p s l) : Pa n rs p s s l :=
  ⟨t.pos, t.back, t.min, fun i _ => t.edge i, fun i _ => t.lt i, fun i j h0 h1 h2 => t.inj1 h0 h1 h2, .inl rfl⟩
theorem Pa.kf_at {n : Nat} {rs : List Rl} {p : Nat → Option Nat} {b e l : Nat} (t : Pa n rs p b e l) {i : Nat} (hi : i < l) : p (itr (bk rs p) i e) = some (kf rs p e i) ∧ rs[kf rs p e i]? = some (itr (bk rs p) (i + 1) e, itr (bk rs p) i e, wtB rs p (itr (bk rs p) i e)) ∧ kf rs p e i < rs.length := by
  obtain ⟨k, e1, e2⟩ := t.edge i hi
  have e : kf rs p e i = k := by unfold kf; rw [e1]; rfl
  rw [e]
  exact ⟨e1, e2, (List.getElem?_eq_some_iff.mp e2).1⟩
theorem Pa.len {n : Nat} {rs : List Rl} {p : Nat → Option Nat} {b e l : Nat} (t : Pa n rs p b e l) : l ≤ rs.length := by
  have := nodup_le rs.length ((List.range l).map fun i => kf rs p e i) ?_ ?_
  · simpa using this
  · refine List.Pairwise.map _ (R := fun i j => i < j ∧ j < l) (fun i j ⟨h1, h2⟩ e => ?_) ?_
    · have q1 := (t.kf_at (i := i) (by omega)).2.1
      have q2 := (t.kf_at h2).2.1
      rw [e, q2] at q1
      simp only [Option.some.injEq, Prod.mk.injEq] at q1
      exact t.inj (i + 1) (j + 1) (by omega) (by omega) (by omega) q1.1.symm
    · refine List.Pairwise.imp_of_mem (R := fun i j => i < j) (fun {i j} hi hj h => ⟨h, List.mem_range.mp hj⟩) List.pairwise_lt_range
  · intro x hx
    obtain ⟨i, hi, rfl⟩ := List.mem_map.mp hx
    exact (t.kf_at (List.mem_range.mp hi)).2.2
/-! ### greatest sums -/
/-- the greatest of some numbers -/
def mx (f : Nat → Option Int) : Nat → Option Int
  | 0 => none
  | n + 1 => match mx f n, f n with
    | none, y => y
    | some a, none => some a
    | some a, some b => some (max a b)
theorem mx_spec (f : Nat → Option Int) : ∀ n, (∀ a, mx f n = some a → ∃ j, j < n ∧ f j = some a) ∧ ∀ j a, j < n → f j = some a → ∃ b, mx f n = some b ∧ a ≤ b
  | 0 => ⟨fun a h => (nomatch h), fun j a h => absurd h (by omega)⟩
  | n + 1 => by
    obtain ⟨h1, h2⟩ := mx_spec f n
    refine ⟨fun a h => ?_, fun j a hj h => ?_⟩
    · unfold mx at h
      cases e1 : mx f n with
      | none =>
        rw [e1] at h
        exact ⟨n, by omega, h⟩
      | some x =>
        obtain ⟨j, hj, e⟩ := h1 x e1
        cases e2 : f n with
        | none =>
          rw [e1, e2] at h
          cases h
          exact ⟨j, by omega, e⟩
        | some y =>
          rw [e1, e2] at h
          have h : max x y = a := Option.some.inj h
          by_cases q : x ≤ y
          · exact ⟨n, by omega, by rw [e2, ← h, Int.max_eq_right q]⟩
          · exact ⟨j, by omega, by rw [e, ← h, Int.max_eq_left (by omega)]⟩
    · unfold mx
      by_cases q : j = n
      · subst q
        cases e1 : mx f j with
        | none => exact ⟨a, h, Int.le_refl _⟩
        | some x => rw [h]; exact ⟨_, rfl, by omega⟩
      · obtain ⟨b, e1, hb⟩ := h2 j a (by omega) h
        rw [e1]
        cases e2 : f n with
        | none => exact ⟨b, rfl, hb⟩
        | some y => exact ⟨_, rfl, by omega⟩
theorem Cl.chain {n : Nat} {rs : List Rl} {F : Fm} (h : Cl n rs F) (V : Vw n rs) {j k : Nat} {s : Int} (hc : Ch rs j k s) (hj : j < n) : Fle F j k s ∧ k < n := by
  induction hc with
  | nil => exact ⟨⟨0, h.dg _ hj, Int.le_refl _⟩, hj⟩
  | snoc hc hr ih =>
    obtain ⟨⟨a, e1, h1⟩, hk⟩ := ih
    obtain ⟨b, e2, h2⟩ := h.rl _ hr
    obtain ⟨v1, v2, _⟩ := V _ hr
    obtain ⟨d, e3, h3⟩ := h.tri _ _ _ _ _ hj v1 v2 e1 e2
    exact ⟨⟨d, e3, by omega⟩, v2⟩
/-- each mark's greatest sum of a low and a chain -/
def LF (n : Nat) (F : Fm) (l c : Nat → Int) : Prop := ∀ k, k < n → (∀ j a, j < n → F j k = some a → l j + a ≤ c k) ∧ ∃ j a, j < n ∧ F j k = some a ∧ c k = l j + a
theorem LF.idem {n : Nat} {rs : List Rl} {F : Fm} (h : Cl n rs F) {l c : Nat → Int} (q : LF n F l c) : LF n F c c := fun k hk => by
  refine ⟨fun j a hj e => ?_, k, 0, hk, h.dg k hk, by omega⟩
  obtain ⟨i, b, hi, e1, e2⟩ := (q j hj).2
  obtain ⟨d, e3, h3⟩ := h.tri i j k b a hi hj hk e1 e
  have := (q k hk).1 i d hi e3
  omega
theorem LF.uniq {n : Nat} {F : Fm} {l c d : Nat → Int} (q : LF n F l c) (q' : LF n F l d) {k : Nat} (hk : k < n) : c k = d k := by
  obtain ⟨h1, j, a, hj, e1, e2⟩ := q k hk
  obtain ⟨h3, i, b, hi, f1, f2⟩ := q' k hk
  have := h1 i b hi f1
  have := h3 j a hj e1
  omega
section
variable {n : Nat} {rs : List Rl} {l : Nat → Option Int} {t i T : Nat} {c : Nat → Option Int} {p : Nat → Option Nat} {R τ : Nat → Nat} {F : Fm}
theorem BI.least (h : BI n rs l t i T c p R τ) (hc : PotO rs c) (V : Vw n rs) (hF : Cl n rs F) (hA : ∀ k j a, k < n → j < n → F k j = some a → Ch rs k j a) {ls : Nat → Int} (hl : ∀ x, l x = if x < n then some (ls x) else none) : LF n F ls (cg c) ∧ ∀ k, k < n → c k = some (cg c k) := by
  have hd : ∀ k, k < n → ∃ a, c k = some a ∧ ls k ≤ a := fun k hk => h.h k (ls k) (by rw [hl, if_pos hk])
  have hs : ∀ k, k < n → c k = some (cg c k) := fun k hk => by
    obtain ⟨a, e, _⟩ := hd k hk
    unfold cg; rw [e]; rfl
  have up : ∀ k, k < n → ∀ j a, j < n → F j k = some a → ls j + a ≤ cg c k := fun k hk j a hj e => by
    obtain ⟨a0, e0, h0⟩ := hd j hj
    obtain ⟨b, e1, h1⟩ := (hA j k a hj hk e).potO hc e0
    rw [hs k hk] at e1
    cases e1
    omega
  refine ⟨fun k hk => ⟨up k hk, ?_⟩, hs⟩
  obtain ⟨j, lj, hj, e, hch⟩ := h.g k _ hk (hs k hk)
  rw [hl, if_pos hj] at e
  cases e
  obtain ⟨⟨a, e1, h1⟩, _⟩ := hF.chain V hch hj
  have := up k hk j a hj e1
  exact ⟨j, a, hj, e1, by omega⟩
theorem BI.from {lo : Nat} (h : BI n rs (fun x => if x = lo then some 0 else none) t i T c p R τ) (hc : PotO rs c) (V : Vw n rs) (hF : Cl n rs F) (hA : ∀ k j a, k < n → j < n → F k j = some a → Ch rs k j a) (hlo : lo < n) {k : Nat} (hk : k < n) : c k = F lo k := by
  obtain ⟨a0, e0, h0⟩ := h.h lo 0 (by simp)
  have up : ∀ a, F lo k = some a → ∃ b, c k = some b ∧ a ≤ b := fun a e => by
    obtain ⟨b, e1, h1⟩ := (hA lo k a hlo hk e).potO hc e0
    exact ⟨b, e1, by omega⟩
  cases e : c k with
  | none =>
    cases e2 : F lo k with
    | none => rfl
    | some a =>
      obtain ⟨b, e1, _⟩ := up a e2
      rw [e] at e1; cases e1
  | some ck =>
    obtain ⟨j, lj, hj, el, hch⟩ := h.g k ck hk e
    have el : (if j = lo then some (0 : Int) else none) = some lj := el
    split at el
    · next ej =>
      cases el
      subst ej
      obtain ⟨⟨a, e1, h1⟩, _⟩ := hF.chain V hch hj
      obtain ⟨b, e2, h2⟩ := up a e1
      rw [e] at e2; cases e2
      rw [e1]
      congr 1
      omega
    · cases el
theorem BI.calm (h : BI n rs l n i T c p R τ) {q : Nat → Int} (hq : Pot rs q) {m : Nat} (hm : R m = n) (hn : 0 < n) : False := by
  obtain ⟨_, l, t⟩ := h.trace hm hn
  exact t.pot hq
end
/-- where a rule doesn't follow, cells keep the rules and break it -/
theorem open_pot {n : Nat} {rs : List Rl} {F : Fm} (V : Vw n rs) (h : Cl n rs F) {lo hi : Nat} {w : Int} (hlo : lo < n) (hhi : hi < n) (hne : lo ≠ hi) (hw : ∀ a, F lo hi = some a → a < w) : ∃ q, Pot (rs ++ [(hi, lo, 1 - w)]) q := by
  obtain ⟨B, hB⟩ : ∃ B : Int, ∀ j a, j < n → F j hi = some a → a ≤ B := by
    obtain ⟨_, h2⟩ := mx_spec (fun j => F j hi) n
    refine ⟨(mx (fun j => F j hi) n).getD 0, fun j a hj e => ?_⟩
    obtain ⟨b, e1, hb⟩ := h2 j a hj e
    rw [e1]; exact hb
  let lw : Nat → Int := fun j => if j = lo then 0 else w - 1 - B
  let q : Nat → Int := fun k => (mx (fun j => (F j k).map fun a => lw j + a) n).getD 0
  have hq : ∀ k, k < n → (∃ j a, j < n ∧ F j k = some a ∧ q k = lw j + a) ∧ ∀ j a, j < n → F j k = some a → lw j + a ≤ q k := fun k hk => by
    obtain ⟨h1, h2⟩ := mx_spec (fun j => (F j k).map fun a => lw j + a) n
    have hd : ∀ j a, j < n → F j k = some a → ∃ b, mx (fun j => (F j k).map fun a => lw j + a) n = some b ∧ lw j + a ≤ b := fun j a hj e => h2 j _ hj (by show (F j k).map _ = _; rw [e]; rfl)
    obtain ⟨b, e1, _⟩ := hd k 0 hk (h.dg k hk)
    have eq : q k = b := by show (mx _ n).getD 0 = b; rw [e1]; rfl
    refine ⟨?_, fun j a hj e => ?_⟩
    · obtain ⟨j, hj, e2⟩ := h1 b e1
      have e2 : (F j k).map (fun a => lw j + a) = some b := e2
      cases e3 : F j k with
      | none => rw [e3] at e2; cases e2
      | some a =>
        rw [e3] at e2
        exact ⟨j, a, hj, e3, by rw [eq]; exact (Option.some.inj e2).symm⟩
    · obtain ⟨b', e2, hb⟩ := hd j a hj e
      rw [e1] at e2; cases e2
      rw [eq]; exact hb
  refine ⟨q, fun r hr => ?_⟩
  rcases List.mem_append.mp hr with hr | hr
  · obtain ⟨v1, v2, _⟩ := V r hr
    obtain ⟨⟨j, a, hj, e1, e2⟩, _⟩ := hq r.1 v1
    obtain ⟨b, e3, hb⟩ := h.rl r hr
    obtain ⟨d, e4, hd⟩ := h.tri j r.1 r.2.1 a b hj v1 v2 e1 e3
    have := (hq r.2.1 v2).2 j d hj e4
    omega
  · simp only [List.mem_singleton] at hr
    subst hr
    show q hi + (1 - w) ≤ q lo
    have h0 := (hq lo hlo).2 lo 0 hlo (h.dg lo hlo)
    have el : lw lo = 0 := if_pos rfl
    obtain ⟨⟨j, a, hj, e1, e2⟩, _⟩ := hq hi hhi
    by_cases hjl : j = lo
    · subst hjl
      have := hw a e1
      omega
    · have := hB j a hj e1
      have ej : lw j = w - 1 - B := if_neg hjl
      omega
/-- a chain that leads back is a chain -/
theorem Pa.ch {n : Nat} {rs : List Rl} {p : Nat → Option Nat} {b e l : Nat} (t : Pa n rs p b e l) : Ch rs b e (psum rs p e l) := by
  have key : ∀ d, d ≤ l → Ch rs (itr (bk rs p) d e) e (psum rs p e d) := by
    intro d
    induction d with
    | zero => intro _; exact .nil _
    | succ d ih =>
      intro hd
      obtain ⟨k, hk, er⟩ := t.edge d (by omega)
      have h1 := ih (by omega)
      have h2 : Ch rs (itr (bk rs p) (d + 1) e) (itr (bk rs p) d e) (0 + wtB rs p (itr (bk rs p) d e)) := Ch.snoc (r := (itr (bk rs p) (d + 1) e, itr (bk rs p) d e, wtB rs p (itr (bk rs p) d e))) (.nil _) (List.mem_of_getElem? er)
      have e3 : psum rs p e (d + 1) = 0 + wtB rs p (itr (bk rs p) d e) + psum rs p e d := by
        show ((List.range (d + 1)).map fun i => wtB rs p (itr (bk rs p) i e)).sum = _
        rw [sum_range_succ]
        show psum rs p e d + _ = _
        omega
      rw [e3]
      exact h2.trans h1
  have := key l (Nat.le_refl _)
  rw [t.back] at this
  exact this
end FIT
set_option linter.all false
set_option maxRecDepth 100000
set_option maxHeartbeats 1000000
namespace FIT
open PySem PySem.Spec L2 DL
abbrev sp_law_take : DSp := spTake
abbrev sp_law_box : DSp := spBox
abbrev sp_law_cell : DSp := spCell
theorem rd_law_take : ∀ x m G Q (E : DXK), (∃ (p : Addr) (s : Bx) (k : Nat) (n : Int), x = .ref p ∧ G p = some s.go ∧ s.Ok k ∧ k < 2 ^ 30 ∧ m = .int n ∧ 0 < n ∧ n.natAbs < 2 ^ 1000 ∧
  ∀ (v : Int) (s' : Bx), 0 ≤ v → v < n → s'.Ok (k + 1) → Q (.int v) (gupd G p s'.go)) → DRun t_law_take [some x, some m, none, none, none] G Q := rd_take
theorem rd_law_box : ∀ x G Q (E : DXK), (∃ z : Int, x = .int z ∧ ∀ (p : Addr) (s : Bx), G p = none → s.Ok 0 → Q (.ref p) (gupd G p s.go)) → DRun t_law_box [some x] G Q := rd_box
theorem rd_law_cell : ∀ x m G Q (E : DXK), (∃ (ns : List Int) (k : Int), x = .scr (ns.map .int) ∧ m = .int k ∧ 0 ≤ k ∧ k < 2 ^ 40 ∧ ∀ z : Int, Q (.int z) G) → DRun (t_law_cell ) [some x, some m] G Q := by
  rintro x m G Q E ⟨ns, k, rfl, rfl, h0, h1, h⟩
  conv => whnf
  refine ⟨fun e => ?_, fun e => ?_⟩
  · have e : k < (ns.map D.int).length := of_decide_eq_true e
    conv => whnf
    refine atD_of h0 e fun d hd => ?_
    obtain ⟨z, _, rfl⟩ := List.mem_map.mp hd
    exact h z
  · conv => whnf
    refine ⟨mul_small (.inl (by omega)), ?_⟩
    conv => whnf
    exact h _
def sp_law_same_n (n : Nat) : DSp := spSame n
abbrev sp_law_same : DSp := sp_law_same_n 7
theorem no_law_same {ds : List D} {G : GHp} {Q : DK} {E : DXK} (h : sp_law_same_n 0 ds G Q E) : False := no_same h
theorem rd_law_same (n : Nat) : ∀ x y G Q (E : DXK), prSame (n + 1) x y G Q → DRun (t_law_same (sp_law_same_n n)) [some x, some y, none] G Q := rd_same n
/-! the bounds -/
/-- a list or a tuple, tracked or not -/
def Sq3 (G : GHp) (x : D) (ds : List D) : Prop := x = .lst ds ∨ x = .tup ds ∨ ∃ p, x = .ref p ∧ G p = some (.lst ds)
def pr_is_list (x l u : D) (G : GHp) (Q : DK) : Prop := ∃ (ds : List D) (lo hi : Int), Sq3 G x ds ∧ l = .int lo ∧ u = .int hi ∧ lo ≤ ds.length ∧ ds.length ≤ hi ∧ Q (.bl true) G
def sp_is_list : DSp := sp3 fun x l u G Q _ => pr_is_list x l u G Q
theorem rd_is_list : ∀ x l u G Q (E : DXK), pr_is_list x l u G Q → DRun (t_is_list ) [some x, some l, some u] G Q := by
  rintro x l u G Q E ⟨ds, lo, hi, rfl | rfl | ⟨p, rfl, hp⟩, rfl, rfl, h1, h2, h⟩
  · conv => whnf
    refine ⟨fun e => ?_, fun e => tf e⟩
    conv => whnf
    refine ⟨fun e => ?_, fun e => absurd h1 (of_decide_eq_false e)⟩
    conv => whnf
    exact qb (decide_eq_true h2) h
  · conv => whnf
    refine ⟨fun e => ?_, fun e => tf e⟩
    conv => whnf
    refine ⟨fun e => ?_, fun e => absurd h1 (of_decide_eq_false e)⟩
    conv => whnf
    exact qb (decide_eq_true h2) h
  · have ht : tgOf G (.ref p) = some .lst := by unfold tgOf; simp only [hp]
    conv => whnf
    rw [ht]
    conv => whnf
    refine ⟨fun e => ?_, fun e => tf e⟩
    conv => whnf
    rw [lsOf_ref hp]
    conv => whnf
    refine ⟨fun e => ?_, fun e => absurd h1 (of_decide_eq_false e)⟩
    conv => whnf
    exact qb (decide_eq_true h2) h
abbrev sp_is_plain := NUM.sp_is_plain
abbrev sp_is_whole := NUM.sp_is_whole
theorem whole_yes {i l u : Int} (h1 : l ≤ i) (h2 : i ≤ u) : NUM.whB (.int i) l u = true := by
  show (decide (l ≤ i) && decide (i ≤ u)) = true
  rw [decide_eq_true h1, decide_eq_true h2]; rfl
abbrev rlD (r : Rl) : D := .tup [.int r.1, .int r.2.1, .int r.2.2]
def pr_is_rule (x m : D) (G : GHp) (Q : DK) : Prop := ∃ (r : Rl) (n : Nat), x = rlD r ∧ m = .int n ∧ r.1 < n ∧ r.2.1 < n ∧ r.1 ≠ r.2.1 ∧ -400 ≤ r.2.2 ∧ r.2.2 ≤ 400 ∧ Q (.bl true) G
def sp_is_rule : DSp := sp2 fun x m G Q _ => pr_is_rule x m G Q
theorem rd_is_rule : ∀ x m G Q (E : DXK), pr_is_rule x m G Q → DRun (t_is_rule sp_is_whole) [some x, some m, none, none, none] G Q := by
  rintro x m G Q E ⟨⟨u, v, w⟩, n, rfl, rfl, h1, h2, h3, h4, h5, h⟩
  simp only at h1 h2 h3 h4 h5
  conv => whnf
  refine ⟨fun e => ft e, fun _ => ?_⟩
  conv => whnf
  refine ⟨fun e => ft e, fun _ => ?_⟩
  conv => whnf
  refine ⟨.int, _, _, rfl, rfl, rfl, ?_⟩
  rw [whole_yes (i := u) (l := 0) (u := n - 1) (by omega) (by omega)]
  conv => whnf
  refine ⟨fun e => ft e, fun _ => ?_⟩
  conv => whnf
  refine ⟨.int, _, _, rfl, rfl, rfl, ?_⟩
  rw [whole_yes (i := v) (l := 0) (u := n - 1) (by omega) (by omega)]
  conv => whnf
  refine ⟨fun e => ft e, fun _ => ?_⟩
  conv => whnf
  refine ⟨fun e => ?_, fun _ => ?_⟩
  · exfalso
    have e : (u : Int) = v := of_decide_eq_true e
    omega
  conv => whnf
  refine ⟨.int, _, _, rfl, rfl, rfl, ?_⟩
  rw [whole_yes (i := w) (l := -400) (u := 400) h4 h5]
  exact h
def Sq2 (x : D) (ds : List D) : Prop := x = .lst ds ∨ x = .tup ds
theorem Sq2.s3 {G : GHp} {x : D} {ds : List D} (h : Sq2 x ds) : Sq3 G x ds := by
  rcases h with h | h
  · exact .inl h
  · exact .inr (.inl h)
def pr_need_rules (x m : D) (G : GHp) (Q : DK) : Prop := ∃ (rs : List Rl) (n : Nat), Sq2 x (rs.map rlD) ∧ m = .int n ∧ Vr n rs ∧ rs.length ≤ 100 ∧ Q .non G
def sp_need_rules : DSp := sp2 fun x m G Q _ => pr_need_rules x m G Q
theorem rd_need_rules : ∀ x m G Q (E : DXK), pr_need_rules x m G Q → DRun (t_need_rules sp_is_list sp_is_rule) [some x, some m, none] G Q := by
  rintro x m G Q E ⟨rs, n, hx, rfl, hV, hl, h⟩
  conv => whnf
  refine ⟨_, 0, 100, hx.s3, rfl, rfl, by omega, by rw [List.length_map]; omega, ?_⟩
  conv => whnf
  refine ⟨fun e => ft e, fun _ => ?_⟩
  have key : dForL none (.nm 2) (dIf (dNot (dTest (dCall sp_is_rule [] (dCons (dVar 2) (dCons (dVar 1) dNil))))) dNever dNext) (rs.map rlD) { nx := fun _ G' => Q .non G', rt := Q } [some x, some (.int n), none] G := by
    refine for_ind (enc := rlD) (fun r δ G' => G' = G ∧ (∃ o, δ = [some x, some (.int n), o]) ∧ ∀ q ∈ r, q ∈ rs) ?_ ?_ rs _ _ ⟨rfl, ⟨_, rfl⟩, fun _ h => h⟩
    · rintro δ _ ⟨rfl, _, _⟩
      exact ⟨trivial, h⟩
    · rintro q r _ _ ⟨rfl, ⟨o, rfl⟩, hr⟩
      refine ⟨trivial, _, rfl, fun N hN => ?_⟩
      obtain ⟨v1, v2, v3, v4, v5⟩ := hV q (hr q List.mem_cons_self)
      conv => whnf
      refine ⟨q, n, rfl, rfl, v1, v2, v3, v4, v5, ?_⟩
      conv => whnf
      exact ⟨fun e => ft e, fun _ => hN _ _ ⟨rfl, ⟨_, rfl⟩, fun m hm => hr m (List.mem_cons_of_mem _ hm)⟩⟩
  rcases hx with rfl | rfl
  · exact key
  · exact key
def pr_need_marks (m x : D) (G : GHp) (Q : DK) : Prop := ∃ (rs : List Rl) (n : Nat), Sq2 x (rs.map rlD) ∧ m = .int n ∧ Vr n rs ∧ rs.length ≤ 100 ∧ 1 ≤ n ∧ n ≤ 24 ∧ Q .non G
def sp_need_marks : DSp := sp2 fun m x G Q _ => pr_need_marks m x G Q
theorem rd_need_marks : ∀ m x G Q (E : DXK), pr_need_marks m x G Q → DRun (t_need_marks sp_is_whole sp_need_rules) [some m, some x] G Q := by
  rintro m x G Q E ⟨rs, n, hx, rfl, hV, hl, h1, h2, h⟩
  conv => whnf
  refine ⟨.int, _, _, rfl, rfl, rfl, ?_⟩
  rw [whole_yes (i := n) (l := 1) (u := 24) (by omega) (by omega)]
  conv => whnf
  refine ⟨fun e => ft e, fun _ => ?_⟩
  conv => whnf
  exact ⟨rs, n, hx, rfl, hV, hl, h⟩
def pr_need_cells (x : D) (G : GHp) (Q : DK) : Prop := ∃ cs : List Int, Sq3 G x (cs.map .int) ∧ 1 ≤ cs.length ∧ cs.length ≤ 24 ∧ Q .non G
def sp_need_cells : DSp := sp1 fun x G Q _ => pr_need_cells x G Q
theorem rd_need_cells : ∀ x G Q (E : DXK), pr_need_cells x G Q → DRun (t_need_cells sp_is_list sp_is_plain) [some x, none] G Q := by
  rintro x G Q E ⟨cs, hx, h1, h2, h⟩
  conv => whnf
  refine ⟨_, 1, 24, hx, rfl, rfl, by rw [List.length_map]; omega, by rw [List.length_map]; omega, ?_⟩
  conv => whnf
  refine ⟨fun e => ft e, fun _ => ?_⟩
  have key : ∀ gd : Gd, gd.ok G → dForL gd (.nm 1) (dIf (dNot (dTest (dCall sp_is_plain [] (dCons (dVar 1) dNil)))) dNever dNext) (cs.map .int) { nx := fun _ G' => Q .non G', rt := Q } [some x, none] G := by
    intro gd hgd
    refine for_ind (enc := D.int) (fun r δ G' => G' = G ∧ (∃ o, δ = [some x, o])) ?_ ?_ cs _ _ ⟨rfl, ⟨_, rfl⟩⟩
    · rintro δ _ ⟨rfl, _⟩
      exact ⟨hgd, h⟩
    · rintro q r _ _ ⟨rfl, ⟨o, rfl⟩⟩
      refine ⟨hgd, _, rfl, fun N hN => ?_⟩
      conv => whnf
      refine ⟨.int, rfl, ?_⟩
      conv => whnf
      exact ⟨fun e => ft e, fun _ => hN _ _ ⟨rfl, ⟨_, rfl⟩⟩⟩
  rcases hx with rfl | rfl | ⟨p, rfl, hp⟩
  · exact key none trivial
  · exact key none trivial
  · conv => whnf
    rw [hp]
    exact key (some (p, _)) hp
end FIT
set_option linter.all false
set_option maxRecDepth 100000
set_option maxHeartbeats 1000000
namespace FIT
open PySem PySem.Spec L2 DL
/-! which rules are broken -/
def gi (cs : List Int) (i : Nat) : Int := cs[i]?.getD 0
def gr (rs : List Rl) (i : Nat) : Rl := rs[i]?.getD (0, 0, 0)
def brk (cs : List Int) (rs : List Rl) : List Nat := (List.range rs.length).filter fun k => decide (gi cs (gr rs k).2.1 - gi cs (gr rs k).1 < (gr rs k).2.2)
theorem gr_mem {rs : List Rl} {i : Nat} (h : i < rs.length) : gr rs i ∈ rs := by
  unfold gr; rw [List.getElem?_eq_getElem h]; exact List.getElem_mem h
theorem gr_at {rs : List Rl} {i : Nat} (h : i < rs.length) : rs[i]? = some (gr rs i) := by
  unfold gr; rw [List.getElem?_eq_getElem h]; rfl
theorem enum_eq : ∀ (rs : List Rl), enumFrom 0 (rs.map rlD) = (List.range rs.length).map fun (k : Nat) => D.tup [.int k, rlD (gr rs k)] := by
  intro rs
  refine List.ext_getElem? fun i => ?_
  rw [enumFrom_get, List.getElem?_map, List.getElem?_map]
  by_cases h : i < rs.length
  · rw [gr_at h, List.getElem?_range h]
    simp
  · rw [List.getElem?_eq_none (by omega), List.getElem?_eq_none (by rw [List.length_range]; omega)]
    rfl
theorem at_int {cs : List Int} {i : Nat} (h : i < cs.length) {Q : D → Prop} (q : Q (.int (gi cs i))) : atD (cs.map .int) i Q := by
  refine atD_nat (d := .int (gi cs i)) ?_ q
  rw [List.getElem?_map, List.getElem?_eq_getElem h]
  unfold gi
  rw [List.getElem?_eq_getElem h]
  rfl
def natsD (l : List Nat) : D := .lst (l.map fun (k : Nat) => D.int k)
def encP : Option Nat → D
  | none => .non
  | some k => .int k
def encF : Option Int → D
  | none => .non
  | some c => .int c
/-- what raised has told -/
structure RP (n : Nat) (rs : List Rl) (l : Nat → Option Int) (c : Nat → Option Int) (p : Nat → Option Nat) (mk : D) : Prop where
  ex : ∃ R τ T, BI n rs l n rs.length T c p R τ ∧ ((mk = .non ∧ PotO rs c) ∨ ∃ m, m < n ∧ mk = .int (m : Nat) ∧ R m = n)
def lsF (n : Nat) (c : Nat → Option Int) : D := .lst (tab n fun x => encF (c x))
def lsP (n : Nat) (p : Nat → Option Nat) : D := .lst (tab n fun x => encP (p x))
def pr_raised (x y : D) (G : GHp) (Q : DK) : Prop := ∃ (n : Nat) (rs : List Rl) (l : Nat → Option Int), Sq2 x (tab n fun x => encF (l x)) ∧ Sq2 y (rs.map rlD) ∧ 1 ≤ n ∧ n ≤ 24 ∧ Vw n rs ∧ rs.length ≤ 101 ∧ ∀ c p mk, RP n rs l c p mk → Q (.tup [lsF n c, lsP n p, mk]) G
def sp_raised : DSp := sp2 fun x y G Q _ => pr_raised x y G Q
theorem fup_enc (c : Nat → Option Int) (v : Nat) (a : Int) : (fun x => encF (fup c v (some a) x)) = fup (fun x => encF (c x)) v (.int a) := fup_map encF c v (some a)
theorem rd_raised {K : PySem.W.Frag} : ∀ x y G Q (E : DXK), pr_raised x y G Q → DRun (t_raised K) [some x, some y, none, none, none, none, none, none, none, none] G Q := by
  rintro x y G Q E ⟨n, rs, l, hx, hy, h1, h2, hV, hl, h⟩
  have hL := tab_len n fun x => encF (l x)
  -- behind the two lists
  have main : ∀ (pc pr : Addr) (G' : GHp), G pc = none → G pr = none → pr ≠ pc → G' pc = some (.lst (tab n fun x => encF (l x))) → G' pr = some (.lst (tab n fun _ => encP none)) → (∀ b, b ≠ pc → b ≠ pr → G' b = G b) →
      dForL none (.nm 5) (dSeq (dAsg (dC .non) (.nm 4)) (dFor (dEnumQ (dVar 1)) (.tp [(.nm 6), (.tp [(.nm 7), (.nm 8), (.nm 9)])]) (dIf (dAnd (dTestB (dOp dIsNR (dOp dIxR (dVar 2) (dVar 7)) (dC .non))) (dOr (dTestB (dOp dIsR (dOp dIxR (dVar 2) (dVar 8)) (dC .non))) (dTestB (dOp (dCmpR (fun i j => decide (i < j)) (fun a b => decide (a < b))) (dOp dIxR (dVar 2) (dVar 8)) (dOp dAddR (dOp dIxR (dVar 2) (dVar 7)) (dVar 9)))))) (dSeq (dSub (dOp dAddR (dOp dIxR (dVar 2) (dVar 7)) (dVar 9)) (dVar 2) (dVar 8))
  (dSeq (dSub (dVar 6) (dVar 3) (dVar 8))
  (dAsg (dVar 8) (.nm 4)))) dNext))) ((List.range n).map fun (i : Nat) => D.int (0 + i)) { nx := dGhost K (dRet (dTup (dCons (dVar 2) (dCons (dVar 3) (dCons (dVar 4) dNil))))) { nx := fun _ G' => Q .non G', rt := Q }, rt := Q } [some x, some y, some (.ref pc), some (.ref pr), some .non, none, none, none, none, none] G' := by
    intro pc pr G' hpc hpr hne hc0 hr0 hk0
    refine for_rng (enc := fun (i : Nat) => D.int (0 + i)) (fun t δ G' => ∃ c p R τ T mk o5 o6 o7 o8 o9, δ = [some x, some y, some (.ref pc), some (.ref pr), some mk, o5, o6, o7, o8, o9] ∧
        G' pc = some (.lst (tab n fun x => encF (c x))) ∧ G' pr = some (.lst (tab n fun x => encP (p x))) ∧ (∀ b, b ≠ pc → b ≠ pr → G' b = G b) ∧
        ((t = 0 ∧ BI n rs l 1 0 T c p R τ) ∨ (1 ≤ t ∧ BI n rs l t rs.length T c p R τ ∧ ((mk = .non ∧ PotO rs c) ∨ ∃ m, m < n ∧ mk = .int (m : Nat) ∧ R m = t)))) n ?_ ?_ _ _
      ⟨l, fun _ => none, fun _ => 0, fun _ => 0, 1, .non, none, none, none, none, none, rfl, hc0, hr0, hk0, .inl ⟨rfl, BI.start n rs l⟩⟩
    · rintro δ G' ⟨c, p, R, τ, T, mk, o5, o6, o7, o8, o9, rfl, hc, hr, hk, hB⟩
      refine ⟨trivial, ?_⟩
      conv => whnf
      refine ⟨[none, none, some (lsF n c), some (lsP n p), some mk, none, none, none, none, none], G,
        View.tree (fun a => a = pc ∨ a = pr) (fun a e => by rcases e with e | e <;> (rw [e]; assumption)) (fun a o e => .inl ?_)
        (.cons (.no _) (.cons (.no _) (.cons (.so (.ref (.inl rfl) hc (.same _))) (.cons (.so (.ref (.inr rfl) hr (.same _))) (.cons (.so (.same _)) (.cons (.no _) (.cons (.no _) (.cons (.no _) (.cons (.no _) (.cons (.no _) .nil)))))))))), ?_⟩
      · rw [hk a (fun e2 => by rw [e2, hpc] at e; cases e) (fun e2 => by rw [e2, hpr] at e; cases e)]; exact e
      · conv => whnf
        refine ⟨smallL (by simp), h _ _ _ ?_⟩
        rcases hB with ⟨e, _⟩ | ⟨_, hB, hM⟩
        · omega
        · exact ⟨R, τ, T, hB, hM⟩
    · rintro t ht δ G' ⟨c, p, R, τ, T, mk, o5, o6, o7, o8, o9, rfl, hc, hr, hk, hB⟩
      refine ⟨trivial, _, rfl, fun N hN => ?_⟩
      have hB : BI n rs l (t + 1) 0 T c p R τ := by
        rcases hB with ⟨e, hB⟩ | ⟨_, hB, _⟩
        · rw [e]; exact hB
        · exact hB.next
      have inner : ∀ (E' : DEnds), E'.nx = N → ∀ o5 o6 o7 o8 o9, dForL none (.tp [(.nm 6), (.tp [(.nm 7), (.nm 8), (.nm 9)])]) (dIf (dAnd (dTestB (dOp dIsNR (dOp dIxR (dVar 2) (dVar 7)) (dC .non))) (dOr (dTestB (dOp dIsR (dOp dIxR (dVar 2) (dVar 8)) (dC .non))) (dTestB (dOp (dCmpR (fun i j => decide (i < j)) (fun a b => decide (a < b))) (dOp dIxR (dVar 2) (dVar 8)) (dOp dAddR (dOp dIxR (dVar 2) (dVar 7)) (dVar 9)))))) (dSeq (dSub (dOp dAddR (dOp dIxR (dVar 2) (dVar 7)) (dVar 9)) (dVar 2) (dVar 8))
  (dSeq (dSub (dVar 6) (dVar 3) (dVar 8))
  (dAsg (dVar 8) (.nm 4)))) dNext) (enumFrom 0 (rs.map rlD)) E' [some x, some y, some (.ref pc), some (.ref pr), some .non, o5, o6, o7, o8, o9] G' := by
        intro E' hE o5 o6 o7 o8 o9
        rw [enum_eq]
        refine for_rng (enc := fun (k : Nat) => D.tup [.int k, rlD (gr rs k)]) (fun i δ G' => ∃ c p R τ T mk o5 o6 o7 o8 o9, δ = [some x, some y, some (.ref pc), some (.ref pr), some mk, o5, o6, o7, o8, o9] ∧
          G' pc = some (.lst (tab n fun x => encF (c x))) ∧ G' pr = some (.lst (tab n fun x => encP (p x))) ∧ (∀ b, b ≠ pc → b ≠ pr → G' b = G b) ∧
          BI n rs l (t + 1) i T c p R τ ∧ ((mk = .non ∧ ∀ j, j < i → ∀ a, c (gr rs j).1 = some a → ∃ b, c (gr rs j).2.1 = some b ∧ a + (gr rs j).2.2 ≤ b) ∨ ∃ m, m < n ∧ mk = .int (m : Nat) ∧ R m = t + 1)) rs.length ?_ ?_ _ _
          ⟨c, p, R, τ, T, .non, _, _, _, _, _, rfl, hc, hr, hk, hB, .inl ⟨rfl, fun j hj => absurd hj (by omega)⟩⟩
        · rintro δ G' ⟨c, p, R, τ, T, mk, o5, o6, o7, o8, o9, rfl, hc, hr, hk, hB, hM⟩
          have hM2 : (mk = .non ∧ PotO rs c) ∨ ∃ m, m < n ∧ mk = .int (m : Nat) ∧ R m = t + 1 := by
            rcases hM with ⟨rfl, hs⟩ | q
            · refine .inl ⟨rfl, fun r hr a ha => ?_⟩
              obtain ⟨j, hj, e⟩ := List.getElem_of_mem hr
              have := hs j hj
              rw [show gr rs j = r by unfold gr; rw [List.getElem?_eq_getElem hj, e]; rfl] at this
              exact this a ha
            · exact .inr q
          refine ⟨trivial, ?_⟩
          rw [hE]
          exact hN _ _ ⟨c, p, R, τ, T, mk, _, _, _, _, _, rfl, hc, hr, hk, .inr ⟨by omega, hB, hM2⟩⟩
        · rintro i hi δ G' ⟨c, p, R, τ, T, mk, o5, o6, o7, o8, o9, rfl, hc, hr, hk, hB, hM⟩
          refine ⟨trivial, _, rfl, fun N2 hN2 => ?_⟩
          have hg := gr_at hi
          have hmem := gr_mem hi
          have egr : gr rs i = gr rs i := rfl
          generalize hq : gr rs i = q at hg hmem ⊢
          obtain ⟨u, v, w⟩ := q
          obtain ⟨v1, v2, v3⟩ := hV _ hmem
          simp only at v1 v2 v3
          -- nothing to raise
          have calm : (∀ a, c u = some a → ∃ b, c v = some b ∧ a + w ≤ b) → ∀ G', G' pc = some (.lst (tab n fun x => encF (c x))) → G' pr = some (.lst (tab n fun x => encP (p x))) → (∀ b, b ≠ pc → b ≠ pr → G' b = G b) → ∀ o6 o7 o8 o9, N2 [some x, some y, some (.ref pc), some (.ref pr), some mk, o5, o6, o7, o8, o9] G' := by
            intro hs G' hc hr hk o6 o7 o8 o9
            refine hN2 _ _ ⟨c, p, R, τ, T, mk, _, _, _, _, _, rfl, hc, hr, hk, hB.keep hg hs, ?_⟩
            rcases hM with ⟨e1, hs2⟩ | q
            · refine .inl ⟨e1, fun j hj => ?_⟩
              by_cases ej : j = i
              · subst ej
                rw [hq]
                exact hs
              · exact hs2 j (by omega)
            · exact .inr q
          -- raised
          have up : ∀ cu, c u = some cu → (∀ cv, c v = some cv → cv < cu + w) → dSeq (dSub (dOp dAddR (dOp dIxR (dVar 2) (dVar 7)) (dVar 9)) (dVar 2) (dVar 8)) (dSeq (dSub (dVar 6) (dVar 3) (dVar 8)) (dAsg (dVar 8) (.nm 4))) { E' with nx := N2, ct := N2, bk := E'.nx }
              [some x, some y, some (.ref pc), some (.ref pr), some mk, o5, some (.int i), some (.int u), some (.int v), some (.int w)] G' := by
            intro cu hcu hs
            conv => whnf
            rw [lsOf_ref hc]
            refine tab_at v1 ?_
            rw [hcu]
            conv => whnf
            rw [hc]
            conv => whnf
            rw [tab_len, ixN_nat v2]
            conv => whnf
            rw [gupd_at hne hr]
            conv => whnf
            rw [tab_len, ixN_nat v2]
            conv => whnf
            refine hN2 _ _ ⟨fup c v (some (cu + w)), fup p v (some i), fup R v (t + 1), fup τ v T, T + 1, .int v, _, _, _, _, _, rfl, ?_, ?_, fun b h3 h4 => ?_, hB.up hV (by omega) hg hcu hs, .inr ⟨v, v2, rfl, fup_same⟩⟩
            · rw [gupd_ne hne.symm, gupd_same, tab_set, fup_enc]
            · rw [gupd_same, tab_set, fup_map encP]; rfl
            · rw [gupd_ne h4, gupd_ne h3]; exact hk b h3 h4
          conv => whnf
          rw [lsOf_ref hc]
          refine tab_at v1 ?_
          cases hcu : c u with
          | none =>
            conv => whnf
            refine ⟨fun e => ft e, fun _ => ?_⟩
            conv => whnf
            refine ⟨fun e => ft e, fun _ => ?_⟩
            conv => whnf
            exact calm (fun a ha => by rw [hcu] at ha; cases ha) _ hc hr hk _ _ _ _
          | some cu =>
            conv => whnf
            refine ⟨fun _ => ?_, fun e => tf e⟩
            conv => whnf
            rw [lsOf_ref hc]
            refine tab_at v2 ?_
            cases hcv : c v with
            | none =>
              conv => whnf
              refine ⟨fun _ => ?_, fun e => tf e⟩
              conv => whnf
              refine ⟨fun _ => ?_, fun e => tf e⟩
              conv => whnf
              exact up cu hcu fun cv e => by rw [hcv] at e; cases e
            | some cv =>
              conv => whnf
              refine ⟨fun e => ft e, fun _ => ?_⟩
              conv => whnf
              rw [lsOf_ref hc]
              refine tab_at v2 ?_
              rw [hcv]
              conv => whnf
              rw [lsOf_ref hc]
              refine tab_at v1 ?_
              rw [hcu]
              conv => whnf
              refine ⟨fun e => ?_, fun e => ?_⟩
              · have e : cv < cu + w := of_decide_eq_true e
                exact up cu hcu fun cv' e' => by rw [hcv] at e'; cases e'; exact e
              · have e : ¬ cv < cu + w := of_decide_eq_false e
                exact calm (fun a ha => by rw [hcu] at ha; cases ha; exact ⟨cv, hcv, by omega⟩) _ hc hr hk _ _ _ _
      rcases hy with rfl | rfl
      · conv => whnf
        exact inner _ rfl _ _ _ _ _
      · conv => whnf
        exact inner _ rfl _ _ _ _ _
  rcases hx with rfl | rfl
  all_goals
    conv => whnf
    intro pc hpc
    conv => whnf
    refine ⟨smallL (by simp), ?_⟩
    conv => whnf
    rw [hL]
    refine ⟨by omega, by omega, smallL (by simp; omega), fun pr hpr => ?_⟩
    obtain ⟨hne, hpr⟩ := gupd_none hpr
    have er : (List.replicate (n : Int).toNat [D.non]).flatten = tab n fun _ => encP none := by rw [Int.toNat_natCast]; exact rep_tab _ _
    rw [er]
    conv => whnf
    rw [hL]
    refine ⟨by unfold RgB; omega, ?_⟩
    exact main pc pr _ hpc hpr hne (gupd_at hne.symm gupd_same) gupd_same fun b h3 h4 => by rw [gupd_ne h4, gupd_ne h3]
end FIT
set_option linter.all false
set_option maxRecDepth 100000
set_option maxHeartbeats 1000000
namespace FIT
open PySem PySem.Spec L2 DL
theorem tab_last {n : Nat} {f : Nat → D} {Q : D → Prop} (q : Q (f n)) : atD (tab (n + 1) f) (-1) Q := by
  unfold tab
  rw [List.range_succ, List.map_append]
  exact atD_last q
abbrev cyD (rs : List Rl) (p : Nat → Option Nat) (e l : Nat) : D := natsD (cyc rs p e l)
def pr_led_back (x y b e : D) (G : GHp) (Q : DK) : Prop := ∃ (n : Nat) (rs : List Rl) (p : Nat → Option Nat) (be en l : Nat), Pa n rs p be en l ∧ rs.length ≤ 100 ∧ x = lsP n p ∧ Sq2 y (rs.map rlD) ∧ b = .int be ∧ e = .int en ∧ Q (cyD rs p en l) G
def sp_led_back : DSp := sp4 fun x y b e G Q _ => pr_led_back x y b e G Q
theorem rd_led_back {K : PySem.W.Frag} : ∀ x y b e G Q (E : DXK), pr_led_back x y b e G Q → DRun (t_led_back K) [some x, some y, some b, some e, none] G Q := by
  rintro x y b e G Q E ⟨n, rs, p, be, en, l, t, hl, rfl, hy, rfl, rfl, h⟩
  have hlen := t.len
  have hs : en < n := t.lt 0 (by omega)
  have e0 : p en = some (kf rs p en 0) := (t.kf_at t.pos).1
  have hy0 := hy
  conv => whnf
  refine tab_at hs ?_
  rw [e0]
  conv => whnf
  refine ⟨smallL (by simp), fun q hq => ?_⟩
  conv => whnf
  refine while_ind (fun m δ G' => ∃ i, i < l ∧ m = l - i ∧ δ = [some (lsP n p), some y, some (.int be), some (.int en), some (.ref q)] ∧
      G' q = some (.lst (tab (i + 1) fun j => .int (kf rs p en j))) ∧ ∀ b, b ≠ q → G' b = G b) l ⟨0, t.pos, rfl, rfl, by rw [gupd_same]; rfl, fun b hb => gupd_ne hb⟩ ?_
  rintro m δ G' ⟨i, hi, rfl, rfl, hg, hk⟩ N hN
  obtain ⟨k1, k2, k3⟩ := t.kf_at hi
  have hgr : gr rs (kf rs p en i) = (itr (bk rs p) (i + 1) en, itr (bk rs p) i en, wtB rs p (itr (bk rs p) i en)) := by unfold gr; rw [k2]; rfl
  have hx : ∀ Q : D → Prop, Q (rlD (itr (bk rs p) (i + 1) en, itr (bk rs p) i en, wtB rs p (itr (bk rs p) i en))) → atD (rs.map rlD) (kf rs p en i : Int) Q := fun Q q => by
    refine atD_nat (d := rlD (gr rs (kf rs p en i))) (by rw [List.getElem?_map, gr_at k3]; rfl) ?_
    rw [hgr]; exact q
  rcases hy with rfl | rfl
  all_goals
    conv => whnf
    rw [lsOf_ref hg]
    refine tab_last ?_
    conv => whnf
    refine hx _ ?_
    conv => whnf
    refine ⟨fun e => ?_, fun e => ?_⟩
    · have e : (!decide (((itr (bk rs p) (i + 1) en : Nat) : Int) = (be : Int))) = true := e
      have hne : itr (bk rs p) (i + 1) en ≠ be := fun q => by rw [q, decide_eq_true rfl] at e; exact ft e
      have hi2 : i + 1 < l := by
        have : i + 1 ≠ l := fun q => hne (by rw [q]; exact t.back)
        omega
      obtain ⟨k1', _, _⟩ := t.kf_at hi2
      conv => whnf
      rw [lsOf_ref hg]
      conv => whnf
      rw [lsOf_ref hg]
      refine tab_last ?_
      conv => whnf
      refine hx _ ?_
      conv => whnf
      refine tab_at (t.lt (i + 1) (by omega)) ?_
      rw [k1']
      conv => whnf
      rw [hg]
      conv => whnf
      refine ⟨smallLt (by rw [tab_len]; omega), ?_⟩
      conv => whnf
      refine hN (l - (i + 1)) _ _ (by omega) ⟨i + 1, hi2, rfl, rfl, ?_, fun b hb => by rw [gupd_ne hb]; exact hk b hb⟩
      rw [gupd_same]
      unfold tab
      rw [List.range_succ (n := i + 1), List.map_append]
      rfl
    · have e : (!decide (((itr (bk rs p) (i + 1) en : Nat) : Int) = (be : Int))) = false := e
      have heq : itr (bk rs p) (i + 1) en = be := by
        by_cases q : itr (bk rs p) (i + 1) en = be
        · exact q
        · rw [decide_eq_false (by omega)] at e; exact tf e
      have hil : i + 1 = l := by
        by_cases q : i + 1 < l
        · exact absurd heq (t.min (i + 1) (by omega) q)
        · omega
      conv => whnf
      refine ⟨[none, none, none, none, some (.lst (tab (i + 1) fun j => .int (kf rs p en j)))], G, View.tree (fun a => a = q) (fun a e => by rw [e]; exact hq) (fun a o e => .inl (by rw [hk a (fun e2 => by rw [e2, hq] at e; cases e)]; exact e))
        (.cons (.no _) (.cons (.no _) (.cons (.no _) (.cons (.no _) (.cons (.so (.ref rfl hg (.same _))) .nil))))), ?_⟩
      conv => whnf
      have er : (tab (i + 1) fun j => D.int (kf rs p en j)).reverse = (cyc rs p en l).map fun (k : Nat) => D.int k := by
        rw [← cyc_rev, ← hil, List.map_reverse, List.map_map]; rfl
      rw [er]
      exact h
def pr_found_cycle (x y : D) (G : GHp) (Q : DK) : Prop := ∃ (n : Nat) (rs : List Rl), x = .int n ∧ Sq2 y (rs.map rlD) ∧ 1 ≤ n ∧ n ≤ 24 ∧ Vr n rs ∧ rs.length ≤ 100 ∧ ((∃ c, Pot rs c) → Q .non G) ∧
  ∀ p s l, Tr n rs p s l → Q (cyD rs p s l) G
def sp_found_cycle : DSp := sp2 fun x y G Q _ => pr_found_cycle x y G Q
theorem rep_int (n : Nat) : (List.replicate (n : Int).toNat [D.int 0]).flatten = tab n fun x => encF ((fun _ => some 0) x) := by rw [Int.toNat_natCast]; exact rep_tab _ _
theorem rd_found_cycle : ∀ x y G Q (E : DXK), pr_found_cycle x y G Q → DRun (t_found_cycle sp_raised sp_led_back) [some x, some y, none, none, none, none] G Q := by
  rintro x y G Q E ⟨n, rs, rfl, hy, h1, h2, hV, hl, hA, hB⟩
  conv => whnf
  refine ⟨smallL (by simp), ?_⟩
  conv => whnf
  refine ⟨by omega, by omega, smallL (by simp; omega), ?_⟩
  rw [rep_int]
  conv => whnf
  refine ⟨n, rs, _, .inl rfl, hy, h1, h2, hV.w, by omega, fun c p mk hR => ?_⟩
  obtain ⟨R, τ, T, hBI, ⟨rfl, hP⟩ | ⟨m, hm, rfl, hRm⟩⟩ := hR
  · conv => whnf
    refine ⟨fun _ => hA ⟨fun x => cg c x, fun r hr => ?_⟩, fun e => tf e⟩
    obtain ⟨a, ha, _⟩ := hBI.h r.1 0 rfl
    obtain ⟨b, hb, hab⟩ := hP r hr a ha
    show (c r.1).getD 0 + r.2.2 ≤ (c r.2.1).getD 0
    rw [ha, hb]
    exact hab
  · obtain ⟨tr, l, t⟩ := hBI.trace hRm (by omega)
    conv => whnf
    refine ⟨fun e => ft e, fun _ => ?_⟩
    conv => whnf
    refine ⟨by unfold RgB; omega, ?_⟩
    rcases hy with rfl | rfl
    all_goals
      refine for_rng (enc := fun (i : Nat) => D.int (0 + i)) (fun j δ G' => G' = G ∧ ∃ o, δ = [some (.int n), some _, some (lsF n c), some (lsP n p), some (.int (itr (bk rs p) j m : Nat)), o]) n ?_ ?_ _ _ ⟨rfl, _, rfl⟩
      · rintro δ _ ⟨rfl, o, rfl⟩
        refine ⟨trivial, ?_⟩
        conv => whnf
        exact ⟨n, rs, p, _, _, l, t.pa, hl, rfl, (by first | exact .inl rfl | exact .inr rfl), rfl, rfl, hB p _ l t⟩
      · rintro j hj δ G ⟨rfl, o, rfl⟩
        refine ⟨trivial, _, rfl, fun N hN => ?_⟩
        obtain ⟨k, e1, e2, e3⟩ := tr j hj
        conv => whnf
        refine tab_at e3 ?_
        rw [e1]
        conv => whnf
        refine atD_nat (d := rlD (itr (bk rs p) (j + 1) m, itr (bk rs p) j m, wtB rs p (itr (bk rs p) j m))) (by rw [List.getElem?_map, e2]; rfl) ?_
        conv => whnf
        exact hN _ _ ⟨rfl, _, rfl⟩
/-- the refusal: a cycle of rules -/
def exFit (K : PySem.W.Frag) (n : Nat) (rs : List Rl) (G : GHp) (E : DXK) : Prop := ∀ p s l, Tr n rs p s l → E (exC K "NoFit") (some [("cycle", cyD rs p s l)]) G
def pr_need_kept (K : PySem.W.Frag) (x y : D) (G : GHp) (Q : DK) (E : DXK) : Prop := ∃ (n : Nat) (rs : List Rl), x = .int n ∧ Sq2 y (rs.map rlD) ∧ 1 ≤ n ∧ n ≤ 24 ∧ Vr n rs ∧ rs.length ≤ 100 ∧ ((∃ c, Pot rs c) → Q .non G) ∧ exFit K n rs G E
def sp_need_kept (K : PySem.W.Frag) : DSp := sp2 fun x y G Q E => pr_need_kept K x y G Q E
theorem rd_need_kept {K : PySem.W.Frag} : ∀ x y G Q (E : DXK), pr_need_kept K x y G Q E → DRunX (t_need_kept K sp_found_cycle) [some x, some y, none] G Q E := by
  rintro x y G Q E ⟨n, rs, rfl, hy, h1, h2, hV, hl, hA, hB⟩
  conv => whnf
  refine ⟨n, rs, rfl, hy, h1, h2, hV, hl, fun hP => ?_, fun p s l t => ?_⟩
  · conv => whnf
    refine ⟨fun e => ft e, fun _ => ?_⟩
    conv => whnf
    exact hA hP
  · conv => whnf
    refine ⟨fun _ => ?_, fun e => tf e⟩
    conv => whnf
    exact hB p s l t
end FIT
set_option linter.all false
set_option maxRecDepth 100000
set_option maxHeartbeats 1000000
namespace FIT
open PySem PySem.Spec L2 DL
/-- the law's table, if the rules can be kept -/
structure Tb (n : Nat) (rs : List Rl) (F : Fm) : Prop where
  cl : Cl n rs F
  att : Att rs n n F
/-- the list of c 0 .. -/
def lsC (n : Nat) (c : Nat → Int) : D := .lst (tab n fun x => .int (c x))
/-- kept: with the law's table; or not at all -/
def Kept (n : Nat) (rs : List Rl) (ok : Fm → Prop) : Prop := (∃ F, Tb n rs F ∧ ok F) ∨ ∀ c, ¬ Pot rs c
/-- lows, a list or a tuple -/
def pr_least_fit (K : PySem.W.Frag) (x y : D) (G : GHp) (Q : DK) (E : DXK) : Prop := ∃ (n : Nat) (rs : List Rl) (ls : Nat → Int), Sq2 x (tab n fun x => .int (ls x)) ∧ Sq2 y (rs.map rlD) ∧ 1 ≤ n ∧ n ≤ 24 ∧ Vr n rs ∧ rs.length ≤ 100 ∧
  Kept n rs (fun F => ∀ c, LF n F ls c → Q (lsC n c) G) ∧ exFit K n rs G E
def sp_least_fit (K : PySem.W.Frag) : DSp := sp2 fun x y G Q E => pr_least_fit K x y G Q E
theorem tab_enc {n : Nat} (ls : Nat → Int) : (tab n fun x => D.int (ls x)) = tab n fun x => encF ((fun x => if x < n then some (ls x) else none) x) := tab_congr fun i hi => by
  show D.int (ls i) = encF (if i < n then some (ls i) else none)
  rw [if_pos hi]; rfl
theorem tab_ints (n : Nat) (f : Nat → Int) : (tab n fun x => D.int (f x)) = ((List.range n).map f).map .int := by
  unfold tab; rw [List.map_map]; rfl
theorem rd_least_fit {K : PySem.W.Frag} : ∀ x y G Q (E : DXK), pr_least_fit K x y G Q E → DRunX (t_least_fit sp_need_cells sp_need_rules (sp_need_kept K) sp_raised) [some x, some y] G Q E := by
  rintro x y G Q E ⟨n, rs, ls, hx, hy, h1, h2, hV, hl, hK, hE⟩
  have hL := tab_len n fun x => D.int (ls x)
  have e1 := tab_ints n ls
  have tail : ∀ x', x' = x → (∃ c, Pot rs c) → sp_raised [x', y] G (fun x G1 => dC (.int 0) [some x', some y] G1 fun y G2 => dIxR x y G2 Q) DX0 := by
    rintro x' rfl ⟨q, hq⟩
    refine ⟨n, rs, _, by rw [← tab_enc]; exact hx, hy, h1, h2, hV.w, by omega, fun c p mk hR => ?_⟩
    obtain ⟨R, τ, T, hB, hM⟩ := hR
    have hP : PotO rs c := by
      rcases hM with ⟨_, h⟩ | ⟨m, hm, _, hRm⟩
      · exact h
      · exact (hB.calm hq hRm (by omega)).elim
    rcases hK with ⟨F, hF, h⟩ | h
    · obtain ⟨hLF, hc⟩ := hB.least hP hV.w hF.cl hF.att.ch (ls := ls) fun _ => rfl
      have := h _ hLF
      show Q (lsF n c) G
      have e : lsF n c = lsC n (cg c) := congrArg D.lst (tab_congr fun i hi => by rw [hc i hi]; rfl)
      rw [e]; exact this
    · exact absurd hq (h q)
  rcases hx with hx | hx
  all_goals
    subst hx
    conv => whnf
    refine ⟨(List.range n).map ls, by rw [← e1]; first | exact .inl rfl | exact .inr (.inl rfl), by simpa using h1, by simpa using h2, ?_⟩
    conv => whnf
    refine ⟨rs, n, hy, by rw [hL], hV, hl, ?_⟩
    conv => whnf
    refine ⟨n, rs, by rw [hL], hy, h1, h2, hV, hl, fun hP => ?_, hE⟩
    exact tail _ rfl hP
def pr_raised_from (x y z : D) (G : GHp) (Q : DK) : Prop := ∃ (n : Nat) (rs : List Rl) (lo : Nat), x = .int n ∧ Sq2 y (rs.map rlD) ∧ z = .int lo ∧ lo < n ∧ n ≤ 24 ∧ Vr n rs ∧ rs.length ≤ 100 ∧
  ∀ c p mk, RP n rs (fun x => if x = lo then some 0 else none) c p mk → Q (.tup [lsF n c, lsP n p]) G
def sp_raised_from : DSp := sp3 fun x y z G Q _ => pr_raised_from x y z G Q
theorem rd_raised_from : ∀ x y z G Q (E : DXK), pr_raised_from x y z G Q → DRun (t_raised_from sp_raised) [some x, some y, some z, none, none, none, none] G Q := by
  rintro x y z G Q E ⟨n, rs, lo, rfl, hy, rfl, hlo, h2, hV, hl, h⟩
  conv => whnf
  refine ⟨by unfold RgB; omega, ?_⟩
  refine lc_map (enc := fun (i : Nat) => D.int (0 + i)) (keep := fun _ => true) (f := fun i => encF ((fun x => if x = lo then some (0 : Int) else none) i)) (smallL (by rw [List.length_range]; omega)) trivial (fun _ _ R h => h) (fun i hi _ R hR => ?_) ?_
  · conv => whnf
    refine ⟨fun e => ?_, fun e => ?_⟩
    · have e : ((0 : Int) + (i : Int)) = lo := of_decide_eq_true e
      have hR : R (encF (if i = lo then some (0 : Int) else none)) G := hR
      rw [if_pos (by omega)] at hR
      exact hR
    · have e : ¬ ((0 : Int) + (i : Int)) = lo := of_decide_eq_false e
      have hR : R (encF (if i = lo then some (0 : Int) else none)) G := hR
      rw [if_neg (by omega)] at hR
      exact hR
  rw [filter_yes, Int.toNat_natCast]
  conv => whnf
  refine ⟨n, rs, _, .inl rfl, hy, by omega, h2, hV.w, by omega, fun c p mk hR => ?_⟩
  conv => whnf
  exact ⟨smallL (by simp), h c p mk hR⟩
/-- the greatest sum of a chain -/
theorem from_at {n : Nat} {rs : List Rl} {lo hi : Nat} {c : Nat → Option Int} {p : Nat → Option Nat} {mk : D} {F : Fm} (hR : RP n rs (fun x => if x = lo then some 0 else none) c p mk) (hq : ∃ q, Pot rs q) (V : Vw n rs) (hF : Tb n rs F) (hlo : lo < n) (hhi : hi < n) : c hi = F lo hi := by
  obtain ⟨R, τ, T, hB, hM⟩ := hR
  obtain ⟨q, hq⟩ := hq
  have hP : PotO rs c := by
    rcases hM with ⟨_, h⟩ | ⟨m, hm, _, hRm⟩
    · exact h
    · exact (hB.calm hq hRm (by omega)).elim
  exact hB.from hP V hF.cl hF.att.ch hlo hhi
def pr_implied (x y z u : D) (G : GHp) (Q : DK) : Prop := ∃ (n : Nat) (rs : List Rl) (lo hi : Nat) (F : Fm), x = .int n ∧ Sq2 y (rs.map rlD) ∧ z = .int lo ∧ u = .int hi ∧ lo < n ∧ hi < n ∧ n ≤ 24 ∧ Vr n rs ∧ rs.length ≤ 100 ∧ (∃ q, Pot rs q) ∧ Tb n rs F ∧ Q (encF (F lo hi)) G
def sp_implied_cells : DSp := sp4 fun x y z u G Q _ => pr_implied x y z u G Q
theorem rd_implied_cells : ∀ x y z u G Q (E : DXK), pr_implied x y z u G Q → DRun (t_implied_cells sp_raised_from) [some x, some y, some z, some u, none, none] G Q := by
  rintro x y z u G Q E ⟨n, rs, lo, hi, F, rfl, hy, rfl, rfl, hlo, hhi, h2, hV, hl, hq, hF, h⟩
  conv => whnf
  refine ⟨n, rs, lo, rfl, hy, rfl, hlo, h2, hV, hl, fun c p mk hR => ?_⟩
  conv => whnf
  refine tab_at hhi ?_
  rw [from_at hR hq hV.w hF hlo hhi]
  exact h
def pr_apart_by (K : PySem.W.Frag) (x y z u : D) (G : GHp) (Q : DK) (E : DXK) : Prop := ∃ (n : Nat) (rs : List Rl) (lo hi : Nat), x = .int n ∧ Sq2 y (rs.map rlD) ∧ z = .int lo ∧ u = .int hi ∧ lo < n ∧ hi < n ∧ lo ≠ hi ∧ n ≤ 24 ∧ Vr n rs ∧ rs.length ≤ 100 ∧
  Kept n rs (fun F => Q (encF (F lo hi)) G) ∧ exFit K n rs G E
def sp_apart_by (K : PySem.W.Frag) : DSp := sp4 fun x y z u G Q E => pr_apart_by K x y z u G Q E
theorem rd_apart_by {K : PySem.W.Frag} : ∀ x y z u G Q (E : DXK), pr_apart_by K x y z u G Q E → DRunX (t_apart_by sp_need_marks sp_is_rule (sp_need_kept K) sp_implied_cells) [some x, some y, some z, some u] G Q E := by
  rintro x y z u G Q E ⟨n, rs, lo, hi, rfl, hy, rfl, rfl, hlo, hhi, hne, h2, hV, hl, hK, hE⟩
  conv => whnf
  refine ⟨rs, n, hy, rfl, hV, hl, by omega, h2, ?_⟩
  conv => whnf
  refine ⟨smallL (by simp), ?_⟩
  conv => whnf
  refine ⟨(lo, hi, 0), n, rfl, rfl, hlo, hhi, hne, by simp, by simp, ?_⟩
  conv => whnf
  refine ⟨fun e => ft e, fun _ => ?_⟩
  conv => whnf
  refine ⟨n, rs, rfl, hy, by omega, h2, hV, hl, fun hP => ?_, hE⟩
  rcases hK with ⟨F, hF, h⟩ | h
  · conv => whnf
    exact ⟨n, rs, lo, hi, F, rfl, hy, rfl, rfl, hlo, hhi, h2, hV, hl, hP, hF, h⟩
  · obtain ⟨q, hq⟩ := hP
    exact absurd hq (h q)
/-- the answers of follows -/
def ansF (rs : List Rl) (p : Nat → Option Nat) (e l : Nat) : D := .tup [.str "follows", cyD rs p e l]
def ansO (n : Nat) (c : Nat → Int) : D := .tup [.str "open", lsC n c]
def pr_follows (K : PySem.W.Frag) (x y z : D) (G : GHp) (Q : DK) (E : DXK) : Prop := ∃ (n : Nat) (rs : List Rl) (r : Rl), x = .int n ∧ Sq2 y (rs.map rlD) ∧ z = rlD r ∧ r.1 < n ∧ r.2.1 < n ∧ r.1 ≠ r.2.1 ∧ -400 ≤ r.2.2 ∧ r.2.2 ≤ 400 ∧ n ≤ 24 ∧ Vr n rs ∧ rs.length ≤ 100 ∧
  Kept n rs (fun F => (∀ a p l, F r.1 r.2.1 = some a → r.2.2 ≤ a → Pa n rs p r.1 r.2.1 l → r.2.2 ≤ psum rs p r.2.1 l → Q (ansF rs p r.2.1 l) G) ∧
    ∀ c, (∀ a, F r.1 r.2.1 = some a → a < r.2.2) → Pot rs c → c r.2.1 - c r.1 < r.2.2 → Q (ansO n c) G) ∧ exFit K n rs G E
def sp_follows (K : PySem.W.Frag) : DSp := sp3 fun x y z G Q E => pr_follows K x y z G Q E
theorem rd_follows {K : PySem.W.Frag} : ∀ x y z G Q (E : DXK), pr_follows K x y z G Q E → DRunX (t_follows sp_need_marks sp_is_rule (sp_need_kept K) sp_raised_from sp_led_back sp_raised) [some x, some y, some z, none, none, none, none, none] G Q E := by
  rintro x y z G Q E ⟨n, rs, ⟨lo, hi, w⟩, rfl, hy, rfl, hlo, hhi, hne, hw1, hw2, h2, hV, hl, hK, hE⟩
  simp only at hlo hhi hne hw1 hw2 hK
  conv => whnf
  refine ⟨rs, n, hy, rfl, hV, hl, by omega, h2, ?_⟩
  conv => whnf
  refine ⟨(lo, hi, w), n, rfl, rfl, hlo, hhi, hne, hw1, hw2, ?_⟩
  conv => whnf
  refine ⟨fun e => ft e, fun _ => ?_⟩
  conv => whnf
  refine ⟨n, rs, rfl, hy, by omega, h2, hV, hl, fun hP => ?_, hE⟩
  rcases hK.symm with h | ⟨F, hF, hA, hO⟩
  · obtain ⟨q, hq⟩ := hP
    exact absurd hq (h q)
  conv => whnf
  refine ⟨n, rs, lo, rfl, hy, rfl, hlo, h2, hV, hl, fun c p mk hR => ?_⟩
  have hc := from_at hR hP hV.w hF hlo hhi
  have other : (∀ a, F lo hi = some a → a < w) → ∀ (o6 o7 : D), dRet (dTup (dCons (dC (.str "open")) (dCons (dOp dIxR (dCall sp_raised [] (dCons (dOp (dRepR false) (dLst (dCons (dC (.int 0)) dNil)) (dVar 0)) (dCons (dOp dAddR (dCB (dR1 (dListR false)) (dCons (dVar 1) dNil)) (dLst (dCons (dTup (dCons (dVar 4) (dCons (dVar 3) (dCons (dOp (dI0 fun i j => .int (i - j)) (dC (.int 1)) (dVar 5)) dNil)))) dNil))) dNil))) (dC (.int 0))) dNil)))
      { nx := fun _ G' => Q .non G', rt := Q, ex := fun c fs _ G' => E c fs G' } [some (.int n), some y, some (rlD (lo, hi, w)), some (.int lo), some (.int hi), some (.int w), some o6, some o7] G := by
    intro hlt o6 o7
    obtain ⟨q, hq⟩ := open_pot hV.w hF.cl hlo hhi hne hlt
    have fin : ∀ y', Sq2 y' ((rs ++ [(hi, lo, 1 - w)]).map rlD) → sp_raised [.lst (List.replicate (n : Int).toNat [D.int 0]).flatten, y'] G (fun x G1 => dC (.int 0) [some (.int n), some y, some (rlD (lo, hi, w)), some (.int lo), some (.int hi), some (.int w), some o6, some o7] G1 fun y G2 => dIxR x y G2 fun x G1 => dNil [some (.int n), some y, some (rlD (lo, hi, w)), some (.int lo), some (.int hi), some (.int w), some o6, some o7] G1 fun xs G2 => ([D.str "open", x] ++ xs).length ≤ sizeLine ∧ Q (.tup ([D.str "open", x] ++ xs)) G2) DX0 := by
      intro y' hy'
      rw [rep_int]
      refine ⟨n, rs ++ [(hi, lo, 1 - w)], _, .inl rfl, hy', by omega, h2, fun r hr => ?_, by rw [List.length_append]; simp; omega, fun c p mk hR => ?_⟩
      · rcases List.mem_append.mp hr with hr | hr
        · exact hV.w r hr
        · simp only [List.mem_singleton] at hr
          subst hr
          exact ⟨hhi, hlo, hne.symm⟩
      · obtain ⟨R, τ, T, hB, hM⟩ := hR
        have hP : PotO (rs ++ [(hi, lo, 1 - w)]) c := by
          rcases hM with ⟨_, h⟩ | ⟨m, hm, _, hRm⟩
          · exact h
          · exact (hB.calm hq hRm (by omega)).elim
        have hd : ∀ x, c x = some (cg c x) := fun x => by
          obtain ⟨a, e, _⟩ := hB.h x 0 rfl
          unfold cg; rw [e]; rfl
        have hP2 : Pot (rs ++ [(hi, lo, 1 - w)]) (cg c) := fun r hr => by
          obtain ⟨b, hb, h⟩ := hP r hr _ (hd r.1)
          rw [hd] at hb; cases hb
          exact h
        have e : lsF n c = lsC n (cg c) := congrArg D.lst (tab_congr fun i hi => by rw [hd i]; rfl)
        refine ⟨smallL (by simp), ?_⟩
        show Q (.tup [.str "open", lsF n c]) G
        rw [e]
        refine hO (cg c) hlt (fun r hr => hP2 r (List.mem_append_left _ hr)) ?_
        have := hP2 (hi, lo, 1 - w) (by simp)
        simp only at this
        omega
    have e2 : rs.map rlD ++ [D.tup [.int (hi : Nat), .int (lo : Nat), .int (1 - w)]] = (rs ++ [(hi, lo, 1 - w)]).map rlD := by rw [List.map_append]; rfl
    rcases hy with hy | hy
    all_goals
      subst hy
      conv => whnf
      refine ⟨smallL (by simp), ?_⟩
      conv => whnf
      refine ⟨by omega, by omega, smallL (by simp; omega), ?_⟩
      conv => whnf
      refine ⟨smallL (by simp), ?_⟩
      conv => whnf
      refine ⟨smallL (by simp), ?_⟩
      conv => whnf
      refine ⟨smallL (by simp; omega), ?_⟩
      conv => whnf
      rw [e2]
      exact fin _ (.inl rfl)
  conv => whnf
  refine tab_at hhi ?_
  rw [hc]
  cases hFl : F lo hi with
  | none =>
    conv => whnf
    refine ⟨fun e => ft e, fun _ => ?_⟩
    conv => whnf
    refine ⟨fun e => ft e, fun _ => ?_⟩
    conv => whnf
    exact other (fun a e => by rw [hFl] at e; cases e) _ _
  | some a =>
    conv => whnf
    refine ⟨fun _ => ?_, fun e => tf e⟩
    conv => whnf
    refine tab_at hhi ?_
    rw [hc, hFl]
    conv => whnf
    refine ⟨fun e => ?_, fun e => ?_⟩
    · have e : w ≤ a := of_decide_eq_true e
      obtain ⟨q, hq⟩ := hP
      obtain ⟨R, τ, T, hB, hM⟩ := hR
      obtain ⟨l, hPa, hs⟩ := hB.chain hq hne hhi hlo (ch := a) (by rw [hc, hFl])
      conv => whnf
      refine ⟨n, rs, p, lo, hi, l, hPa, hl, rfl, hy, rfl, rfl, ?_⟩
      conv => whnf
      exact ⟨smallL (by simp), hA a p l hFl e hPa (by omega)⟩
    · have e : ¬ w ≤ a := of_decide_eq_false e
      exact other (fun b e2 => by rw [hFl] at e2; cases e2; omega) _ _
end FIT
set_option linter.all false
set_option maxRecDepth 100000
set_option maxHeartbeats 1000000
namespace FIT
open PySem PySem.Spec L2 DL
theorem eqvAll_ints : ∀ l : List Int, PyData.eqvAll (l.map .int) (l.map .int) = true
  | [] => by simp [PyData.eqvAll]
  | a :: t => by simp [PyData.eqvAll, PyData.eqv, eqvAll_ints t]
theorem ne_ints {G : GHp} {Q : DK} {l m : List Int} (e : l = m) (h : Q (.bl false) G) : dNeQ (.lst (l.map .int)) (.lst (m.map .int)) G Q := by
  subst e
  refine ⟨_, _, .lst (.ints l), .lst (.ints l), (Shps.ints (n := 0) l).list.ok (by decide), (Shps.ints (n := 0) l).list.ok (by decide), ?_⟩
  have : PyData.eqv (.list (l.map .int)) (.list (l.map .int)) = true := by simp only [PyData.eqv]; exact eqvAll_ints l
  rw [this]; exact h
theorem DDs.tab {G : GHp} (n : Nat) (f : Nat → Int) : DDs G (tab n fun i => .int (f i)) ((List.range n).map fun i => .int (f i)) := by
  have := DDs.ints (G := G) ((List.range n).map f)
  rw [List.map_map, List.map_map] at this
  exact this
theorem cyc_get {rs : List Rl} {p : Nat → Option Nat} {s l : Nat} : cyc rs p s l = (List.range l).map fun i => kf rs p s (l - 1 - i) := rfl
theorem cyc_len (rs : List Rl) (p : Nat → Option Nat) (s l : Nat) : (cyc rs p s l).length = l := by simp [cyc]
theorem cut_tail {n : Nat} {f : Nat → D} : cutD (tab (n + 1) f) (some 1) none = tab n fun i => f (i + 1) := by
  unfold cutD
  rw [tab_len, HT.sIx_none, show (some (1 : Int)) = some ((1 : Nat) : Int) from rfl, HT.sIx_nat, show min 1 (n + 1) = 1 by omega]
  unfold tab
  refine List.ext_getElem (by simp) fun i h1 h2 => ?_
  simp only [List.getElem_take, List.getElem_drop, List.getElem_map, List.getElem_range]
  rw [Nat.add_comm]
theorem cut_init {n : Nat} {f : Nat → D} : cutD (tab (n + 1) f) none (some (-1)) = tab n f := by
  unfold cutD
  rw [tab_len, HT.sIx_none, List.drop_zero, Nat.sub_zero]
  have e : HT.sIx (n + 1) (n + 1) (some (-1)) = n := by
    show (if (-1 : Int) < 0 then ((-1 : Int) + ((n + 1 : Nat) : Int)).toNat else min (-1 : Int).toNat (n + 1)) = n
    rw [if_pos (by omega)]; omega
  rw [e]
  unfold tab
  refine List.ext_getElem (by simp) fun i h1 h2 => ?_
  simp only [List.getElem_take, List.getElem_map, List.getElem_range]
theorem cut_take {ds : List D} {k : Nat} : cutD ds none (some (k : Int)) = ds.take k := by
  unfold cutD
  rw [HT.sIx_none, List.drop_zero, Nat.sub_zero, HT.sIx_nat, List.take_eq_take_iff]
  simp
def pr_chain (x y b e : D) (G : GHp) (Q : DK) : Prop := ∃ (n : Nat) (rs : List Rl) (p : Nat → Option Nat) (be en l : Nat), Pa n rs p be en l ∧ rs.length ≤ 100 ∧ x = cyD rs p en l ∧ y = .lst (rs.map rlD) ∧ b = .int be ∧ e = .int en ∧ Q (.bl true) G
def sp_law_chain_right : DSp := sp4 fun x y b e G Q _ => pr_chain x y b e G Q
theorem nats_ints (l : List Nat) : (l.map fun (k : Nat) => D.int k) = (l.map fun (k : Nat) => (k : Int)).map .int := by rw [List.map_map]; rfl
theorem rd_law_chain_right : ∀ x y b e G Q (E : DXK), pr_chain x y b e G Q → DRun (t_law_chain_right ) [some x, some y, some b, some e, none, none, none, none] G Q := by
  rintro x y b e G Q E ⟨n, rs, p, be, en, l, t, hl, rfl, rfl, rfl, rfl, h⟩
  have hlen := t.len
  have hpos := t.pos
  have hcl := cyc_len rs p en l
  have hml : (rs.map rlD).length = rs.length := List.length_map ..
  have hdd : DDs G ((cyc rs p en l).map fun (k : Nat) => D.int k) (((cyc rs p en l).map fun (k : Nat) => (k : Int)).map .int) := by
    rw [nats_ints]; exact .ints _
  -- an item of the chain
  have hmem : ∀ k ∈ cyc rs p en l, ∃ i, i < l ∧ k = kf rs p en i := fun k hk => by
    obtain ⟨i, hi, rfl⟩ := List.mem_map.mp hk
    have hi := List.mem_range.mp hi
    exact ⟨l - 1 - i, by omega, rfl⟩
  have hkl : ∀ k ∈ cyc rs p en l, k < rs.length := fun k hk => by
    obtain ⟨i, hi, rfl⟩ := hmem k hk
    exact (t.kf_at hi).2.2
  have hrl : ∀ k, k < rs.length → ∀ Q : D → Prop, Q (rlD (gr rs k)) → atD (rs.map rlD) (k : Int) Q := fun k hk Q q => atD_nat (d := rlD (gr rs k)) (by rw [List.getElem?_map, gr_at hk]; rfl) q
  conv => whnf
  refine ⟨fun e => ft e, fun _ => ?_⟩
  conv => whnf
  refine ⟨smallL (by simp), ?_⟩
  refine eq_nilL hdd (.ints _) ?_
  have he : ((cyc rs p en l).map fun (k : Nat) => D.int k).isEmpty = false := by
    rw [isEmpty_map]
    cases hc : cyc rs p en l with
    | nil => rw [hc] at hcl; simp at hcl; omega
    | cons _ _ => rfl
  rw [he]
  conv => whnf
  refine ⟨fun e => ft e, fun _ => ?_⟩
  conv => whnf
  refine ⟨fun e => ?_, fun _ => ?_⟩
  · exfalso
    have e : ((rs.map rlD).length : Int) < (((cyc rs p en l).map fun (k : Nat) => D.int k).length : Int) := of_decide_eq_true e
    rw [List.length_map, List.length_map, hcl] at e
    omega
  conv => whnf
  refine for_ind (enc := fun (k : Nat) => D.int k) (fun r δ G' => G' = G ∧ (∃ o, δ = [some (cyD rs p en l), some (.lst (rs.map rlD)), some (.int be), some (.int en), o, none, none, none]) ∧ ∀ k ∈ r, k < rs.length) ?_ ?_ (cyc rs p en l) _ _ ⟨rfl, ⟨_, rfl⟩, hkl⟩
  rotate_left
  · rintro k r δ _ ⟨rfl, ⟨o, rfl⟩, hr⟩
    have hk := hr k List.mem_cons_self
    refine ⟨trivial, _, rfl, fun N hN => ?_⟩
    conv => whnf
    refine ⟨fun e => ft e, fun _ => ?_⟩
    conv => whnf
    refine ⟨fun e => ft e, fun _ => ?_⟩
    conv => whnf
    refine ⟨fun _ => ?_, fun e => absurd (show (0 : Int) ≤ k by omega) (of_decide_eq_false e)⟩
    conv => whnf
    have hd : decide ((k : Int) < ((rs.map rlD).length : Int)) = true := decide_eq_true (by rw [hml]; omega)
    refine ⟨fun e => ?_, fun _ => ?_⟩
    · exfalso
      have e : (!decide ((k : Int) < ((rs.map rlD).length : Int))) = true := e
      rw [hd] at e; exact ft e
    exact hN _ _ ⟨rfl, ⟨_, rfl⟩, fun m hm => hr m (List.mem_cons_of_mem _ hm)⟩
  rintro δ _ ⟨rfl, ⟨o, rfl⟩, _⟩
  refine ⟨trivial, ?_⟩
  conv => whnf
  refine lc_map (enc := fun (k : Nat) => D.int k) (keep := fun _ => true) (f := fun k => .int (gr rs k).1) (smallL (by omega)) trivial (fun _ _ R h => h) (fun k hk _ R hR => ?_) ?_
  · conv => whnf
    refine hrl k (hkl k hk) _ ?_
    exact hR
  rw [filter_yes]
  have em : (cyc rs p en l).map (fun k => D.int (gr rs k).1) = tab l fun i => .int (itr (bk rs p) (l - i) en : Nat) := by
    unfold cyc tab
    rw [List.map_map]
    refine List.map_congr_left fun i hi => ?_
    have hi := List.mem_range.mp hi
    show D.int (gr rs (kf rs p en (l - 1 - i))).1 = _
    have := (t.kf_at (i := l - 1 - i) (by omega)).2.1
    unfold gr
    rw [this]
    show D.int ((itr (bk rs p) (l - 1 - i + 1) en : Nat) : Int) = _
    rw [show l - 1 - i + 1 = l - i by omega]
  rw [em]
  conv => whnf
  refine lc_map (enc := fun (k : Nat) => D.int k) (keep := fun _ => true) (f := fun k => .int (gr rs k).2.1) (smallL (by omega)) trivial (fun _ _ R h => h) (fun k hk _ R hR => ?_) ?_
  · conv => whnf
    refine hrl k (hkl k hk) _ ?_
    exact hR
  rw [filter_yes]
  have en2 : (cyc rs p en l).map (fun k => D.int (gr rs k).2.1) = tab l fun i => .int (itr (bk rs p) (l - 1 - i) en : Nat) := by
    unfold cyc tab
    rw [List.map_map]
    refine List.map_congr_left fun i hi => ?_
    have hi := List.mem_range.mp hi
    show D.int (gr rs (kf rs p en (l - 1 - i))).2.1 = _
    have := (t.kf_at (i := l - 1 - i) (by omega)).2.1
    unfold gr
    rw [this]; rfl
  rw [en2]
  conv => whnf
  refine tab_at (i := 0) hpos ?_
  rw [show l - 0 = l from rfl, t.back]
  conv => whnf
  refine ⟨fun e => ?_, fun _ => ?_⟩
  · exfalso
    have e : (!decide ((be : Int) = be)) = true := e
    rw [decide_eq_true rfl] at e; exact ft e
  conv => whnf
  obtain ⟨l', rfl⟩ : ∃ l', l = l' + 1 := ⟨l - 1, by omega⟩
  refine tab_last ?_
  rw [show l' + 1 - 1 - l' = 0 by omega]
  conv => whnf
  refine ⟨fun e => ?_, fun _ => ?_⟩
  · exfalso
    have e : (!decide ((en : Int) = en)) = true := e
    rw [decide_eq_true rfl] at e; exact ft e
  conv => whnf
  have c1 : cutD (tab (l' + 1) fun i => .int (itr (bk rs p) (l' + 1 - i) en : Nat)) (some 1) none = ((List.range l').map fun (i : Nat) => ((itr (bk rs p) (l' - i) en : Nat) : Int)).map .int := by
    rw [cut_tail, List.map_map]
    unfold tab
    refine List.map_congr_left fun i _ => ?_
    rw [show l' + 1 - (i + 1) = l' - i by omega]; rfl
  have c2 : cutD (tab (l' + 1) fun i => .int (itr (bk rs p) (l' + 1 - 1 - i) en : Nat)) none (some (-1)) = ((List.range l').map fun (i : Nat) => ((itr (bk rs p) (l' - i) en : Nat) : Int)).map .int := by
    rw [cut_init, List.map_map]
    unfold tab
    refine List.map_congr_left fun i _ => ?_
    rw [show l' + 1 - 1 - i = l' - i by omega]; rfl
  refine ⟨.list (((List.range l').map fun (i : Nat) => ((itr (bk rs p) (l' - i) en : Nat) : Int)).map .int), .list (((List.range l').map fun (i : Nat) => ((itr (bk rs p) (l' - i) en : Nat) : Int)).map .int), ?_, ?_, (Shps.ints (n := 0) _).list.ok (by decide), (Shps.ints (n := 0) _).list.ok (by decide), ?_⟩
  · show DD _ (.lst (cutD (tab (l' + 1) fun i => .int (itr (bk rs p) (l' + 1 - i) en : Nat)) (some 1) none)) _
    rw [c1]; exact .lst (.ints _)
  · show DD _ (.lst (cutD (tab (l' + 1) fun i => .int (itr (bk rs p) (l' + 1 - 1 - i) en : Nat)) none (some (-1)))) _
    rw [c2]; exact .lst (.ints _)
  have ev : PyData.eqv (.list (((List.range l').map fun (i : Nat) => ((itr (bk rs p) (l' - i) en : Nat) : Int)).map .int)) (.list (((List.range l').map fun (i : Nat) => ((itr (bk rs p) (l' - i) en : Nat) : Int)).map .int)) = true := by
    simp only [PyData.eqv]; exact eqvAll_ints _
  rw [ev]
  conv => whnf
  refine ⟨fun e => ft e, fun _ => ?_⟩
  conv => whnf
  rw [tab_len]
  refine ⟨by unfold RgB; omega, ?_⟩
  refine lc_map (enc := fun (i : Nat) => D.int (0 + i)) (keep := fun _ => false) (f := fun i => D.int (0 + i)) (smallL (by rw [List.length_range]; omega)) trivial (fun i hi R hR => ?_) (fun d hd _ R hR => hR) ?_
  · have hi : i < l' + 1 := by have := List.mem_range.mp hi; omega
    conv => whnf
    refine atD_get (d := .int (itr (bk rs p) (l' + 1 - i) en : Nat)) (by omega) (by rw [tab_len]; omega) (by rw [show ((0 : Int) + (i : Int)).toNat = i by omega]; unfold tab; rw [List.getElem?_map, List.getElem?_range hi]; rfl) ?_
    conv => whnf
    have e0 : cutD (tab (l' + 1) fun i => .int (itr (bk rs p) (l' + 1 - i) en : Nat)) none (some (0 + (i : Int))) = (tab (l' + 1) fun i => .int (itr (bk rs p) (l' + 1 - i) en : Nat)).take i := by
      rw [Int.zero_add]; exact cut_take
    rw [e0]
    have hall : ∀ d ∈ (tab (l' + 1) fun i => .int (itr (bk rs p) (l' + 1 - i) en : Nat)).take i, ∃ j, j < i ∧ d = .int (itr (bk rs p) (l' + 1 - j) en : Nat) := fun d hd => by
      obtain ⟨j, e⟩ := List.mem_iff_getElem?.mp hd
      have hj := (List.getElem?_eq_some_iff.mp e).1
      rw [List.length_take, tab_len] at hj
      refine ⟨j, by omega, ?_⟩
      rw [List.getElem?_take_of_lt (by omega)] at e
      unfold tab at e
      rw [List.getElem?_map, List.getElem?_range (by omega)] at e
      exact (Option.some.inj e).symm
    refine ⟨rfl, ?_, ?_⟩
    · rw [List.all_eq_true]
      intro d hd
      obtain ⟨j, _, rfl⟩ := hall d hd
      rfl
    · have en : inD (.int (itr (bk rs p) (l' + 1 - i) en : Nat)) ((tab (l' + 1) fun i => .int (itr (bk rs p) (l' + 1 - i) en : Nat)).take i) = false := by
        unfold inD
        rw [List.any_eq_false]
        intro d hd
        obtain ⟨j, hj, rfl⟩ := hall d hd
        have := t.inj (l' + 1 - i) (l' + 1 - j) (by omega) (by omega) (by omega)
        show ¬ (((itr (bk rs p) (l' + 1 - j) en : Nat) : Int) == ((itr (bk rs p) (l' + 1 - i) en : Nat) : Int)) = true
        rw [beq_iff_eq]
        omega
      rw [en]
      exact hR
  rw [filter_no]
  conv => whnf
  refine ⟨smallL (by simp), ?_⟩
  refine ne_nilL .nil .nil ?_
  conv => whnf
  refine ⟨fun e => ft e, fun _ => ?_⟩
  conv => whnf
  refine ⟨fun e => ?_, fun e => ?_⟩
  · have e : decide ((be : Int) = en) = true := e
    exact qb e h
  have hbe : be ≠ en := fun z => by
    have e : decide ((be : Int) = en) = false := e
    rw [z, decide_eq_true rfl] at e
    exact tf e
  conv => whnf
  refine ⟨rfl, ?_, ?_⟩
  · rw [List.all_eq_true]
    intro d hd
    obtain ⟨i, _, rfl⟩ := List.mem_map.mp hd
    rfl
  have en3 : inD (.int (en : Nat)) (tab (l' + 1) fun i => .int (itr (bk rs p) (l' + 1 - i) en : Nat)) = false := by
    unfold inD
    rw [List.any_eq_false]
    intro d hd
    obtain ⟨i, hi, rfl⟩ := List.mem_map.mp hd
    have hi := List.mem_range.mp hi
    have := (t.fin.resolve_left hbe) (l' + 1 - i) (by omega) (by omega)
    show ¬ (((itr (bk rs p) (l' + 1 - i) en : Nat) : Int) == ((en : Nat) : Int)) = true
    rw [beq_iff_eq]
    omega
  rw [en3]
  exact h
theorem psum_eq {n : Nat} {rs : List Rl} {p : Nat → Option Nat} {b e l : Nat} (t : Pa n rs p b e l) : ((cyc rs p e l).map fun k => (gr rs k).2.2).sum = psum rs p e l := by
  have e1 : (cyc rs p e l).map (fun k => (gr rs k).2.2) = ((List.range l).map fun i => wtB rs p (itr (bk rs p) i e)).reverse := by
    rw [← cyc_rev, List.map_reverse, List.map_map]
    congr 1
    refine List.map_congr_left fun i hi => ?_
    have hi := List.mem_range.mp hi
    have := (t.kf_at hi).2.1
    show (gr rs (kf rs p e i)).2.2 = _
    unfold gr
    rw [this]; rfl
  rw [e1, sum_rev]; rfl
def pr_cycle_right (x y : D) (G : GHp) (Q : DK) : Prop := ∃ (n : Nat) (rs : List Rl) (p : Nat → Option Nat) (s l : Nat), Tr n rs p s l ∧ rs.length ≤ 100 ∧ x = cyD rs p s l ∧ y = .lst (rs.map rlD) ∧ Q (.bl true) G
def sp_law_cycle_right : DSp := sp2 fun x y G Q _ => pr_cycle_right x y G Q
theorem rd_law_cycle_right : ∀ x y G Q (E : DXK), pr_cycle_right x y G Q → DRun (t_law_cycle_right sp_law_chain_right) [some x, some y, none] G Q := by
  rintro x y G Q E ⟨n, rs, p, s, l, t, hl, rfl, rfl, h⟩
  have hpos := t.pos
  have hcl := cyc_len rs p s l
  have hlen := t.len
  have hml : (rs.map rlD).length = rs.length := List.length_map ..
  have hdd : DDs G ((cyc rs p s l).map fun (k : Nat) => D.int k) (((cyc rs p s l).map fun (k : Nat) => (k : Int)).map .int) := by
    rw [nats_ints]; exact .ints _
  have he : ((cyc rs p s l).map fun (k : Nat) => D.int k).isEmpty = false := by
    rw [isEmpty_map]
    cases hc : cyc rs p s l with
    | nil => rw [hc] at hcl; simp at hcl; omega
    | cons _ _ => rfl
  obtain ⟨k1, k2, k3⟩ := t.kf_at (l - 1)
  have h0 : ∀ Q : D → Prop, Q (.int (kf rs p s (l - 1) : Nat)) → atD ((cyc rs p s l).map fun (k : Nat) => D.int k) 0 Q := fun Q q =>
    atD_nat (i := 0) (d := .int (kf rs p s (l - 1) : Nat)) (by unfold cyc; rw [List.getElem?_map, List.getElem?_map, List.getElem?_range hpos]; rfl) q
  have hr0 : ∀ Q : D → Prop, Q (rlD (s, itr (bk rs p) (l - 1) s, wtB rs p (itr (bk rs p) (l - 1) s))) → atD (rs.map rlD) (kf rs p s (l - 1) : Nat) Q := fun Q q => by
    rw [show l - 1 + 1 = l by omega, t.back] at k2
    exact atD_nat (d := rlD (s, itr (bk rs p) (l - 1) s, wtB rs p (itr (bk rs p) (l - 1) s))) (by rw [List.getElem?_map, k2]; rfl) q
  have hkl : ∀ k ∈ cyc rs p s l, k < rs.length := fun k hk => by
    obtain ⟨i, hi, rfl⟩ := List.mem_map.mp hk
    exact (t.kf_at (l - 1 - i)).2.2
  conv => whnf
  refine ⟨fun e => ft e, fun _ => ?_⟩
  conv => whnf
  refine ⟨smallL (by simp), ?_⟩
  refine eq_nilL hdd (.ints _) ?_
  rw [he]
  conv => whnf
  refine ⟨fun e => ft e, fun _ => ?_⟩
  conv => whnf
  refine h0 _ ?_
  conv => whnf
  refine ⟨fun e => ft e, fun _ => ?_⟩
  conv => whnf
  refine h0 _ ?_
  conv => whnf
  refine ⟨fun e => ft e, fun _ => ?_⟩
  conv => whnf
  refine h0 _ ?_
  conv => whnf
  refine ⟨fun _ => ?_, fun e => absurd (show (0 : Int) ≤ (kf rs p s (l - 1) : Nat) by omega) (of_decide_eq_false e)⟩
  conv => whnf
  have hd : decide (((kf rs p s (l - 1) : Nat) : Int) < ((rs.map rlD).length : Int)) = true := decide_eq_true (by rw [hml]; omega)
  refine ⟨fun e => ?_, fun _ => ?_⟩
  · exfalso
    have e : (!decide (((kf rs p s (l - 1) : Nat) : Int) < ((rs.map rlD).length : Int))) = true := e
    rw [hd] at e; exact ft e
  conv => whnf
  refine h0 _ ?_
  conv => whnf
  refine hr0 _ ?_
  conv => whnf
  refine h0 _ ?_
  conv => whnf
  refine hr0 _ ?_
  conv => whnf
  refine ⟨n, rs, p, s, s, l, t.pa, hl, rfl, rfl, rfl, rfl, ?_⟩
  conv => whnf
  refine ⟨fun e => ft e, fun _ => ?_⟩
  conv => whnf
  refine lc_map (enc := fun (k : Nat) => D.int k) (keep := fun _ => true) (f := fun k => .int (gr rs k).2.2) (smallL (by omega)) trivial (fun _ _ R h => h) (fun k hk _ R hR => ?_) ?_
  · conv => whnf
    refine atD_nat (d := rlD (gr rs k)) (by rw [List.getElem?_map, gr_at (hkl k hk)]; rfl) ?_
    exact hR
  rw [filter_yes]
  conv => whnf
  have ei : intsG G (.lst ((cyc rs p s l).map fun k => D.int (gr rs k).2.2)) = some ((cyc rs p s l).map fun k => (gr rs k).2.2) := by
    have := intsOf_map ((cyc rs p s l).map fun k => (gr rs k).2.2)
    rw [List.map_map] at this
    exact this
  rw [ei]
  refine ⟨trivial, ?_⟩
  refine qb (b := decide (0 < ((cyc rs p s l).map fun k => (gr rs k).2.2).sum)) (decide_eq_true ?_) h
  rw [psum_eq t.pa]
  exact t.sum
end FIT
set_option linter.all false
set_option maxRecDepth 100000
set_option maxHeartbeats 1000000
namespace FIT
open PySem PySem.Spec L2 DL
/-- the table, in tracked rows -/
structure MS (G : GHp) (pf : Addr) (n : Nat) (ra : Nat → Addr) (F : Fm) (G' : GHp) : Prop where
  at_ : G' pf = some (.lst (tab n fun k => .ref (ra k)))
  rows : ∀ k, k < n → G' (ra k) = some (.lst (tab n fun j => encF (F k j)))
  inj : ∀ k j, k < n → j < n → ra k = ra j → k = j
  npf : ∀ k, k < n → ra k ≠ pf
  opf : G pf = none
  ora : ∀ k, k < n → G (ra k) = none
  keep : ∀ b o, G b = some o → G' b = some o
theorem MS.congr {G G' : GHp} {pf : Addr} {n : Nat} {ra : Nat → Addr} {F F' : Fm} (h : MS G pf n ra F G') (e : ∀ k j, k < n → j < n → F k j = F' k j) : MS G pf n ra F' G' :=
  { h with rows := fun k hk => by rw [h.rows k hk, tab_congr fun j hj => by rw [e k j hk hj]] }
theorem MS.set {G G' : GHp} {pf : Addr} {n : Nat} {ra : Nat → Addr} {F F' : Fm} {k j : Nat} {v : Int} (h : MS G pf n ra F G') (hk : k < n) (hj : j < n) (e : ∀ k' j', k' < n → j' < n → F' k' j' = if k' = k ∧ j' = j then some v else F k' j') :
    MS G pf n ra F' (gupd G' (ra k) (.lst ((tab n fun j => encF (F k j)).set j (.int v)))) := by
  refine ⟨by rw [gupd_ne (Ne.symm (h.npf k hk))]; exact h.at_, fun k' hk' => ?_, h.inj, h.npf, h.opf, h.ora, fun b o q => ?_⟩
  · by_cases q : k' = k
    · subst q
      rw [gupd_same, tab_set]
      congr 2
      refine tab_congr fun j' hj' => ?_
      rw [e k' j' hk hj']
      unfold fup
      by_cases q : j' = j
      · rw [if_pos q, if_pos ⟨rfl, q⟩]; rfl
      · rw [if_neg q, if_neg fun z => q z.2]
    · rw [gupd_ne fun z => q (h.inj _ _ hk' hk z), h.rows k' hk']
      congr 2
      refine tab_congr fun j' hj' => ?_
      rw [e k' j' hk' hj', if_neg fun z => q z.1]
  · rw [gupd_ne fun z => by rw [z, h.ora k hk] at q; cases q]; exact h.keep b o q
/-- a place of the table -/
theorem MS.get {G G' : GHp} {pf : Addr} {n : Nat} {ra : Nat → Addr} {F : Fm} {k j : Nat} (h : MS G pf n ra F G') (hk : k < n) (hj : j < n) {Q : D → Prop} (q : Q (encF (F k j))) :
    lsOf G' (.ref pf) = some (tab n fun k => .ref (ra k)) ∧ (∀ R : D → Prop, R (.ref (ra k)) → atD (tab n fun k => D.ref (ra k)) k R) ∧ lsOf G' (.ref (ra k)) = some (tab n fun j => encF (F k j)) ∧ atD (tab n fun j => encF (F k j)) j Q :=
  ⟨lsOf_ref h.at_, fun R r => tab_at (f := fun k => D.ref (ra k)) hk r, lsOf_ref (h.rows k hk), tab_at (f := fun j => encF (F k j)) hj q⟩
def tbD (n : Nat) (F : Fm) : D := .lst (tab n fun k => .lst (tab n fun j => encF (F k j)))
def pr_far (x y : D) (G : GHp) (Q : DK) : Prop := ∃ (n : Nat) (rs : List Rl), x = .int n ∧ y = .lst (rs.map rlD) ∧ 1 ≤ n ∧ n ≤ 24 ∧ Vr n rs ∧ ((∀ c, ¬ Pot rs c) → Q .non G) ∧ ∀ F, Tb n rs F → Q (tbD n F) G
def sp_law_far : DSp := sp2 fun x y G Q _ => pr_far x y G Q
theorem rd_law_far {K : PySem.W.Frag} : ∀ x y G Q (E : DXK), pr_far x y G Q → DRun (t_law_far K) [some x, some y, none, none, none, none, none, none, none] G Q := by
  rintro x y G Q E ⟨n, rs, rfl, rfl, h1, h2, hV, hA, hB⟩
  conv => whnf
  refine ⟨by unfold RgB; omega, ?_⟩
  refine lc_rng (enc := fun (i : Nat) => D.int (0 + i)) (fun i acc G' => ∃ ra : Nat → Addr, acc = tab i (fun k => .ref (ra k)) ∧ (∀ k, k < i → G' (ra k) = some (.lst (tab n fun j => encF (f0 k j)))) ∧ (∀ k j, k < i → j < i → ra k = ra j → k = j) ∧ (∀ k, k < i → G (ra k) = none) ∧ ∀ b o, G b = some o → G' b = some o) n ?_ ?_ [] G
    ⟨fun _ => 0, rfl, fun k hk => absurd hk (by omega), fun k j hk => absurd hk (by omega), fun k hk => absurd hk (by omega), fun b o q => q⟩
  rotate_left
  · rintro i hi acc G' ⟨ra, rfl, hr, hinj, hG, hk⟩
    refine ⟨trivial, _, rfl, fun N hN => ?_⟩
    conv => whnf
    refine ⟨fun _ => ?_, fun e => tf e⟩
    conv => whnf
    refine ⟨by unfold RgB; omega, ?_⟩
    refine lc_map (m := true) (enc := fun (j : Nat) => D.int (0 + j)) (keep := fun _ => true) (f := fun j => encF (f0 i j)) (smallL (by rw [List.length_range]; omega)) trivial (fun _ _ R h => h) (fun j hj _ R hR => ?_) ?_
    · conv => whnf
      refine ⟨fun e => ?_, fun e => ?_⟩
      · have e : (0 : Int) + i = 0 + j := of_decide_eq_true e
        have e : i = j := by omega
        rw [show encF (f0 i j) = .int 0 by unfold f0; rw [if_pos e]; rfl] at hR
        exact hR
      · have e : ¬ (0 : Int) + i = 0 + j := of_decide_eq_false e
        have e : ¬ i = j := by omega
        rw [show encF (f0 i j) = .non by unfold f0; rw [if_neg e]; rfl] at hR
        exact hR
    rw [filter_yes]
    intro p hp
    have hpG : G p = none := by
      cases hx : G p with
      | none => rfl
      | some o => rw [hk p o hx] at hp; cases hp
    have hpr : ∀ k, k < i → ra k ≠ p := fun k hk e => by have := hr k hk; rw [e, hp] at this; cases this
    refine ⟨smallLt (by rw [tab_len]; omega), hN _ _ ⟨fup ra i p, ?_, fun k hk' => ?_, fun k j hk' hj' e => ?_, fun k hk' => ?_, fun b o q => ?_⟩⟩
    · rw [tab_succ, fup_same]
      congr 1
      exact tab_congr fun k hk' => by rw [fup_ne (by omega)]
    · by_cases q : k = i
      · subst q; rw [fup_same, gupd_same]; rfl
      · rw [fup_ne q, gupd_ne (hpr k (by omega))]; exact hr k (by omega)
    · by_cases q : k = i
      · by_cases q2 : j = i
        · rw [q, q2]
        · rw [q, fup_same, fup_ne q2] at e
          exact absurd e.symm (hpr j (by omega))
      · by_cases q2 : j = i
        · rw [q2, fup_same, fup_ne q] at e
          exact absurd e (hpr k (by omega))
        · rw [fup_ne q, fup_ne q2] at e
          exact hinj k j (by omega) (by omega) e
    · by_cases q : k = i
      · subst q; rw [fup_same]; exact hpG
      · rw [fup_ne q]; exact hG k (by omega)
    · rw [gupd_ne fun e => by rw [e, hpG] at q; cases q]; exact hk b o q
  rintro acc G' ⟨ra, rfl, hr, hinj, hG, hk⟩
  refine ⟨trivial, fun pf hpf => ?_⟩
  have hpfG : G pf = none := by
    cases hx : G pf with
    | none => rfl
    | some o => rw [hk pf o hx] at hpf; cases hpf
  have hpr : ∀ k, k < n → ra k ≠ pf := fun k hk e => by have := hr k hk; rw [e, hpf] at this; cases this
  have M0 : MS G pf n ra f0 (gupd G' pf (.lst (tab n fun k => .ref (ra k)))) :=
    ⟨gupd_same, fun k hk' => by rw [gupd_ne (hpr k hk')]; exact hr k hk', hinj, hpr, hpfG, hG, fun b o q => by rw [gupd_ne fun e => by rw [e, hpfG] at q; cases q]; exact hk b o q⟩
  conv => whnf
  refine for_ind (enc := rlD) (fun r δ G' => ∃ pre F o5 o6 o7, rs = pre ++ r ∧ δ = [some (.int n), some (.lst (rs.map rlD)), none, none, some (.ref pf), o5, o6, o7, none] ∧ MS G pf n ra F G' ∧ C0 n rs pre F) ?_ ?_ rs _ _
    ⟨[], f0, none, none, none, rfl, rfl, M0, C0.start n rs⟩
  rotate_left
  · rintro ⟨u, v, w⟩ r δ G' ⟨pre, F, o5, o6, o7, e, rfl, M, C⟩
    have hmem : (u, v, w) ∈ rs := by rw [e]; simp
    obtain ⟨v1, v2, v3, v4, v5⟩ := hV _ hmem
    simp only at v1 v2 v3 v4 v5
    refine ⟨trivial, _, rfl, fun N hN => ?_⟩
    have step := C.step hmem v3 ⟨v4, v5⟩
    have gl := lsOf_ref M.at_
    have gr' := lsOf_ref (M.rows u v1)
    conv => whnf
    rw [gl]
    refine tab_at (f := fun k => D.ref (ra k)) v1 ?_
    conv => whnf
    rw [gr']
    refine tab_at (f := fun j => encF (F u j)) v2 ?_
    have put : ∀ F', F' = frl F (u, v, w) → MS G pf n ra F' (gupd G' (ra u) (.lst ((tab n fun j => encF (F u j)).set v (.int w)))) → N [some (.int n), some (.lst (rs.map rlD)), none, none, some (.ref pf), some (.int u), some (.int v), some (.int w), none] (gupd G' (ra u) (.lst ((tab n fun j => encF (F u j)).set v (.int w)))) := fun F' e2 M2 =>
      hN _ _ ⟨pre ++ [(u, v, w)], F', _, _, _, by rw [e]; simp, rfl, M2, by rw [e2]; exact step⟩
    cases hF : F u v with
    | none =>
      conv => whnf
      refine ⟨fun _ => ?_, fun e => tf e⟩
      conv => whnf
      refine ⟨fun _ => ?_, fun e => tf e⟩
      conv => whnf
      rw [gl]
      refine tab_at (f := fun k => D.ref (ra k)) v1 ?_
      conv => whnf
      rw [M.rows u v1]
      conv => whnf
      rw [tab_len, ixN_nat v2]
      conv => whnf
      refine put _ rfl (M.set v1 v2 fun k' j' hk' hj' => ?_)
      unfold frl; simp only [hF]
    | some c =>
      conv => whnf
      refine ⟨fun e => ft e, fun _ => ?_⟩
      conv => whnf
      rw [gl]
      refine tab_at (f := fun k => D.ref (ra k)) v1 ?_
      conv => whnf
      rw [gr']
      refine tab_at (f := fun j => encF (F u j)) v2 ?_
      rw [hF]
      conv => whnf
      refine ⟨fun e2 => ?_, fun e2 => ?_⟩
      · have e2 : c < w := of_decide_eq_true e2
        conv => whnf
        rw [gl]
        refine tab_at (f := fun k => D.ref (ra k)) v1 ?_
        conv => whnf
        rw [M.rows u v1]
        conv => whnf
        rw [tab_len, ixN_nat v2]
        conv => whnf
        refine put _ rfl (M.set v1 v2 fun k' j' hk' hj' => ?_)
        unfold frl; simp only [hF]
        rw [if_pos e2]
      · have e2 : ¬ c < w := of_decide_eq_false e2
        conv => whnf
        refine hN _ _ ⟨pre ++ [(u, v, w)], frl F (u, v, w), _, _, _, by rw [e]; simp, rfl, M.congr fun k' j' hk' hj' => ?_, step⟩
        unfold frl; simp only [hF]
        rw [if_neg e2]
  rintro δ G' ⟨pre, F, o5, o6, o7, e, rfl, M, C⟩
  rw [List.append_nil] at e
  subst e
  refine ⟨trivial, ?_⟩
  conv => whnf
  refine ⟨by unfold RgB; omega, ?_⟩
  have C1 := C.done
  have S1 := C.sm
  clear C M0
  refine for_rng (enc := fun (i : Nat) => D.int (0 + i)) (fun t δ G' => ∃ F o2 o3 o5 o6 o7 o8, δ = [some (.int n), some (.lst (rs.map rlD)), o2, o3, some (.ref pf), o5, o6, o7, o8] ∧ MS G pf n ra F G' ∧ Cm n rs t F ∧ Att rs n t F) n ?_ ?_ _ _
    ⟨F, _, _, _, _, _, _, rfl, M, C1, S1⟩
  · rintro δ G' ⟨F, o2, o3, o5, o6, o7, o8, rfl, M, C, S⟩
    refine ⟨trivial, ?_⟩
    conv => whnf
    refine ⟨[none, none, none, none, some (.lst (tab n fun k => .lst (tab n fun j => encF (F k j)))), none, none, none, none], G, View.tree (fun a => G a = none) (fun a e => e) (fun a o e => .inl (M.keep a o e))
      (.cons (.no _) (.cons (.no _) (.cons (.no _) (.cons (.no _) (.cons (.so (.ref M.opf M.at_ ?_)) (.cons (.no _) (.cons (.no _) (.cons (.no _) (.cons (.no _) .nil))))))))), hB F ⟨C.done, S⟩⟩
    have : ∀ i, i ≤ n → Trees G' (fun a => G a = none) (tab i fun k => .ref (ra k)) (tab i fun k => .lst (tab n fun j => encF (F k j))) := by
      intro i
      induction i with
      | zero => intro _; exact .nil
      | succ i ih =>
        intro hi
        rw [tab_succ, tab_succ]
        exact (ih (by omega)).append (.cons (.ref (M.ora i (by omega)) (M.rows i (by omega)) (.same _)) .nil)
    exact this n (Nat.le_refl _)
  · rintro t ht δ G' ⟨F, o2, o3, o5, o6, o7, o8, rfl, M, C, S⟩
    refine ⟨trivial, _, rfl, fun N hN => ?_⟩
    have htt := C.dg t ht
    -- the table while mid is gone through
    let Mx : Nat → Nat → Fm := fun k j k' j' => if k' < k ∨ (k' = k ∧ j' < j) then gm F t k' j' else F k' j'
    have Mcol : ∀ k j k', Mx k j k' t = F k' t := fun k j k' => by
      show (if _ then _ else _) = _
      split
      · exact gm_col htt
      · rfl
    have Mrow : ∀ k j j', Mx k j t j' = F t j' := fun k j j' => by
      show (if _ then _ else _) = _
      split
      · exact gm_row htt
      · rfl
    have Mat : ∀ k j, Mx k j k j = F k j := fun k j => by
      show (if _ then _ else _) = _
      rw [if_neg (by omega)]
    have Mset : ∀ k j k' j', Mx k (j + 1) k' j' = if k' = k ∧ j' = j then gm F t k j else Mx k j k' j' := fun k j k' j' => by
      by_cases q : k' = k ∧ j' = j
      · rw [if_pos q]
        show (if _ then _ else _) = _
        rw [if_pos (by omega), q.1, q.2]
      · rw [if_neg q]
        show (if _ then _ else _) = (if _ then _ else _)
        by_cases q2 : k' < k ∨ (k' = k ∧ j' < j)
        · rw [if_pos (by omega), if_pos q2]
        · rw [if_neg (by omega), if_neg q2]
    have Mend : ∀ k k' j', j' < n → Mx k n k' j' = Mx (k + 1) 0 k' j' := fun k k' j' hj => by
      show (if _ then _ else _) = (if _ then _ else _)
      by_cases q2 : k' < k ∨ (k' = k ∧ j' < n)
      · rw [if_pos q2, if_pos (by omega)]
      · rw [if_neg q2, if_neg (by omega)]
    conv => whnf
    refine ⟨by unfold RgB; omega, ?_⟩
    refine for_rng (enc := fun (i : Nat) => D.int (0 + i)) (fun k δ G' => ∃ o2 o3, δ = [some (.int n), some (.lst (rs.map rlD)), o2, o3, some (.ref pf), o5, o6, o7, some (.int (0 + t))] ∧ MS G pf n ra (Mx k 0) G') n ?_ ?_ _ _
      ⟨_, _, rfl, M.congr fun k' j' _ _ => by show _ = (if _ then _ else _); rw [if_neg (by omega)]⟩
    rotate_left
    · rintro k hk δ G' ⟨o2, o3, rfl, M⟩
      refine ⟨trivial, _, rfl, fun N2 hN2 => ?_⟩
      have gl := lsOf_ref M.at_
      have gr' := lsOf_ref (M.rows k hk)
      conv => whnf
      rw [gl]
      refine tab_at0 (f := fun k => D.ref (ra k)) hk ?_
      conv => whnf
      rw [gr']
      refine tab_at0 (f := fun j => encF (Mx k 0 k j)) ht ?_
      rw [Mcol]
      cases hkt : F k t with
      | none =>
        conv => whnf
        refine ⟨fun e => ft e, fun _ => ?_⟩
        conv => whnf
        refine hN2 _ _ ⟨_, _, rfl, M.congr fun k' j' hk' hj' => ?_⟩
        rw [← Mend k k' j' hj']
        show (if _ then _ else _) = (if _ then _ else _)
        by_cases q2 : k' < k ∨ (k' = k ∧ j' < 0)
        · rw [if_pos q2, if_pos (by omega)]
        · rw [if_neg q2]
          by_cases q3 : k' < k ∨ (k' = k ∧ j' < n)
          · rw [if_pos q3]
            have : k' = k := by omega
            subst this
            rw [gm_n1 hkt]
          · rw [if_neg q3]
      | some a =>
        conv => whnf
        refine ⟨fun _ => ?_, fun e => tf e⟩
        conv => whnf
        refine ⟨by unfold RgB; omega, ?_⟩
        refine for_rng (enc := fun (i : Nat) => D.int (0 + i)) (fun j δ G' => ∃ o3, δ = [some (.int n), some (.lst (rs.map rlD)), some (.int (0 + k)), o3, some (.ref pf), o5, o6, o7, some (.int (0 + t))] ∧ MS G pf n ra (Mx k j) G') n ?_ ?_ _ _ ⟨_, rfl, M⟩
        · rintro δ G' ⟨o3, rfl, M⟩
          exact ⟨trivial, hN2 _ _ ⟨_, _, rfl, M.congr fun k' j' _ hj' => Mend k k' j' hj'⟩⟩
        · rintro j hj δ G' ⟨o3, rfl, M⟩
          refine ⟨trivial, _, rfl, fun N3 hN3 => ?_⟩
          have gl := lsOf_ref M.at_
          have grk := lsOf_ref (M.rows k hk)
          have grt := lsOf_ref (M.rows t ht)
          conv => whnf
          rw [gl]
          refine tab_at0 (f := fun k => D.ref (ra k)) ht ?_
          conv => whnf
          rw [grt]
          refine tab_at0 (f := fun j' => encF (Mx k j t j')) hj ?_
          rw [Mrow]
          cases htj : F t j with
          | none =>
            conv => whnf
            refine ⟨fun e => ft e, fun _ => ?_⟩
            conv => whnf
            refine ⟨fun e => ft e, fun _ => ?_⟩
            conv => whnf
            refine hN3 _ _ ⟨_, rfl, M.congr fun k' j' _ _ => ?_⟩
            rw [Mset]
            split
            · next q => rw [q.1, q.2, Mat, gm_n2 htj]
            · rfl
          | some b =>
            have hgm := gm_some hkt htj
            conv => whnf
            refine ⟨fun _ => ?_, fun e => tf e⟩
            conv => whnf
            rw [gl]
            refine tab_at0 (f := fun k => D.ref (ra k)) hk ?_
            conv => whnf
            rw [grk]
            refine tab_at0 (f := fun j' => encF (Mx k j k j')) hj ?_
            rw [Mat]
            cases hkj : F k j with
            | none =>
              rw [hkj] at hgm
              conv => whnf
              refine ⟨fun _ => ?_, fun e => tf e⟩
              conv => whnf
              refine ⟨fun _ => ?_, fun e => tf e⟩
              conv => whnf
              rw [gl]
              refine tab_at0 (f := fun k => D.ref (ra k)) hk ?_
              conv => whnf
              rw [grk]
              refine tab_at0 (f := fun j' => encF (Mx k j k j')) ht ?_
              rw [Mcol, hkt]
              conv => whnf
              rw [gl]
              refine tab_at0 (f := fun k => D.ref (ra k)) ht ?_
              conv => whnf
              rw [grt]
              refine tab_at0 (f := fun j' => encF (Mx k j t j')) hj ?_
              rw [Mrow, htj]
              conv => whnf
              rw [gl]
              refine tab_at0 (f := fun k => D.ref (ra k)) hk ?_
              conv => whnf
              rw [M.rows k hk]
              conv => whnf
              rw [tab_len, ixN_nat0 hj]
              conv => whnf
              refine hN3 _ _ ⟨_, rfl, M.set hk hj fun k' j' _ _ => ?_⟩
              rw [Mset, hgm]
            | some c =>
              rw [hkj] at hgm
              conv => whnf
              refine ⟨fun e => ft e, fun _ => ?_⟩
              conv => whnf
              rw [gl]
              refine tab_at0 (f := fun k => D.ref (ra k)) hk ?_
              conv => whnf
              rw [grk]
              refine tab_at0 (f := fun j' => encF (Mx k j k j')) hj ?_
              rw [Mat, hkj]
              conv => whnf
              rw [gl]
              refine tab_at0 (f := fun k => D.ref (ra k)) hk ?_
              conv => whnf
              rw [grk]
              refine tab_at0 (f := fun j' => encF (Mx k j k j')) ht ?_
              rw [Mcol, hkt]
              conv => whnf
              rw [gl]
              refine tab_at0 (f := fun k => D.ref (ra k)) ht ?_
              conv => whnf
              rw [grt]
              refine tab_at0 (f := fun j' => encF (Mx k j t j')) hj ?_
              rw [Mrow, htj]
              conv => whnf
              refine ⟨fun e2 => ?_, fun e2 => ?_⟩
              · have e2 : c < a + b := of_decide_eq_true e2
                simp only [if_pos e2] at hgm
                conv => whnf
                rw [gl]
                refine tab_at0 (f := fun k => D.ref (ra k)) hk ?_
                conv => whnf
                rw [grk]
                refine tab_at0 (f := fun j' => encF (Mx k j k j')) ht ?_
                rw [Mcol, hkt]
                conv => whnf
                rw [gl]
                refine tab_at0 (f := fun k => D.ref (ra k)) ht ?_
                conv => whnf
                rw [grt]
                refine tab_at0 (f := fun j' => encF (Mx k j t j')) hj ?_
                rw [Mrow, htj]
                conv => whnf
                rw [gl]
                refine tab_at0 (f := fun k => D.ref (ra k)) hk ?_
                conv => whnf
                rw [M.rows k hk]
                conv => whnf
                rw [tab_len, ixN_nat0 hj]
                conv => whnf
                refine hN3 _ _ ⟨_, rfl, M.set hk hj fun k' j' _ _ => ?_⟩
                rw [Mset, hgm]
              · have e2 : ¬ c < a + b := of_decide_eq_false e2
                simp only [if_neg e2] at hgm
                conv => whnf
                refine hN3 _ _ ⟨_, rfl, M.congr fun k' j' _ _ => ?_⟩
                rw [Mset]
                split
                · next q => rw [q.1, q.2, Mat, hgm, hkj]
                · rfl
    rintro δ G' ⟨o2, o3, rfl, M⟩
    refine ⟨trivial, ?_⟩
    have M := M.congr (F' := gm F t) fun k' j' hk' hj' => by show (if _ then _ else _) = _; rw [if_pos (by omega)]
    conv => whnf
    refine ⟨by unfold RgB; omega, ?_⟩
    have hdg : ∀ k, k < n → ∃ c, gm F t k k = some c := fun k hk => by
      obtain ⟨c, e, _⟩ := gm_ge (t := t) (C.dg k hk)
      exact ⟨c, e⟩
    have gl := lsOf_ref M.at_
    refine lc_map (enc := fun (k : Nat) => D.int (0 + k)) (keep := fun k => decide (0 < (gm F t k k).getD 0)) (f := fun (k : Nat) => D.int ((0 : Int) + k)) (smallL (by rw [List.length_range]; omega)) trivial (fun k hk R hR => ?_) (fun _ _ _ R hR => hR) ?_
    · have hk := List.mem_range.mp hk
      obtain ⟨c, hc⟩ := hdg k hk
      have grk := lsOf_ref (M.rows k hk)
      conv => whnf
      rw [gl]
      refine tab_at0 (f := fun k => D.ref (ra k)) hk ?_
      conv => whnf
      rw [grk]
      refine tab_at0 (f := fun j' => encF (gm F t k j')) hk ?_
      rw [hc]
      conv => whnf
      rw [hc] at hR
      exact hR
    conv => whnf
    refine ⟨smallL (by simp), ?_⟩
    have em : ((List.range n).filter (fun k => decide (0 < (gm F t k k).getD 0))).map (fun (k : Nat) => D.int ((0 : Int) + k)) = (((List.range n).filter (fun k => decide (0 < (gm F t k k).getD 0))).map fun (k : Nat) => ((0 : Int) + k)).map .int := by rw [List.map_map]; rfl
    have dd : DDs G' (((List.range n).filter (fun k => decide (0 < (gm F t k k).getD 0))).map (fun (k : Nat) => D.int ((0 : Int) + k))) ((((List.range n).filter (fun k => decide (0 < (gm F t k k).getD 0))).map fun (k : Nat) => ((0 : Int) + k)).map .int) := by
      rw [em]; exact .ints _
    refine ne_nilL dd (.ints _) ?_
    rw [isEmpty_map]
    conv => whnf
    refine ⟨fun e => ?_, fun e => ?_⟩
    · have e : (!((List.range n).filter (fun k => decide (0 < (gm F t k k).getD 0))).isEmpty) = true := e
      have hne : (List.range n).filter (fun k => decide (0 < (gm F t k k).getD 0)) ≠ [] := fun q => by rw [q] at e; exact ft e
      obtain ⟨k, hk⟩ := List.exists_mem_of_ne_nil _ hne
      rw [List.mem_filter] at hk
      have hkn := List.mem_range.mp hk.1
      have hpos := of_decide_eq_true hk.2
      obtain ⟨c, hc⟩ := hdg k hkn
      rw [hc] at hpos
      have hpos : 0 < c := hpos
      conv => whnf
      refine ⟨_, G, View.tree (fun a => G a = none) (fun a e => e) (fun a o e => .inl (M.keep a o e)) (TreeSt.same _), ?_⟩
      refine hA fun pot hp => ?_
      have := ((S.step ht).ch k k c hkn hkn hc).pot hp
      omega
    · have e : (!((List.range n).filter (fun k => decide (0 < (gm F t k k).getD 0))).isEmpty) = false := e
      have hnil : (List.range n).filter (fun k => decide (0 < (gm F t k k).getD 0)) = [] := by
        cases q : (List.range n).filter (fun k => decide (0 < (gm F t k k).getD 0)) with
        | nil => rfl
        | cons _ _ => rw [q] at e; exact tf e
      rw [List.filter_eq_nil_iff] at hnil
      conv => whnf
      refine hN _ _ ⟨gm F t, _, _, _, _, _, _, rfl, M, C.step ht fun k hk c hc => ?_, S.step ht⟩
      have := hnil k (List.mem_range.mpr hk)
      rw [decide_eq_true_iff, hc] at this
      exact this
end FIT
set_option linter.all false
set_option maxRecDepth 100000
set_option maxHeartbeats 1000000
namespace FIT
open PySem PySem.Spec L2 DL
/-- data, in every heap -/
def Dat (d : D) : Prop := ∀ G : GHp, ∃ p, DD G d p ∧ Shp 60 p
theorem Dat.list {G : GHp} : ∀ {ds : List D}, (∀ d ∈ ds, Dat d) → ∃ ps, DDs G ds ps ∧ Shps 63 ps
  | [], _ => ⟨[], .nil, .nil⟩
  | d :: r, h => by
    obtain ⟨p, h1, h2⟩ := h d List.mem_cons_self G
    obtain ⟨ps, h3, h4⟩ := Dat.list (G := G) (ds := r) fun e he => h e (List.mem_cons_of_mem _ he)
    exact ⟨p :: ps, .cons h1 h3, .cons ⟨h2.1, by have := h2.2; omega⟩ h4⟩
theorem Dat.int (i : Int) : Dat (.int i) := fun G => ⟨_, .int i, .int i⟩
theorem Dat.rl (r : Rl) : Dat (rlD r) := fun G => ⟨_, .tup (.cons (.int _) (.cons (.int _) (.cons (.int _) .nil))), (Shps.cons (.int _) (.cons (.int _) (.cons (.int _) .nil)) : Shps 59 _).tuple⟩
theorem pop_perm {α : Type} : ∀ {L : List α} {i : Nat} (h : i < L.length), (L[i] :: L.eraseIdx i).Perm L
  | a :: t, 0, _ => .refl _
  | a :: t, i + 1, h => by
    have h' : i < t.length := by simpa using h
    have ih := pop_perm h'
    show (t[i] :: a :: t.eraseIdx i).Perm (a :: t)
    exact (List.Perm.swap _ _ _).trans (List.Perm.cons a ih)
structure M3 (G0 : GHp) (p pl pf : Addr) (k : Nat) (L Fd : List D) (G : GHp) : Prop where
  bx : ∃ s : Bx, G p = some s.go ∧ s.Ok k
  l : G pl = some (.lst L)
  f : G pf = some (.lst Fd)
  keep : ∀ b, b ≠ p → b ≠ pl → b ≠ pf → G b = G0 b
def pr_mixed (x y : D) (G : GHp) (Q : DK) : Prop := ∃ (G0 : GHp) (p : Addr) (k : Nat) (ds : List D), x = .ref p ∧ Bk G0 p k G ∧ k ≤ 100000 ∧ y = .lst ds ∧ ds.length ≤ 200 ∧ (∀ d ∈ ds, Dat d) ∧ ∀ es G', es.Perm ds → Bk G0 p (k + 200) G' → Q (.lst es) G'
def sp_law_mixed : DSp := sp2 fun x y G Q _ => pr_mixed x y G Q
theorem rd_law_mixed {K : PySem.W.Frag} : ∀ x y G Q (E : DXK), pr_mixed x y G Q → DRun (t_law_mixed K spTake) [some x, some y, none, none] G Q := by
  intro x y G Q E h
  have key : ∀ sp : DSp, (∀ ds G Q E, spTake ds G Q E → sp ds G Q E) → DRun (t_law_mixed K sp) [some x, some y, none, none] G Q := by
    intro sp hsp
    obtain ⟨G0, p, k, ds, rfl, B, hk, rfl, hdl, hdat, h⟩ := h
    conv => whnf
    intro pl hpl
    have hlp : pl ≠ p := B.ne hpl
    have hl0 : G0 pl = none := by rw [← B.2 pl hlp]; exact hpl
    conv => whnf
    refine ⟨smallL (by simp), fun pf hpf => ?_⟩
    obtain ⟨hfl, hpf⟩ := gupd_none hpf
    have hfp : pf ≠ p := B.ne hpf
    have hf0 : G0 pf = none := by rw [← B.2 pf hfp]; exact hpf
    conv => whnf
    refine while_ind (fun m δ G' => ∃ L Fd, m = L.length ∧ (Fd ++ L).Perm ds ∧ δ = [some (.ref p), some (.lst ds), some (.ref pl), some (.ref pf)] ∧ M3 G0 p pl pf (k + Fd.length) L Fd G') ds.length
      ⟨ds, [], rfl, .refl _, rfl, ?_⟩ ?_
    · obtain ⟨⟨s, h1, h2⟩, h3⟩ := B
      exact ⟨⟨s, gupd_at hfp.symm (gupd_at hlp.symm h1), h2⟩, gupd_at hfl.symm gupd_same, gupd_same, fun b e1 e2 e3 => by rw [gupd_ne e3, gupd_ne e2]; exact h3 b e1⟩
    · rintro m δ G' ⟨L, Fd, rfl, hp, rfl, M⟩ N hN
      have hlen := hp.length_eq
      rw [List.length_append] at hlen
      obtain ⟨ps, hps, hsh⟩ := Dat.list (G := G') (ds := L) fun d hd => hdat d (hp.mem_iff.mp (List.mem_append_right _ hd))
      conv => whnf
      refine ⟨smallL (by simp), ?_⟩
      refine ne_nilR M.l hps hsh ?_
      conv => whnf
      refine ⟨fun e => ?_, fun e => ?_⟩
      · have hne : L ≠ [] := fun q => by rw [q] at e; exact ft e
        have hpos : 0 < L.length := List.length_pos_iff.mpr hne
        conv => whnf
        rw [lsOf_ref M.f]
        conv => whnf
        rw [lsOf_ref M.l]
        conv => whnf
        rw [lsOf_ref M.l]
        conv => whnf
        have B1 : Bk G' p (k + Fd.length) G' := ⟨M.bx, fun _ _ => rfl⟩
        refine tk hsp B1 (by omega) (by omega) (by omega) fun v G2 v0 v1 B2 => ?_
        have hl2 : G2 pl = some (.lst L) := (B2.2 pl hlp).trans M.l
        have hf2 : G2 pf = some (.lst Fd) := (B2.2 pf hfp).trans M.f
        obtain ⟨i, rfl⟩ := Int.eq_ofNat_of_zero_le v0
        have hi : i < L.length := by omega
        conv => whnf
        rw [hl2]
        conv => whnf
        rw [ixN_nat hi]
        conv => whnf
        rw [List.getElem?_eq_getElem hi]
        conv => whnf
        refine ⟨by omega, by omega, ?_⟩
        conv => whnf
        rw [gupd_at hfl hf2]
        conv => whnf
        refine ⟨smallLt (by omega), ?_⟩
        conv => whnf
        have hpe : ((Fd ++ [L[i]]) ++ L.eraseIdx i).Perm ds := by
          refine List.Perm.trans ?_ hp
          rw [List.append_assoc]
          exact List.Perm.append_left _ (pop_perm hi)
        refine hN (L.eraseIdx i).length _ _ (by rw [List.length_eraseIdx_of_lt hi]; omega) ⟨L.eraseIdx i, Fd ++ [L[i]], rfl, hpe, rfl, ?_, ?_, gupd_same, fun b e1 e2 e3 => ?_⟩
        · obtain ⟨⟨s, h1, h2⟩, _⟩ := B2
          refine ⟨s, gupd_at hfp.symm (gupd_at hlp.symm h1), h2.mono (by rw [List.length_append]; simp; omega)⟩
        · exact gupd_at hfl.symm gupd_same
        · rw [gupd_ne e3, gupd_ne e2, B2.2 b e1]; exact M.keep b e1 e2 e3
      · have hnil : L = [] := by
          cases L with
          | nil => rfl
          | cons _ _ => exact tf e
        subst hnil
        rw [List.append_nil] at hp
        obtain ⟨s, h1, h2⟩ := M.bx
        conv => whnf
        refine ⟨[none, none, none, some (.lst Fd)], gupd G0 p s.go, View.tree (fun a => a = pl ∨ a = pf) (fun a e => ?_) (fun a o e => .inl ?_) (.cons (.no _) (.cons (.no _) (.cons (.no _) (.cons (.so (.ref (.inr rfl) M.f (.same _))) .nil)))), ?_⟩
        · rcases e with rfl | rfl
          · rw [gupd_ne hlp]; exact hl0
          · rw [gupd_ne hfp]; exact hf0
        · by_cases q : a = p
          · subst q; rw [gupd_same] at e; rw [h1, e]
          · rw [gupd_ne q] at e
            rw [M.keep a q (fun z => by rw [z, hl0] at e; cases e) (fun z => by rw [z, hf0] at e; cases e)]; exact e
        · exact h Fd _ hp ⟨⟨s, gupd_same, h2.mono (by simp at hlen; omega)⟩, fun b hb => gupd_ne hb⟩
  exact key _ fun _ _ _ _ h => h
theorem perm_map {α β : Type} {f : α → β} : ∀ {es : List β} {l : List α}, es.Perm (l.map f) → ∃ l' : List α, es = l'.map f ∧ l'.Perm l
  | [], l, h => by
    have : l = [] := by
      have := h.length_eq
      simp at this
      exact List.length_eq_zero_iff.mp this.symm
    subst this
    exact ⟨[], rfl, .refl _⟩
  | e :: t, l, h => by
    have hm : e ∈ l.map f := h.mem_iff.mp List.mem_cons_self
    obtain ⟨a, ha, rfl⟩ := List.mem_map.mp hm
    obtain ⟨l1, l2, rfl⟩ := List.append_of_mem ha
    have h2 : (f a :: t).Perm (f a :: (l1 ++ l2).map f) := by
      refine h.trans ?_
      rw [List.map_append, List.map_cons, List.map_append]
      exact List.perm_middle
    obtain ⟨l', e1, e2⟩ := perm_map (List.Perm.cons_inv h2)
    exact ⟨a :: l', by rw [e1]; rfl, (List.Perm.cons a e2).trans List.perm_middle.symm⟩
end FIT
set_option linter.all false
set_option maxRecDepth 100000
set_option maxHeartbeats 1000000
namespace FIT
open PySem PySem.Spec L2 DL
theorem nat_at {α : Type} {f : α → D} {l : List α} {i : Nat} (h : i < l.length) {Q : D → Prop} (q : Q (f l[i])) : atD (l.map f) (0 + (i : Int)) Q := by
  rw [Int.zero_add]
  exact atD_nat (d := f l[i]) (by rw [List.getElem?_map, List.getElem?_eq_getElem h]; rfl) q
def pr_round (x y : D) (G : GHp) (Q : DK) : Prop := ∃ (G0 : GHp) (p : Addr) (k : Nat) (n : Nat), x = .ref p ∧ Bk G0 p k G ∧ k ≤ 90000 ∧ y = .int n ∧ 2 ≤ n ∧ n ≤ 24 ∧ ∀ rs G', Vr n rs → rs.length ≤ 5 → Bk G0 p (k + 300) G' → Q (.lst (rs.map rlD)) G'
def sp_law_round_rules : DSp := sp2 fun x y G Q _ => pr_round x y G Q
theorem rd_law_round_rules {K : PySem.W.Frag} : ∀ x y G Q (E : DXK), pr_round x y G Q → DRun (t_law_round_rules K sp_law_mixed spTake) [some x, some y, none, none, none] G Q := by
  intro x y G Q E h
  have key : ∀ sp : DSp, (∀ ds G Q E, spTake ds G Q E → sp ds G Q E) → DRun (t_law_round_rules K sp_law_mixed sp) [some x, some y, none, none, none] G Q := by
    intro sp hsp
    obtain ⟨G0, p, k, n, rfl, B, hk, rfl, n2, n24, h⟩ := h
    conv => whnf
    refine ⟨RgOk.of_le (by omega) (by omega) (by omega) (by omega), ?_⟩
    conv => whnf
    refine ⟨G0, p, k, rngD 0 (n : Int).toNat, rfl, B, by omega, rfl, by unfold rngD; rw [List.length_map, List.length_range]; omega, fun d hd => ?_, fun es G hp B => ?_⟩
    · obtain ⟨i, _, rfl⟩ := List.mem_map.mp hd
      exact .int _
    obtain ⟨ms, rfl, hms⟩ := perm_map hp
    have hmn : ms.length = n := by have := hms.length_eq; simp at this; exact this
    have hmd : ms.Nodup := (hms.nodup_iff).mpr List.nodup_range
    have hml : ∀ m ∈ ms, m < n := fun m hm => by have := hms.mem_iff.mp hm; simp at this; exact this
    conv => whnf
    refine tk hsp B (by omega) (by omega) (by omega) fun v G v0 v1 B => ?_
    obtain ⟨v, rfl⟩ := Int.eq_ofNat_of_zero_le v0
    have ec : cutD (ms.map fun (i : Nat) => D.int ((0 : Int) + i)) none (some (2 + (v : Int))) = (ms.take (2 + v)).map fun (i : Nat) => D.int ((0 : Int) + i) := by
      rw [show (2 : Int) + (v : Int) = ((2 + v : Nat) : Int) by omega, cut_take, List.map_take]
    conv => whnf
    rw [ec]
    have hmt : 2 ≤ (ms.take (2 + v)).length ∧ (ms.take (2 + v)).length ≤ 5 := by rw [List.length_take, hmn]; omega
    have hmd2 : (ms.take (2 + v)).Nodup := hmd.sublist (List.take_sublist _ _)
    have hml2 : ∀ m ∈ ms.take (2 + v), m < n := fun m hm => hml m (List.mem_of_mem_take hm)
    generalize ms.take (2 + v) = mt at hmt hmd2 hml2 ⊢
    clear ec
    have hL : (mt.map fun (i : Nat) => D.int ((0 : Int) + i)).length = mt.length := List.length_map ..
    rw [hL]
    refine ⟨by unfold RgB; omega, ?_⟩
    conv => whnf
    have el : (((mt.length : Nat) : Int) - 1).toNat = mt.length - 1 := by omega
    rw [el]
    refine lc_rng (enc := fun (i : Nat) => D.int (0 + i)) (fun i acc G' => ∃ ws : List Int, acc = ws.map .int ∧ ws.length = i ∧ (∀ w ∈ ws, -40 ≤ w ∧ w ≤ 40) ∧ Bk G0 p (k + 200 + 1 + i) G') (mt.length - 1) ?_ ?_ [] G ⟨[], rfl, rfl, by simp, B⟩
    rotate_left
    · rintro i hi acc G ⟨ws, rfl, hwl, hw, B⟩
      refine ⟨trivial, _, rfl, fun N hN => ?_⟩
      conv => whnf
      refine ⟨fun _ => ?_, fun e => tf e⟩
      conv => whnf
      refine tk hsp B (by omega) (by omega) (by omega) fun v G v0 v1 B => ?_
      conv => whnf
      refine ⟨smallLt (by rw [List.length_map]; omega), hN _ _ ⟨ws ++ [v - 40], by rw [List.map_append]; rfl, by rw [List.length_append]; simp [hwl], fun w hm => ?_, B⟩⟩
      rcases List.mem_append.mp hm with hm | hm
      · exact hw w hm
      · simp at hm; omega
    rintro acc G ⟨ws, rfl, hwl, hw, B⟩
    refine ⟨trivial, fun q hq => ?_⟩
    have hqp : q ≠ p := B.ne hq
    have hq0 : G0 q = none := by rw [← B.2 q hqp]; exact hq
    have B := B.new (o := .lst (ws.map .int)) hqp
    conv => whnf
    rw [lsOf_ref gupd_same]
    conv => whnf
    refine tk hsp B (by omega) (by omega) (by omega) fun v2 G v0 v1 B => ?_
    have hqq := B.at_ hqp
    have hi : intsG G (.ref q) = some ws := by unfold intsG; rw [lsOf_ref hqq]; exact intsOf_map ws
    conv => whnf
    rw [hi]
    refine ⟨trivial, ?_⟩
    conv => whnf
    rw [hqq]
    conv => whnf
    refine ⟨smallLt (by rw [List.length_map]; omega), ?_⟩
    have hsum : ∀ l : List Int, (∀ w ∈ l, -40 ≤ w ∧ w ≤ 40) → -(40 * l.length : Int) ≤ l.sum ∧ l.sum ≤ 40 * l.length := by
      intro l
      induction l with
      | nil => intro _; simp
      | cons a t ih =>
        intro h
        have h1 := h a List.mem_cons_self
        have h2 := ih fun w hw => h w (List.mem_cons_of_mem _ hw)
        rw [List.sum_cons, List.length_cons]
        omega
    have hs := hsum ws hw
    obtain ⟨ap, hap⟩ : ∃ ap, ws ++ [v2 - 1 - ws.sum] = ap := ⟨_, rfl⟩
    have hapl : ap.length = mt.length := by rw [← hap, List.length_append]; simp; omega
    have hapb : ∀ w ∈ ap, -400 ≤ w ∧ w ≤ 400 := fun w hm => by
      rw [← hap] at hm
      rcases List.mem_append.mp hm with hm | hm
      · have := hw w hm; omega
      · simp at hm; omega
    have B := B.put (o' := .lst (ws.map .int ++ [.int (v2 - 1 - ws.sum)])) hqp
    have hat := B.at_ hqp
    obtain ⟨⟨s, hs1, hs2⟩, hs3⟩ := B
    conv => whnf
    refine ⟨[none, none, some (.lst (mt.map fun (i : Nat) => D.int ((0 : Int) + i))), some (.lst (ws.map .int ++ [.int (v2 - 1 - ws.sum)])), none], gupd G0 p s.go, View.tree (fun a => a = q) (fun a e => by rw [e, gupd_ne hqp]; exact hq0) (fun a o e => .inl ?_)
      (.cons (.no _) (.cons (.no _) (.cons (.so (.same _)) (.cons (.so (.ref rfl hat (.same _))) (.cons (.no _) .nil))))), ?_⟩
    · by_cases z : a = p
      · subst z; rw [gupd_same] at e; rw [hs1, e]
      · rw [gupd_ne z] at e
        rw [hs3 a z, gupd_ne fun z2 => by rw [z2, hq0] at e; cases e]; exact e
    rw [show ws.map D.int ++ [D.int (v2 - 1 - ws.sum)] = ap.map .int by rw [← hap, List.map_append]; rfl]
    have h := h
    conv => whnf
    rw [hL]
    refine ⟨by unfold RgB; omega, ?_⟩
    conv => whnf
    rw [Int.toNat_natCast]
    -- the rules
    let nx : Nat → Nat := fun i => (mt ++ mt.take 1)[i + 1]?.getD 0
    let rr : Nat → Rl := fun i => (mt[i]?.getD 0, nx i, ap[i]?.getD 0)
    have hnx : ∀ i, i < mt.length → (mt ++ mt.take 1)[i + 1]? = some (nx i) := fun i hi => by
      show _ = some ((mt ++ mt.take 1)[i + 1]?.getD 0)
      have : i + 1 < (mt ++ mt.take 1).length := by rw [List.length_append, List.length_take]; omega
      rw [List.getElem?_eq_getElem this]; rfl
    refine lc_map (enc := fun (i : Nat) => D.int (0 + i)) (keep := fun _ => true) (f := fun i => rlD (rr i)) (smallL (by rw [List.length_range]; omega)) trivial (fun _ _ R h => h) (fun i hi _ R hR => ?_) ?_
    · have hi := List.mem_range.mp hi
      conv => whnf
      refine nat_at (f := fun (i : Nat) => D.int ((0 : Int) + i)) hi ?_
      conv => whnf
      have ec1 : cutD (mt.map fun (i : Nat) => D.int ((0 : Int) + i)) none (some 1) = (mt.take 1).map fun (i : Nat) => D.int ((0 : Int) + i) := by
        rw [show (some (1 : Int)) = some ((1 : Nat) : Int) from rfl, cut_take, List.map_take]
      rw [ec1]
      refine ⟨smallL (by simp only [List.length_map, List.length_take]; omega), ?_⟩
      conv => whnf
      refine atD_get (d := .int ((0 : Int) + (nx i : Nat))) (by omega) (by simp only [List.length_append, List.length_map, List.length_take]; omega) (by
        rw [show ((0 : Int) + (i : Int) + 1).toNat = i + 1 by omega, ← List.map_append, List.getElem?_map, hnx i hi]; rfl) ?_
      conv => whnf
      refine nat_at (f := D.int) (l := ap) (by omega) ?_
      conv => whnf
      refine ⟨smallL (by simp), ?_⟩
      have er : D.tup [.int ((0 : Int) + (mt[i] : Nat)), .int ((0 : Int) + (nx i : Nat)), .int ap[i]] = rlD (rr i) := by
        show _ = D.tup [.int ((mt[i]?.getD 0 : Nat) : Int), .int (nx i : Nat), .int (ap[i]?.getD 0)]
        rw [Int.zero_add, Int.zero_add, List.getElem?_eq_getElem hi, List.getElem?_eq_getElem (show i < ap.length by omega)]
        rfl
      have hR : R (D.tup [.int ((0 : Int) + (mt[i] : Nat)), .int ((0 : Int) + (nx i : Nat)), .int ap[i]]) (gupd G0 p s.go) := by rw [er]; exact hR
      exact hR
    rw [filter_yes]
    have em : (List.range mt.length).map (fun i => rlD (rr i)) = ((List.range mt.length).map rr).map rlD := by rw [List.map_map]; rfl
    rw [em]
    refine h _ _ (fun r hr => ?_) (by rw [List.length_map, List.length_range]; omega) ⟨⟨s, gupd_same, hs2.mono (by omega)⟩, fun b hb => gupd_ne hb⟩
    obtain ⟨i, hi, rfl⟩ := List.mem_map.mp hr
    have hi := List.mem_range.mp hi
    have hpw := List.pairwise_iff_getElem.mp hmd2
    have e1 : (rr i).1 = mt[i] := by show mt[i]?.getD 0 = _; rw [List.getElem?_eq_getElem hi]; rfl
    have e3 : (rr i).2.2 ∈ ap := by
      show ap[i]?.getD 0 ∈ ap
      rw [List.getElem?_eq_getElem (show i < ap.length by omega)]
      exact List.getElem_mem _
    have e2 : ∃ (j : Nat) (hj : j < mt.length), j ≠ i ∧ (rr i).2.1 = mt[j] := by
      by_cases q : i + 1 < mt.length
      · refine ⟨i + 1, q, by omega, ?_⟩
        show (mt ++ mt.take 1)[i + 1]?.getD 0 = _
        rw [List.getElem?_append_left q, List.getElem?_eq_getElem q]; rfl
      · refine ⟨0, by omega, by omega, ?_⟩
        show (mt ++ mt.take 1)[i + 1]?.getD 0 = _
        rw [List.getElem?_append_right (by omega), show i + 1 - mt.length = 0 by omega, List.getElem?_take_of_lt (by omega), List.getElem?_eq_getElem (show 0 < mt.length by omega)]; rfl
    obtain ⟨j, hj, hne, e2⟩ := e2
    have hb := hapb _ e3
    refine ⟨?_, ?_, ?_, hb.1, hb.2⟩
    · rw [e1]; exact hml2 _ (List.getElem_mem hi)
    · rw [e2]; exact hml2 _ (List.getElem_mem hj)
    · rw [e1, e2]
      rcases Nat.lt_or_gt_of_ne hne with q | q
      · exact fun z => hpw j i hj hi q z.symm
      · exact hpw i j hi hj q
  exact key _ fun _ _ _ _ h => h
end FIT
set_option linter.all false
set_option maxRecDepth 100000
set_option maxHeartbeats 1000000
namespace FIT
open PySem PySem.Spec L2 DL
abbrev lsI (l : List Int) : D := .lst (l.map .int)
theorem at_intZ {cs : List Int} {z : Int} (h0 : 0 ≤ z) (h : z < cs.length) {Q : D → Prop} (q : Q (.int (gi cs z.toNat))) : atD (cs.map .int) z Q := by
  obtain ⟨i, rfl⟩ := Int.eq_ofNat_of_zero_le h0
  exact at_int (by omega) q
theorem gi_mem {cs : List Int} {i : Nat} (h : i < cs.length) : gi cs i ∈ cs := by
  unfold gi; rw [List.getElem?_eq_getElem h]; exact List.getElem_mem h
def pr_drawn (x y z : D) (G : GHp) (Q : DK) : Prop := ∃ (G0 : GHp) (p : Addr) (k n cnt : Nat), x = .ref p ∧ Bk G0 p k G ∧ k ≤ 1000 ∧ y = .int n ∧ 1 ≤ n ∧ n ≤ 24 ∧ z = .int cnt ∧ cnt ≤ 95 ∧
  ∀ (hid : List Int) (rs : List Rl) G', hid.length = n → (∀ h ∈ hid, -60 ≤ h ∧ h ≤ 60) → Vr n rs → rs.length ≤ cnt + 5 → Bk G0 p (k + 3000) G' → Q (.tup [lsI hid, .lst (rs.map rlD)]) G'
def sp_law_drawn_rules : DSp := sp3 fun x y z G Q _ => pr_drawn x y z G Q
theorem rd_law_drawn_rules {K : PySem.W.Frag} : ∀ x y z G Q (E : DXK), pr_drawn x y z G Q → DRun (t_law_drawn_rules K spTake sp_law_round_rules sp_law_mixed) [some x, some y, some z, none, none, none, none, none, none, none] G Q := by
  intro x y z G Q E h
  have key : ∀ sp : DSp, (∀ ds G Q E, spTake ds G Q E → sp ds G Q E) → DRun (t_law_drawn_rules K sp sp_law_round_rules sp_law_mixed) [some x, some y, some z, none, none, none, none, none, none, none] G Q := by
    intro sp hsp
    obtain ⟨G0, p, k, n, cnt, rfl, B, hk, rfl, n1, n24, rfl, hcnt, h⟩ := h
    conv => whnf
    refine ⟨by unfold RgB; omega, ?_⟩
    conv => whnf
    rw [Int.toNat_natCast]
    refine lc_rng (enc := fun (i : Nat) => D.int (0 + i)) (fun i acc G' => ∃ hid : List Int, acc = hid.map .int ∧ hid.length = i ∧ (∀ w ∈ hid, -60 ≤ w ∧ w ≤ 60) ∧ Bk G0 p (k + i) G') n ?_ ?_ [] G ⟨[], rfl, rfl, by simp, B⟩
    rotate_left
    · rintro i hi acc G ⟨hid, rfl, hl, hw, B⟩
      refine ⟨trivial, _, rfl, fun N hN => ?_⟩
      conv => whnf
      refine ⟨fun _ => ?_, fun e => tf e⟩
      conv => whnf
      refine tk hsp B (by omega) (by omega) (by omega) fun v G v0 v1 B => ?_
      conv => whnf
      refine ⟨smallLt (by rw [List.length_map]; omega), hN _ _ ⟨hid ++ [v - 60], by rw [List.map_append]; rfl, by rw [List.length_append]; simp [hl], fun w hm => ?_, B⟩⟩
      rcases List.mem_append.mp hm with hm | hm
      · exact hw w hm
      · simp at hm; omega
    rintro acc G ⟨hid, rfl, hl, hw, B⟩
    refine ⟨trivial, ?_⟩
    conv => whnf
    refine ⟨smallL (by simp), fun q hq => ?_⟩
    have hqp : q ≠ p := B.ne hq
    have hq0 : G0 q = none := by rw [← B.2 q hqp]; exact hq
    have B := B.new (o := .lst []) hqp
    have fin : ∀ (a : Addr) (rs : List Rl) (G' : GHp) (k' : Nat) (o3 o6 o7 o8 o9 : Option D), G' a = some (.lst (rs.map rlD)) → G0 a = none → a ≠ p → (∃ s : Bx, G' p = some s.go ∧ s.Ok k') → k' ≤ k + 2000 → (∀ b o, G0 b = some o → b ≠ p → G' b = some o) → Vr n rs → rs.length ≤ cnt + 5 →
        (dGhost K (dRet (dTup (dCons (dVar 4) (dCons (dCall sp_law_mixed [] (dCons (dVar 0) (dCons (dVar 5) dNil))) dNil))))) { nx := fun _ G' => Q .non G', rt := Q } [some (.ref p), some (.int n), some (.int cnt), o3, some (lsI hid), some (.ref a), o6, o7, o8, o9] G' := by
      rintro a rs G' k' o3 o6 o7 o8 o9 ha ha0 hap ⟨s, hs1, hs2⟩ hk' hkeep hV hrl
      refine ⟨[some (.ref p), none, none, none, some (lsI hid), some (.lst (rs.map rlD)), none, none, none, none], gupd G0 p s.go, View.tree (fun b => b = a) (fun b e => by rw [e, gupd_ne hap]; exact ha0) (fun b o e => .inl ?_)
        (.cons (.so (.same _)) (.cons (.no _) (.cons (.no _) (.cons (.no _) (.cons (.so (.same _)) (.cons (.so (.ref rfl ha (.same _))) (.cons (.no _) (.cons (.no _) (.cons (.no _) (.cons (.no _) .nil)))))))))), ?_⟩
      · by_cases z : b = p
        · subst z; rw [gupd_same] at e; rw [hs1, e]
        · rw [gupd_ne z] at e; exact hkeep b o e z
      conv => whnf
      refine ⟨G0, p, k', rs.map rlD, rfl, ⟨⟨s, gupd_same, hs2⟩, fun b hb => gupd_ne hb⟩, by omega, rfl, by rw [List.length_map]; omega, fun d hd => ?_, fun es G2 hp B => ?_⟩
      · obtain ⟨r, _, rfl⟩ := List.mem_map.mp hd
        exact .rl r
      obtain ⟨rs', rfl, hp'⟩ := perm_map hp
      conv => whnf
      exact ⟨smallL (by simp), h hid rs' _ hl hw (fun r hr => hV r (hp'.mem_iff.mp hr)) (by rw [hp'.length_eq]; exact hrl) (B.mono (by omega))⟩
    conv => whnf
    refine ⟨fun e => ?_, fun e => ?_⟩
    · obtain ⟨⟨s, hs1, hs2⟩, hs3⟩ := B
      have hat : gupd G q (.lst []) q = some (.lst []) := gupd_same
      conv => whnf
      refine ⟨[none, none, none, none, some (lsI hid), some (.lst []), none, none, none, none], gupd G0 p s.go, View.tree (fun b => b = q) (fun b e => by rw [e, gupd_ne hqp]; exact hq0) (fun b o e => .inl ?_)
        (.cons (.no _) (.cons (.no _) (.cons (.no _) (.cons (.no _) (.cons (.so (.same _)) (.cons (.so (.ref rfl hat .nil)) (.cons (.no _) (.cons (.no _) (.cons (.no _) (.cons (.no _) .nil)))))))))), ?_⟩
      · by_cases z : b = p
        · subst z; rw [gupd_same] at e; rw [hs1, e]
        · rw [gupd_ne z] at e
          rw [hs3 b z, gupd_ne fun z2 => by rw [z2, hq0] at e; cases e]; exact e
      conv => whnf
      exact ⟨smallL (by simp), h hid [] _ hl hw (fun r hr => absurd hr (by simp)) (by simp) ⟨⟨s, gupd_same, hs2.mono (by omega)⟩, fun b hb => gupd_ne hb⟩⟩
    · have e : ¬ (n : Int) = 1 := of_decide_eq_false e
      have hn2 : 2 ≤ n := by omega
      conv => whnf
      refine tk hsp B (by omega) (by omega) (by omega) fun v G v0 v1 B => ?_
      conv => whnf
      refine ⟨by unfold RgB; omega, ?_⟩
      generalize decide (v = 0) = hard
      refine for_rng (enc := fun (i : Nat) => D.int (0 + i)) (fun i δ G' => ∃ rs o3 o7 o8 o9, δ = [some (.ref p), some (.int n), some (.int cnt), o3, some (lsI hid), some (.ref q), some (.bl hard), o7, o8, o9] ∧ rs.length = i ∧ Vr n rs ∧ Bk (gupd G0 q (.lst (rs.map rlD))) p (k + 100 + 8 * i) G') cnt ?_ ?_ _ _
        ⟨[], _, _, _, _, rfl, rfl, fun r hr => absurd hr (by simp), B.mono (by omega)⟩
      rotate_left
      · rintro i hi δ G ⟨rs, o3, o7, o8, o9, rfl, hrl, hV, B⟩
        refine ⟨trivial, _, rfl, fun N hN => ?_⟩
        conv => whnf
        refine tk hsp B (by omega) (by omega) (by omega) fun v1 G a0 a1 B => ?_
        conv => whnf
        refine tk hsp B (by omega) (by omega) (by omega) fun v2 G b0 b1 B => ?_
        conv => whnf
        refine ⟨by omega, ?_⟩
        have hm0 := Int.emod_nonneg (v1 + 1 + v2) (show (n : Int) ≠ 0 by omega)
        have hm1 := Int.emod_lt_of_pos (v1 + 1 + v2) (show (0 : Int) < n by omega)
        have hm2 : (v1 + 1 + v2) % (n : Int) ≠ v1 := by
          by_cases q : v1 + 1 + v2 < n
          · rw [Int.emod_eq_of_lt (by omega) q]; omega
          · rw [show v1 + 1 + v2 = (v1 + 1 + v2 - n) + n by omega, Int.add_emod_right, Int.emod_eq_of_lt (by omega) (by omega)]; omega
        conv => whnf
        refine tk hsp B (by omega) (by omega) (by omega) fun v3 G c0 c1 B => ?_
        conv => whnf
        refine tk hsp B (by omega) (by omega) (by omega) fun v4 G d0 d1 B => ?_
        conv => whnf
        refine ⟨smallL (by simp), ?_⟩
        conv => whnf
        refine tk hsp B (by omega) (by omega) (by omega) fun v5 G e0 e1 B => ?_
        conv => whnf
        refine atD_of (by omega) (by simpa using by omega) fun d hd => ?_
        have hd : ∃ f, d = .int f ∧ 0 ≤ f ∧ f ≤ 250 := by
          simp only [List.mem_cons, List.not_mem_nil, or_false] at hd
          rcases hd with rfl | rfl | rfl <;> exact ⟨_, rfl, by omega, by omega⟩
        obtain ⟨f, rfl, f0, f1⟩ := hd
        have put : ∀ (sl : Int) (G : GHp), -5 ≤ sl → sl ≤ 250 → Bk (gupd G0 q (.lst (rs.map rlD))) p (k + 100 + 8 * i + 8) G →
            N [some (.ref p), some (.int n), some (.int cnt), some (.int (0 + i)), some (lsI hid), some (.ref q), some (.bl hard), some (.int v1), some (.int ((v1 + 1 + v2) % (n : Int))), some (.int sl)] (gupd G q (.lst (rs.map rlD ++ [.tup [.int v1, .int ((v1 + 1 + v2) % (n : Int)), .int (gi hid ((v1 + 1 + v2) % (n : Int)).toNat - gi hid v1.toNat - sl)]]))) := fun sl G s0 s1 B => by
          have g1 := hw _ (gi_mem (cs := hid) (i := ((v1 + 1 + v2) % (n : Int)).toNat) (by omega))
          have g2 := hw _ (gi_mem (cs := hid) (i := v1.toNat) (by omega))
          have er : rs.map rlD ++ [.tup [.int v1, .int ((v1 + 1 + v2) % (n : Int)), .int (gi hid ((v1 + 1 + v2) % (n : Int)).toNat - gi hid v1.toNat - sl)]] = (rs ++ [(v1.toNat, ((v1 + 1 + v2) % (n : Int)).toNat, gi hid ((v1 + 1 + v2) % (n : Int)).toNat - gi hid v1.toNat - sl)]).map rlD := by
            rw [List.map_append]
            simp only [List.map_cons, List.map_nil, rlD]
            rw [Int.toNat_of_nonneg a0, Int.toNat_of_nonneg hm0]
          rw [er]
          refine hN _ _ ⟨rs ++ [(v1.toNat, ((v1 + 1 + v2) % (n : Int)).toNat, gi hid ((v1 + 1 + v2) % (n : Int)).toNat - gi hid v1.toNat - sl)], _, _, _, _, rfl, by simp [hrl], fun r hr => ?_, (B.put hqp).mono (by omega)⟩
          rcases List.mem_append.mp hr with hr | hr
          · exact hV r hr
          · simp at hr; subst hr
            refine ⟨?_, ?_, ?_, ?_, ?_⟩ <;> simp only <;> omega
        conv => whnf
        refine ⟨fun _ => ?_, fun _ => ?_⟩
        · conv => whnf
          refine tk hsp B (by omega) (by omega) (by omega) fun v6 G _ _ B => ?_
          conv => whnf
          refine ⟨fun _ => ?_, fun _ => ?_⟩
          · conv => whnf
            refine tk hsp B (by omega) (by omega) (by omega) fun v7 G h0 h1 B => ?_
            have hat := B.at_ hqp
            conv => whnf
            rw [lsOf_ref hat]
            conv => whnf
            refine at_intZ (cs := hid) hm0 (by omega) ?_
            conv => whnf
            refine at_intZ (cs := hid) a0 (by omega) ?_
            conv => whnf
            refine ⟨smallL (by simp), ?_⟩
            conv => whnf
            rw [hat]
            conv => whnf
            refine ⟨smallLt (by rw [List.length_map]; omega), ?_⟩
            conv => whnf
            exact put _ _ (by omega) (by omega) (B.mono (by omega))
          · conv => whnf
            have hat := B.at_ hqp
            conv => whnf
            rw [lsOf_ref hat]
            conv => whnf
            refine at_intZ (cs := hid) hm0 (by omega) ?_
            conv => whnf
            refine at_intZ (cs := hid) a0 (by omega) ?_
            conv => whnf
            refine ⟨smallL (by simp), ?_⟩
            conv => whnf
            rw [hat]
            conv => whnf
            refine ⟨smallLt (by rw [List.length_map]; omega), ?_⟩
            conv => whnf
            exact put _ _ (by omega) (by omega) (B.mono (by omega))
        · conv => whnf
          refine ⟨fun e => ft e, fun _ => ?_⟩
          have hat := B.at_ hqp
          conv => whnf
          rw [lsOf_ref hat]
          conv => whnf
          refine at_intZ (cs := hid) hm0 (by omega) ?_
          conv => whnf
          refine at_intZ (cs := hid) a0 (by omega) ?_
          conv => whnf
          refine ⟨smallL (by simp), ?_⟩
          conv => whnf
          rw [hat]
          conv => whnf
          refine ⟨smallLt (by rw [List.length_map]; omega), ?_⟩
          conv => whnf
          exact put _ _ (by omega) (by omega) (B.mono (by omega))
      rintro δ G ⟨rs, o3, o7, o8, o9, rfl, hrl, hV, B⟩
      refine ⟨trivial, ?_⟩
      conv => whnf
      refine tk hsp B (by omega) (by omega) (by omega) fun v1 G a0 a1 B => ?_
      conv => whnf
      have hk0 : ∀ (b : Addr) (o : GO), G0 b = some o → b ≠ p → G b = some o := fun b o e hb => by
        rw [B.2 b hb, gupd_ne fun z => by rw [z, hq0] at e; cases e]; exact e
      refine ⟨fun _ => ?_, fun _ => ?_⟩
      · have hat := B.at_ hqp
        conv => whnf
        refine ⟨gupd G0 q (.lst (rs.map rlD)), p, _, n, rfl, B, by omega, rfl, hn2, n24, fun rs5 G2 hV5 hl5 B2 => ?_⟩
        have hat2 := B2.at_ hqp
        conv => whnf
        rw [lsOf_ref hat2]
        conv => whnf
        refine ⟨smallL (by rw [List.length_map, List.length_map]; omega), fun q2 hq2 => ?_⟩
        have hq2p : q2 ≠ p := B2.ne hq2
        have hq2q : q2 ≠ q := fun z => by rw [z, hat2] at hq2; cases hq2
        have hq20 : G0 q2 = none := by
          have := B2.2 q2 hq2p
          rw [hq2, gupd_ne hq2q] at this
          exact this.symm
        obtain ⟨⟨s, hs1, hs2⟩, hs3⟩ := B2
        rw [← List.map_append]
        refine fin q2 (rs ++ rs5) _ _ _ _ _ _ _ gupd_same hq20 hq2p ⟨s, gupd_at hq2p.symm hs1, hs2⟩ (by omega) (fun b o e hb => ?_) (fun r hr => ?_) (by rw [List.length_append]; omega)
        · rw [gupd_ne (fun z => by rw [z, hq20] at e; cases e), hs3 b hb, gupd_ne (fun z => by rw [z, hq0] at e; cases e)]; exact e
        · rcases List.mem_append.mp hr with hr | hr
          · exact hV r hr
          · exact hV5 r hr
      · exact fin q rs G _ _ _ _ _ _ (B.at_ hqp) hq0 hqp B.1 (by omega) hk0 hV (by omega)
  exact key _ fun _ _ _ _ h => h
end FIT
set_option linter.all false
set_option maxRecDepth 100000
set_option maxHeartbeats 1000000
namespace K68
open PySem PySem.Spec L2 DL
open FIT NUM Rat
/-! the plain law: the least movement -/
theorem cI (a b : Int) : ((a * b : Int) : Rat) = (a : Rat) * (b : Rat) := Rat.intCast_mul a b
theorem aI (a b : Int) : ((a + b : Int) : Rat) = (a : Rat) + (b : Rat) := Rat.intCast_add a b
def mid (x : Rat) (a : Int) (y : Rat) : Int := ((x + y - ((64 * a : Int) : Rat)) / 128).floor
def need (x : Rat) (a : Int) (y : Rat) (c : Int) : Rat := rmax (x - ((64 * c : Int) : Rat)) (((64 * (c + a) : Int) : Rat) - y)
def blw (x : Rat) (a : Int) (y : Rat) : Rat := x - ((64 * mid x a y : Int) : Rat)
def abv (x : Rat) (a : Int) (y : Rat) : Rat := ((64 * (mid x a y + 1 + a) : Int) : Rat) - y
def nd (x : Rat) (a : Int) (y : Rat) : Rat := if abv x a y < blw x a y then abv x a y else blw x a y
theorem rmax_ge (x y : Rat) : x ≤ rmax x y ∧ y ≤ rmax x y := by unfold rmax; split <;> constructor <;> grind
theorem rmax_or (x y : Rat) : rmax x y = x ∨ rmax x y = y := by unfold rmax; split <;> simp
theorem i64 (c : Int) : ((64 * c : Int) : Rat) = 64 * (c : Rat) := by rw [cI]; rfl
theorem mid_le (x : Rat) (a : Int) (y : Rat) : 128 * (mid x a y : Rat) ≤ x + y - 64 * (a : Rat) := by
  have h : ((mid x a y : Int) : Rat) ≤ (x + y - ((64 * a : Int) : Rat)) / 128 := Rat.le_floor_iff.mp (Int.le_refl _)
  rw [i64] at h
  grind
theorem mid_lt (x : Rat) (a : Int) (y : Rat) : x + y - 64 * (a : Rat) < 128 * ((mid x a y : Rat) + 1) := by
  have h : (x + y - ((64 * a : Int) : Rat)) / 128 < ((mid x a y + 1 : Int) : Rat) := Rat.floor_lt_iff.mp (Int.lt_succ _)
  rw [i64, aI] at h
  have : ((1 : Int) : Rat) = 1 := rfl
  rw [this] at h
  grind
theorem blw_eq (x : Rat) (a : Int) (y : Rat) : blw x a y = x - 64 * (mid x a y : Rat) := by unfold blw; rw [i64]
theorem abv_eq (x : Rat) (a : Int) (y : Rat) : abv x a y = 64 * ((mid x a y : Rat) + 1 + (a : Rat)) - y := by
  unfold abv; rw [i64, aI, aI]; rfl
theorem need_eq (x : Rat) (a : Int) (y : Rat) (c : Int) : need x a y c = rmax (x - 64 * (c : Rat)) (64 * ((c : Rat) + (a : Rat)) - y) := by
  unfold need; rw [i64, i64, aI]
theorem nd_le_b (x : Rat) (a : Int) (y : Rat) : nd x a y ≤ blw x a y := by unfold nd; split <;> grind
theorem nd_le_a (x : Rat) (a : Int) (y : Rat) : nd x a y ≤ abv x a y := by unfold nd; split <;> grind
theorem cast_le {a b : Int} (h : a ≤ b) : (a : Rat) ≤ (b : Rat) := Rat.intCast_le_intCast.mpr h
/-- no cell does with less -/
theorem nd_le (x : Rat) (a : Int) (y : Rat) (c : Int) : nd x a y ≤ need x a y c := by
  rw [need_eq]
  obtain ⟨g1, g2⟩ := rmax_ge (x - 64 * (c : Rat)) (64 * ((c : Rat) + (a : Rat)) - y)
  by_cases h : c ≤ mid x a y
  · have h1 := cast_le h
    have h2 := nd_le_b x a y
    rw [blw_eq] at h2
    grind
  · have h1 := cast_le (show mid x a y + 1 ≤ c by omega)
    rw [aI] at h1
    have : ((1 : Int) : Rat) = 1 := rfl
    rw [this] at h1
    have h2 := nd_le_a x a y
    rw [abv_eq] at h2
    grind
/-- and some does with this -/
theorem nd_at (x : Rat) (a : Int) (y : Rat) : ∃ c : Int, x - 64 * (c : Rat) ≤ nd x a y ∧ 64 * ((c : Rat) + (a : Rat)) - y ≤ nd x a y := by
  have h1 := mid_le x a y
  have h2 := mid_lt x a y
  have hb := blw_eq x a y
  have ha := abv_eq x a y
  unfold nd
  split
  · next h =>
    refine ⟨mid x a y + 1, ?_, ?_⟩
    · rw [aI]
      have : ((1 : Int) : Rat) = 1 := rfl
      rw [this]; grind
    · rw [aI]
      have : ((1 : Int) : Rat) = 1 := rfl
      rw [this]; grind
  · next h =>
    exact ⟨mid x a y, by grind, by grind⟩
theorem nd_same (x : Rat) : 0 ≤ nd x 0 x := by
  have h1 := mid_le x 0 x
  have h2 := mid_lt x 0 x
  have hb := blw_eq x 0 x
  have ha := abv_eq x 0 x
  have : ((0 : Int) : Rat) = 0 := rfl
  rw [this] at h1 h2 ha
  unfold nd
  split <;> grind
/-- the law's four tries -/
theorem need_mid (x : Rat) (a : Int) (y : Rat) : need x a y (mid x a y) = blw x a y := by
  have h1 := mid_le x a y
  rw [need_eq, blw_eq]
  unfold rmax
  split <;> grind
theorem need_up (x : Rat) (a : Int) (y : Rat) : need x a y (mid x a y + 1) = abv x a y := by
  have h1 := mid_lt x a y
  rw [need_eq, abv_eq, aI]
  have : ((1 : Int) : Rat) = 1 := rfl
  rw [this]
  unfold rmax
  split <;> grind
theorem need_ahead (x : Rat) (a : Int) (y : Rat) : blw x a y < need x a y (mid x a y - 1) := by
  rw [need_eq, blw_eq]
  obtain ⟨g1, _⟩ := rmax_ge (x - 64 * ((mid x a y - 1 : Int) : Rat)) (64 * (((mid x a y - 1 : Int) : Rat) + (a : Rat)) - y)
  have e : ((mid x a y - 1 : Int) : Rat) = (mid x a y : Rat) - 1 := by
    rw [show mid x a y - 1 = mid x a y + (-1) by omega, aI]
    have : ((-1 : Int) : Rat) = -1 := rfl
    rw [this]; grind
  rw [e] at g1 ⊢
  grind
theorem need_behind (x : Rat) (a : Int) (y : Rat) : abv x a y < need x a y (mid x a y + 2) := by
  rw [need_eq, abv_eq, aI]
  have : ((2 : Int) : Rat) = 2 := rfl
  rw [this]
  obtain ⟨_, g2⟩ := rmax_ge (x - 64 * ((mid x a y : Rat) + 2)) (64 * ((mid x a y : Rat) + 2 + (a : Rat)) - y)
  grind
def rmin (x y : Rat) : Rat := if y < x then y else x
theorem tries (x : Rat) (a : Int) (y : Rat) : rmin (rmin (rmin (need x a y (mid x a y - 1)) (need x a y (mid x a y))) (need x a y (mid x a y + 1))) (need x a y (mid x a y + 2)) = nd x a y := by
  rw [need_mid, need_up]
  have h1 := need_ahead x a y
  have h2 := need_behind x a y
  unfold nd rmin
  split <;> split <;> split <;> grind
/-- the greatest of all that is needed -/
structure Mv (n : Nat) (F : Fm) (p : Nat → Rat) (M : Rat) : Prop where
  le : ∀ k j a, k < n → j < n → F k j = some a → nd (p k) a (p j) ≤ M
  at_ : ∃ k j a, k < n ∧ j < n ∧ F k j = some a ∧ M = nd (p k) a (p j)
theorem Mv.uniq {n : Nat} {F : Fm} {p : Nat → Rat} {M M' : Rat} (h : Mv n F p M) (h' : Mv n F p M') : M = M' := by
  obtain ⟨k, j, a, hk, hj, e, e2⟩ := h.at_
  obtain ⟨k', j', a', hk', hj', e', e2'⟩ := h'.at_
  have h1 := h'.le k j a hk hj e
  have h2 := h.le k' j' a' hk' hj' e'
  grind
theorem Mv.pos {n : Nat} {rs : List Rl} {F : Fm} {p : Nat → Rat} {M : Rat} (h : Mv n F p M) (hF : Cl n rs F) (hn : 0 < n) : 0 ≤ M := by
  have h1 := h.le 0 0 0 hn hn (hF.dg 0 hn)
  have h2 := nd_same (p 0)
  grind
/-- the least cell within the movement -/
def low (M x : Rat) : Int := 0 - ((M - x) / 64).floor
theorem low_ok (M x : Rat) : x - 64 * (low M x : Rat) ≤ M := by
  have h : ((((M - x) / 64).floor : Int) : Rat) ≤ (M - x) / 64 := Rat.le_floor_iff.mp (Int.le_refl _)
  have e : ((low M x : Int) : Rat) = -((((M - x) / 64).floor : Int) : Rat) := by
    unfold low
    rw [show 0 - ((M - x) / 64).floor = -((M - x) / 64).floor by omega, Rat.intCast_neg]
  rw [e]
  grind
theorem low_least {M x : Rat} {c : Int} (h : x - 64 * (c : Rat) ≤ M) : low M x ≤ c := by
  unfold low
  have : -c ≤ ((M - x) / 64).floor := by
    rw [Rat.le_floor_iff, Rat.intCast_neg]
    grind
  omega
def rabs (q : Rat) : Rat := if 0 ≤ q then q else -q
theorem rabs_le {q m : Rat} (h1 : q ≤ m) (h2 : -q ≤ m) : rabs q ≤ m := by unfold rabs; split <;> grind
theorem le_rabs (q : Rat) : q ≤ rabs q ∧ -q ≤ rabs q := by unfold rabs; split <;> constructor <;> grind
def gap (p : Nat → Rat) (c : Nat → Int) (k : Nat) : Rat := ((64 * c k : Int) : Rat) - p k
theorem gap_le {n : Nat} {rs : List Rl} {F : Fm} {p : Nat → Rat} {M : Rat} {c : Nat → Int} (h : Mv n F p M) (hF : Cl n rs F) (hc : LF n F (fun k => low M (p k)) c) {k : Nat} (hk : k < n) : rabs (gap p c k) ≤ M := by
  unfold gap
  rw [i64]
  refine rabs_le ?_ ?_
  · obtain ⟨j, a, hj, e, e2⟩ := (hc k hk).2
    have h1 := h.le j k a hj hk e
    obtain ⟨d, h2, h3⟩ := nd_at (p j) a (p k)
    have h4 : low M (p j) ≤ d := low_least (by grind)
    have h5 := cast_le h4
    have e3 : (c k : Rat) = (low M (p j) : Rat) + (a : Rat) := by rw [← aI, e2]
    rw [e3]
    grind
  · have h1 := (hc k hk).1 k 0 hk (hF.dg k hk)
    have h2 := low_ok M (p k)
    have h3 := cast_le (show low M (p k) ≤ c k by simpa using h1)
    grind
theorem gap_ge {n : Nat} {rs : List Rl} {F : Fm} {p : Nat → Rat} {M m : Rat} {l c : Nat → Int} (h : Mv n F p M) (hF : Cl n rs F) (hc : LF n F l c) (hm : ∀ k, k < n → rabs (gap p c k) ≤ m) : M ≤ m := by
  obtain ⟨k, j, a, hk, hj, e, e2⟩ := h.at_
  have h1 := nd_le (p k) a (p j) (c k)
  rw [need_eq] at h1
  have h2 := hm k hk
  have h3 := hm j hj
  have h4 := (le_rabs (gap p c k)).2
  have h5 := (le_rabs (gap p c j)).1
  have hcl : c k + a ≤ c j := by
    obtain ⟨i, b, hi, f1, f2⟩ := (hc k hk).2
    obtain ⟨d, f3, f4⟩ := hF.tri i k j b a hi hk hj f1 e
    have := (hc j hj).1 i d hi f3
    omega
  have h6 := cast_le hcl
  rw [aI] at h6
  unfold gap at h2 h3 h4 h5
  rw [i64] at h2 h3 h4 h5
  rcases rmax_or (p k - 64 * (c k : Rat)) (64 * ((c k : Rat) + (a : Rat)) - p j) with q | q
  · rw [q] at h1; grind
  · rw [q] at h1; grind
/-! sizes -/
/-- numerator and denominator below 10 ^ 20 -/
def Sh (q : Rat) : Prop := q.num.natAbs < 10 ^ 20 ∧ q.den < 10 ^ 20
theorem Sh.sz {q : Rat} (h : Sh q) : Sz 67 q := ⟨Nat.lt_trans h.1 (by decide), Nat.lt_trans h.2 (by decide)⟩
def SmF (n : Nat) (F : Fm) : Prop := ∀ k j a, F k j = some a → a.natAbs ≤ 400 * 2 ^ n
theorem szI {b : Nat} {i : Int} (h : i.natAbs < 2 ^ b) (hb : 0 < b) : Sz b (i : Rat) := .int h hb
theorem sz128 : Sz 8 (128 : Rat) := by
  have : (128 : Rat) = ((128 : Int) : Rat) := rfl
  rw [this]; exact .int (by decide) (by decide)
theorem sz64 : Sz 8 (64 : Rat) := by
  have : (64 : Rat) = ((64 : Int) : Rat) := rfl
  rw [this]; exact .int (by decide) (by decide)
theorem mid_sz {x y : Rat} {a : Int} (hx : Sh x) (hy : Sh y) (ha : a.natAbs < 2 ^ 40) : Sz 182 (x + y - ((64 * a : Int) : Rat)) ∧ Sz 190 ((x + y - ((64 * a : Int) : Rat)) / 128) ∧ (mid x a y).natAbs ≤ 2 ^ 190 := by
  have h1 : Sz 182 (x + y - ((64 * a : Int) : Rat)) := ((hx.sz.add hy.sz).sub (szI (b := 46) (by omega) (by decide))).mono (by decide)
  have h2 : Sz 190 ((x + y - ((64 * a : Int) : Rat)) / 128) := h1.div sz128 (by decide)
  exact ⟨h1, h2, h2.floor⟩
theorem blw_sz {x y : Rat} {a : Int} (hx : Sh x) (hy : Sh y) (ha : a.natAbs < 2 ^ 40) : Sz 280 (blw x a y) := by
  have h := (mid_sz hx hy ha).2.2
  exact (hx.sz.sub (szI (b := 200) (by omega) (by decide))).mono (by decide)
theorem abv_sz {x y : Rat} {a : Int} (hx : Sh x) (hy : Sh y) (ha : a.natAbs < 2 ^ 40) : Sz 280 (abv x a y) := by
  have h := (mid_sz hx hy ha).2.2
  exact ((szI (b := 200) (i := 64 * (mid x a y + 1 + a)) (by omega) (by decide)).sub hy.sz).mono (by decide)
theorem nd_sz {x y : Rat} {a : Int} (hx : Sh x) (hy : Sh y) (ha : a.natAbs < 2 ^ 40) : Sz 280 (nd x a y) := by
  unfold nd; split
  · exact abv_sz hx hy ha
  · exact blw_sz hx hy ha
end K68
set_option linter.all false
set_option maxRecDepth 100000
namespace K68
open PySem PySem.Spec L2 DL
/-! bodies, printed by gen.py -/
/-- _law_box: 0 cell -/
def t_law_box : DTS :=
  (dRet (dLstM (dCons (dCB (dR2 dMax2R) (dCons (dC (.int 0)) (dCons (dOp (dI0 fun i j => .int (i - j)) (dVar 0) (dOp (dI CPow fun i j => .int (i ^ j.toNat)) (dC (.int 10)) (dC (.int 18)))) dNil))) (dCons (dOp (dI (fun _ j => 0 < j) fun i j => .int (i % j)) (dCB (dR1 dIntR) (dCons (dVar 0) dNil)) (dC (.int 2147483587))) (dCons (dC (.int 0)) dNil)))))
/-- _law_cell: 0 script, 1 k -/
def t_law_cell : DTS :=
  (dSeq (dIf (dTestB (dOp (dCmpR (fun i j => decide (i < j)) (fun a b => decide (a < b))) (dVar 1) (dCB (dR1 dLenR) (dCons (dVar 0) dNil)))) (dRet (dOp dIxR (dVar 0) (dVar 1))) dNext)
  (dRet (dOp dAddR (dOp (dI MulOk fun i j => .int (i * j)) (dC (.int 8087)) (dVar 1)) (dC (.int 73)))))
/-- _law_take: 0 box, 1 many, 2 digit, 3 one, 4 other -/
def t_law_take : DTS :=
  (dSeq (dIf (dTestB (dOp (dCmpR (fun i j => decide (j < i)) (fun a b => decide (b < a))) (dOp dIxR (dVar 0) (dC (.int 0))) (dC (.int 0)))) (dSeq (dAsg (dOp (dI (fun _ j => 0 < j) fun i j => .int (i % j)) (dCB (dR1 dIntR) (dCons (dOp dIxR (dVar 0) (dC (.int 0))) dNil)) (dVar 1)) (.nm 2))
  (dSeq (dSub (dOp (dI CDivW fun i j => .int (i / j)) (dOp dIxR (dVar 0) (dC (.int 0))) (dVar 1)) (dVar 0) (dC (.int 0)))
  (dRet (dVar 2)))) dNext)
  (dSeq (dSub (dOp dAddR (dOp dIxR (dVar 0) (dC (.int 2))) (dC (.int 1))) (dVar 0) (dC (.int 2)))
  (dSeq (dAsg (dOp (dI (fun _ j => 0 < j) fun i j => .int (i % j)) (dCB (dR1 dIntR) (dCons (dOp (dI CPow fun i j => .int (i ^ j.toNat)) (dOp dAddR (dOp dAddR (dOp dIxR (dVar 0) (dC (.int 1))) (dOp (dI MulOk fun i j => .int (i * j)) (dC (.int 7001)) (dOp dIxR (dVar 0) (dC (.int 2))))) (dC (.int 37))) (dC (.int 5))) dNil)) (dC (.int 2147483647))) (.nm 3))
  (dSeq (dAsg (dOp (dI (fun _ j => 0 < j) fun i j => .int (i % j)) (dCB (dR1 dIntR) (dCons (dOp (dI CPow fun i j => .int (i ^ j.toNat)) (dOp dAddR (dOp (dI MulOk fun i j => .int (i * j)) (dOp dIxR (dVar 0) (dC (.int 1))) (dOp dIxR (dVar 0) (dC (.int 2)))) (dC (.int 65003))) (dC (.int 3))) dNil)) (dC (.int 2147483629))) (.nm 4))
  (dRet (dOp (dI (fun _ j => 0 < j) fun i j => .int (i % j)) (dOp (dI CDivW fun i j => .int (i / j)) (dOp dAddR (dOp (dI MulOk fun i j => .int (i * j)) (dVar 3) (dC (.int 2147483629))) (dVar 4)) (dC (.int 8))) (dVar 1)))))))
/-- _law_mixed: 0 box, 1 items, 2 left, 3 found -/
def t_law_mixed (K : PySem.W.Frag) (sp_law_take : DSp) : DTS :=
  (dSeq (dPar 2 3 (dCons (dCB (dR1 (dListR true)) (dCons (dVar 1) dNil)) (dCons (dLstM dNil) dNil)))
  (dSeq (dWhile (dTestB (dOp dNeQ (dVar 2) (dLst dNil))) (dDrop (dMtL dAppend (dVar 3) (dCons (dMtL dPop (dVar 2) (dCons (dCall sp_law_take [] (dCons (dVar 0) (dCons (dCB (dR1 dLenR) (dCons (dVar 2) dNil)) dNil))) dNil)) dNil))))
  (dGhost K (dRet (dVar 3)))))
/-- _law_round_rules: 0 box, 1 many, 2 marks, 3 apart, 4 k -/
def t_law_round_rules (K : PySem.W.Frag) (sp_law_mixed : DSp) (sp_law_take : DSp) : DTS :=
  (dSeq (dAsg (dSl (dSlR false) (dCall sp_law_mixed [] (dCons (dVar 0) (dCons (dListRg1 false (dVar 1)) dNil))) dNoPart (dPart (dOp dAddR (dC (.int 2)) (dCall sp_law_take [] (dCons (dVar 0) (dCons (dC (.int 4)) dNil)))))) (.nm 2))
  (dSeq (dAsg (dLc true (dRng1 (dOp (dI0 fun i j => .int (i - j)) (dCB (dR1 dLenR) (dCons (dVar 2) dNil)) (dC (.int 1)))) (.nm 4) dYes (dOp (dI0 fun i j => .int (i - j)) (dCall sp_law_take [] (dCons (dVar 0) (dCons (dC (.int 81)) dNil))) (dC (.int 40))) [4]) (.nm 3))
  (dSeq (dDrop (dMtL dAppend (dVar 3) (dCons (dOp (dI0 fun i j => .int (i - j)) (dOp (dI0 fun i j => .int (i - j)) (dCall sp_law_take [] (dCons (dVar 0) (dCons (dC (.int 4)) dNil))) (dC (.int 1))) (dCB (dR1 (dOnInts (fun _ => True) fun ns => .int ns.sum)) (dCons (dVar 3) dNil))) dNil)))
  (dGhost K (dRet (dLc false (dRng1 (dCB (dR1 dLenR) (dCons (dVar 2) dNil))) (.nm 4) dYes (dTup (dCons (dOp dIxR (dVar 2) (dVar 4)) (dCons (dOp dIxR (dOp dAddR (dVar 2) (dSl (dSlR false) (dVar 2) dNoPart (dPart (dC (.int 1))))) (dOp dAddR (dVar 4) (dC (.int 1)))) (dCons (dOp dIxR (dVar 3) (dVar 4)) dNil)))) [4]))))))
/-- _law_drawn_rules: 0 box, 1 many, 2 count, 3 k, 4 hidden, 5 rules, 6 harder, 7 low, 8 high, 9 slack -/
def t_law_drawn_rules (K : PySem.W.Frag) (sp_law_take : DSp) (sp_law_round_rules : DSp) (sp_law_mixed : DSp) : DTS :=
  (dSeq (dAsg (dLc false (dRng1 (dVar 1)) (.nm 3) dYes (dOp (dI0 fun i j => .int (i - j)) (dCall sp_law_take [] (dCons (dVar 0) (dCons (dC (.int 121)) dNil))) (dC (.int 60))) [3]) (.nm 4))
  (dSeq (dAsg (dLstM dNil) (.nm 5))
  (dSeq (dIf (dTestB (dOp dEqQ (dVar 1) (dC (.int 1)))) (dGhost K (dRet (dTup (dCons (dVar 4) (dCons (dVar 5) dNil))))) dNext)
  (dSeq (dAsg (dOp dEqQ (dCall sp_law_take [] (dCons (dVar 0) (dCons (dC (.int 4)) dNil))) (dC (.int 0))) (.nm 6))
  (dSeq (dFor (dRng1 (dVar 2)) (.nm 3) (dSeq (dAsg (dCall sp_law_take [] (dCons (dVar 0) (dCons (dVar 1) dNil))) (.nm 7))
  (dSeq (dAsg (dOp (dI (fun _ j => 0 < j) fun i j => .int (i % j)) (dCB (dR1 dIntR) (dCons (dOp dAddR (dOp dAddR (dVar 7) (dC (.int 1))) (dCall sp_law_take [] (dCons (dVar 0) (dCons (dOp (dI0 fun i j => .int (i - j)) (dVar 1) (dC (.int 1))) dNil)))) dNil)) (dVar 1)) (.nm 8))
  (dSeq (dAsg (dOp dIxR (dLst (dCons (dC (.int 0)) (dCons (dCall sp_law_take [] (dCons (dVar 0) (dCons (dC (.int 10)) dNil))) (dCons (dCall sp_law_take [] (dCons (dVar 0) (dCons (dC (.int 250)) dNil))) dNil)))) (dCall sp_law_take [] (dCons (dVar 0) (dCons (dC (.int 3)) dNil)))) (.nm 9))
  (dSeq (dIf (dAnd (dTest (dVar 6)) (dTestB (dOp dEqQ (dCall sp_law_take [] (dCons (dVar 0) (dCons (dC (.int 5)) dNil))) (dC (.int 0))))) (dAsg (dOp (dI0 fun i j => .int (i - j)) (dOp (dI0 fun i j => .int (i - j)) (dC (.int 0)) (dC (.int 1))) (dCall sp_law_take [] (dCons (dVar 0) (dCons (dC (.int 4)) dNil)))) (.nm 9)) dNext)
  (dDrop (dMtL dAppend (dVar 5) (dCons (dTup (dCons (dVar 7) (dCons (dVar 8) (dCons (dOp (dI0 fun i j => .int (i - j)) (dOp (dI0 fun i j => .int (i - j)) (dOp dIxR (dVar 4) (dVar 8)) (dOp dIxR (dVar 4) (dVar 7))) (dVar 9)) dNil)))) dNil))))))))
  (dSeq (dIf (dTestB (dOp dEqQ (dCall sp_law_take [] (dCons (dVar 0) (dCons (dC (.int 3)) dNil))) (dC (.int 0)))) (dAsg (dOp dCatM (dVar 5) (dCall sp_law_round_rules [] (dCons (dVar 0) (dCons (dVar 1) dNil)))) (.nm 5)) dNext)
  (dGhost K (dRet (dTup (dCons (dVar 4) (dCons (dCall sp_law_mixed [] (dCons (dVar 0) (dCons (dVar 5) dNil))) dNil)))))))))))
/-- _law_low: 0 top, 1 bottom, 2 one, 3 other, 4 sign -/
def t_law_low : DTS :=
  (dSeq (dPar 2 3 (dCons (dCB (dR1 dAbsR) (dCons (dVar 0) dNil)) (dCons (dCB (dR1 dAbsR) (dCons (dVar 1) dNil)) dNil)))
  (dSeq (dWhile (dTestB (dOp (dCmpR (fun i j => decide (j < i)) (fun a b => decide (b < a))) (dVar 3) (dC (.int 0)))) (dPar 2 3 (dCons (dVar 3) (dCons (dOp (dI (fun _ j => 0 < j) fun i j => .int (i % j)) (dCB (dR1 dIntR) (dCons (dVar 2) dNil)) (dVar 3)) dNil))))
  (dSeq (dAsg (dIfE (dTestB (dOp (dCmpR (fun i j => decide (j < i)) (fun a b => decide (b < a))) (dVar 1) (dC (.int 0)))) (dC (.int 1)) (dUn dNeg (dC (.int 1)))) (.nm 4))
  (dRet (dTup (dCons (dOp (dI CDivW fun i j => .int (i / j)) (dOp (dI MulOk fun i j => .int (i * j)) (dVar 4) (dVar 0)) (dVar 2)) (dCons (dOp (dI CDivW fun i j => .int (i / j)) (dCB (dR1 dAbsR) (dCons (dVar 1) dNil)) (dVar 2)) dNil)))))))
/-- _law_places: 0 box, 1 hidden, 2 way, 3 found, 4 cell, 5 near, 6 far, 7 amid, 8 great -/
def t_law_places (K : PySem.W.Frag) (sp_law_take : DSp) (sp_law_low : DSp) : DTS :=
  (dSeq (dAsg (dCall sp_law_take [] (dCons (dVar 0) (dCons (dC (.int 6)) dNil))) (.nm 2))
  (dSeq (dAsg (dLstM dNil) (.nm 3))
  (dSeq (dFor (dSeqI (dVar 1)) (.nm 4) (dSeq (dAsg (dCall sp_law_low [] (dCons (dOp (dI0 fun i j => .int (i - j)) (dOp dAddR (dOp (dI MulOk fun i j => .int (i * j)) (dOp (dI MulOk fun i j => .int (i * j)) (dC (.int 64)) (dVar 4)) (dC (.int 7))) (dCall sp_law_take [] (dCons (dVar 0) (dCons (dC (.int 601)) dNil)))) (dC (.int 300))) (dCons (dC (.int 7)) dNil))) (.nm 5))
  (dSeq (dAsg (dTup (dCons (dOp (dI0 fun i j => .int (i - j)) (dOp dAddR (dOp (dI MulOk fun i j => .int (i * j)) (dC (.int 64)) (dVar 4)) (dCall sp_law_take [] (dCons (dVar 0) (dCons (dC (.int 2001)) dNil)))) (dC (.int 1000))) (dCons (dC (.int 1)) dNil))) (.nm 6))
  (dSeq (dAsg (dTup (dCons (dOp dAddR (dOp (dI MulOk fun i j => .int (i * j)) (dC (.int 64)) (dVar 4)) (dC (.int 32))) (dCons (dC (.int 1)) dNil))) (.nm 7))
  (dSeq (dAsg (dOp dIxR (dLst (dCons (dTup (dCons (dOp (dI0 fun i j => .int (i - j)) (dOp (dI0 fun i j => .int (i - j)) (dOp (dI CPow fun i j => .int (i ^ j.toNat)) (dC (.int 10)) (dC (.int 20))) (dC (.int 1))) (dCall sp_law_take [] (dCons (dVar 0) (dCons (dC (.int 99)) dNil)))) (dCons (dC (.int 1)) dNil))) (dCons (dCall sp_law_low [] (dCons (dVar 4) (dCons (dOp (dI0 fun i j => .int (i - j)) (dOp (dI CPow fun i j => .int (i ^ j.toNat)) (dC (.int 10)) (dC (.int 20))) (dC (.int 1))) dNil))) dNil))) (dCall sp_law_take [] (dCons (dVar 0) (dCons (dC (.int 2)) dNil)))) (.nm 8))
  (dDrop (dMtL dAppend (dVar 3) (dCons (dOp dIxR (dLst (dCons (dVar 5) (dCons (dVar 6) (dCons (dOp dIxR (dLst (dCons (dVar 5) (dCons (dVar 7) dNil))) (dCall sp_law_take [] (dCons (dVar 0) (dCons (dC (.int 2)) dNil)))) (dCons (dTup (dCons (dC (.int 40)) (dCons (dC (.int 1)) dNil))) (dCons (dOp dIxR (dLst (dCons (dVar 5) (dCons (dVar 8) dNil))) (dCall sp_law_take [] (dCons (dVar 0) (dCons (dC (.int 2)) dNil)))) (dCons (dVar 5) dNil))))))) (dVar 2)) dNil))))))))
  (dGhost K (dRet (dVar 3))))))
/-- _law_num: 0 pair -/
def t_law_num : DTS :=
  (dRet (dIfE (dTestB (dOp dEqQ (dOp dIxR (dVar 0) (dC (.int 1))) (dC (.int 1)))) (dOp dIxR (dVar 0) (dC (.int 0))) (dVar 0)))
/-- _law_far: 0 many, 1 rules, 2 k, 3 j, 4 far, 5 low, 6 high, 7 apart, 8 mid -/
def t_law_far (K : PySem.W.Frag) : DTS :=
  (dSeq (dAsg (dLc true (dRng1 (dVar 0)) (.nm 2) dYes (dLc true (dRng1 (dVar 0)) (.nm 3) dYes (dIfE (dTestB (dOp dEqQ (dVar 2) (dVar 3))) (dC (.int 0)) (dC .non)) [3]) [2]) (.nm 4))
  (dSeq (dFor (dSeqI (dVar 1)) (.tp [(.nm 5), (.nm 6), (.nm 7)]) (dIf (dOr (dTestB (dOp dIsR (dOp dIxR (dOp dIxR (dVar 4) (dVar 5)) (dVar 6)) (dC .non))) (dTestB (dOp (dCmpR (fun i j => decide (i < j)) (fun a b => decide (a < b))) (dOp dIxR (dOp dIxR (dVar 4) (dVar 5)) (dVar 6)) (dVar 7)))) (dSub (dVar 7) (dOp dIxR (dVar 4) (dVar 5)) (dVar 6)) dNext))
  (dSeq (dFor (dRng1 (dVar 0)) (.nm 8) (dSeq (dFor (dRng1 (dVar 0)) (.nm 2) (dIf (dTestB (dOp dIsNR (dOp dIxR (dOp dIxR (dVar 4) (dVar 2)) (dVar 8)) (dC .non))) (dFor (dRng1 (dVar 0)) (.nm 3) (dIf (dAnd (dTestB (dOp dIsNR (dOp dIxR (dOp dIxR (dVar 4) (dVar 8)) (dVar 3)) (dC .non))) (dOr (dTestB (dOp dIsR (dOp dIxR (dOp dIxR (dVar 4) (dVar 2)) (dVar 3)) (dC .non))) (dTestB (dOp (dCmpR (fun i j => decide (i < j)) (fun a b => decide (a < b))) (dOp dIxR (dOp dIxR (dVar 4) (dVar 2)) (dVar 3)) (dOp dAddR (dOp dIxR (dOp dIxR (dVar 4) (dVar 2)) (dVar 8)) (dOp dIxR (dOp dIxR (dVar 4) (dVar 8)) (dVar 3))))))) (dSub (dOp dAddR (dOp dIxR (dOp dIxR (dVar 4) (dVar 2)) (dVar 8)) (dOp dIxR (dOp dIxR (dVar 4) (dVar 8)) (dVar 3))) (dOp dIxR (dVar 4) (dVar 2)) (dVar 3)) dNext)) dNext))
  (dIf (dTestB (dOp dNeQ (dLc false (dRng1 (dVar 0)) (.nm 2) (dTestB (dOp (dCmpR (fun i j => decide (j < i)) (fun a b => decide (b < a))) (dOp dIxR (dOp dIxR (dVar 4) (dVar 2)) (dVar 2)) (dC (.int 0)))) (dVar 2) [2]) (dLst dNil))) (dGhost K (dRet (dC .non))) dNext)))
  (dGhost K (dRet (dVar 4))))))
/-- _law_chain_right: 0 chain, 1 rules, 2 begin, 3 end, 4 number, 5 marks, 6 ends, 7 k -/
def t_law_chain_right : DTS :=
  (dSeq (dIf (dOr (dNot (dTest (dCB (dR2 dIsiR) (dCons (dVar 0) (dCons (dC (.ty .lst)) dNil))))) (dOr (dTestB (dOp dEqQ (dVar 0) (dLst dNil))) (dTestB (dOp (dCmpR (fun i j => decide (j < i)) (fun a b => decide (b < a))) (dCB (dR1 dLenR) (dCons (dVar 0) dNil)) (dCB (dR1 dLenR) (dCons (dVar 1) dNil)))))) (dRet (dC (.bl false))) dNext)
  (dSeq (dFor (dSeqI (dVar 0)) (.nm 4) (dIf (dOr (dNot (dTest (dCB (dR2 dIsiR) (dCons (dVar 4) (dCons (dC (.ty .int)) dNil))))) (dOr (dTest (dCB (dR2 dIsiR) (dCons (dVar 4) (dCons (dC (.ty .bool)) dNil)))) (dNot (dTestB (dChain (dCmpR (fun i j => decide (i ≤ j)) (fun a b => !decide (b < a))) (dCmpR (fun i j => decide (i < j)) (fun a b => decide (a < b))) (dC (.int 0)) (dVar 4) (dCB (dR1 dLenR) (dCons (dVar 1) dNil))))))) (dRet (dC (.bl false))) dNext))
  (dSeq (dAsg (dLc false (dSeqI (dVar 0)) (.nm 4) dYes (dOp dIxR (dOp dIxR (dVar 1) (dVar 4)) (dC (.int 0))) [4]) (.nm 5))
  (dSeq (dAsg (dLc false (dSeqI (dVar 0)) (.nm 4) dYes (dOp dIxR (dOp dIxR (dVar 1) (dVar 4)) (dC (.int 1))) [4]) (.nm 6))
  (dSeq (dIf (dOr (dTestB (dOp dNeQ (dOp dIxR (dVar 5) (dC (.int 0))) (dVar 2))) (dOr (dTestB (dOp dNeQ (dOp dIxR (dVar 6) (dUn dNeg (dC (.int 1)))) (dVar 3))) (dTestB (dOp dNeQ (dSl (dSlR false) (dVar 5) (dPart (dC (.int 1))) dNoPart) (dSl (dSlR false) (dVar 6) dNoPart (dPart (dUn dNeg (dC (.int 1))))))))) (dRet (dC (.bl false))) dNext)
  (dSeq (dIf (dTestB (dOp dNeQ (dLc false (dRng1 (dCB (dR1 dLenR) (dCons (dVar 5) dNil))) (.nm 7) (dTestB (dOp (dInR false) (dOp dIxR (dVar 5) (dVar 7)) (dSl (dSlR false) (dVar 5) dNoPart (dPart (dVar 7))))) (dVar 7) [7]) (dLst dNil))) (dRet (dC (.bl false))) dNext)
  (dRet (dOrV (dOp dEqQ (dVar 2) (dVar 3)) (dOp (dInR true) (dVar 3) (dVar 5))))))))))
/-- _law_cycle_right: 0 cycle, 1 rules, 2 number -/
def t_law_cycle_right (sp_law_chain_right : DSp) : DTS :=
  (dSeq (dIf (dOr (dNot (dTest (dCB (dR2 dIsiR) (dCons (dVar 0) (dCons (dC (.ty .lst)) dNil))))) (dOr (dTestB (dOp dEqQ (dVar 0) (dLst dNil))) (dOr (dNot (dTest (dCB (dR2 dIsiR) (dCons (dOp dIxR (dVar 0) (dC (.int 0))) (dCons (dC (.ty .int)) dNil))))) (dTest (dCB (dR2 dIsiR) (dCons (dOp dIxR (dVar 0) (dC (.int 0))) (dCons (dC (.ty .bool)) dNil))))))) (dRet (dC (.bl false))) dNext)
  (dSeq (dIf (dOr (dNot (dTestB (dChain (dCmpR (fun i j => decide (i ≤ j)) (fun a b => !decide (b < a))) (dCmpR (fun i j => decide (i < j)) (fun a b => decide (a < b))) (dC (.int 0)) (dOp dIxR (dVar 0) (dC (.int 0))) (dCB (dR1 dLenR) (dCons (dVar 1) dNil))))) (dNot (dTest (dCall sp_law_chain_right [] (dCons (dVar 0) (dCons (dVar 1) (dCons (dOp dIxR (dOp dIxR (dVar 1) (dOp dIxR (dVar 0) (dC (.int 0)))) (dC (.int 0))) (dCons (dOp dIxR (dOp dIxR (dVar 1) (dOp dIxR (dVar 0) (dC (.int 0)))) (dC (.int 0))) dNil)))))))) (dRet (dC (.bl false))) dNext)
  (dRet (dOp (dCmpR (fun i j => decide (j < i)) (fun a b => decide (b < a))) (dCB (dR1 (dOnInts (fun _ => True) fun ns => .int ns.sum)) (dCons (dLc false (dSeqI (dVar 0)) (.nm 2) dYes (dOp dIxR (dOp dIxR (dVar 1) (dVar 2)) (dC (.int 2))) [2]) dNil)) (dC (.int 0))))))
/-- is_list: 0 thing, 1 low, 2 high -/
def t_is_list : DTS :=
  (dRet (dAndV (dIsiT [.lst, .tup] (dVar 0)) (dChain (dCmpR (fun i j => decide (i ≤ j)) (fun a b => !decide (b < a))) (dCmpR (fun i j => decide (i ≤ j)) (fun a b => !decide (b < a))) (dVar 1) (dCB (dR1 dLenR) (dCons (dVar 0) dNil)) (dVar 2))))
/-- is_plain: 0 thing -/
def t_is_plain : DTS :=
  (dRet (dAndV (dCB (dR2 dIsiR) (dCons (dVar 0) (dCons (dC (.ty .int)) dNil))) (dNotV (dCB (dR2 dIsiR) (dCons (dVar 0) (dCons (dC (.ty .bool)) dNil))))))
/-- common_part: 0 one, 1 other -/
def t_common_part : DTS :=
  (dSeq (dPar 0 1 (dCons (dCB (dR1 dAbsR) (dCons (dVar 0) dNil)) (dCons (dCB (dR1 dAbsR) (dCons (dVar 1) dNil)) dNil)))
  (dSeq (dWhile (dTestB (dOp dNeQ (dVar 1) (dC (.int 0)))) (dPar 0 1 (dCons (dVar 1) (dCons (dOp (dI (fun _ j => 0 < j) fun i j => .int (i % j)) (dVar 0) (dVar 1)) dNil))))
  (dRet (dVar 0))))
/-- is_part: 0 thing, 1 top, 2 base -/
def t_is_part (sp_is_plain : DSp) (sp_common_part : DSp) : DTS :=
  (dSeq (dIf (dOr (dNot (dTest (dCB (dR2 dIsiR) (dCons (dVar 0) (dCons (dC (.ty .tup)) dNil))))) (dTestB (dOp dNeQ (dCB (dR1 dLenR) (dCons (dVar 0) dNil)) (dC (.int 2))))) (dRet (dC (.bl false))) dNext)
  (dSeq (dAsg (dVar 0) (.tp [(.nm 1), (.nm 2)]))
  (dRet (dAndV (dCall sp_is_plain [] (dCons (dVar 1) dNil)) (dAndV (dCall sp_is_plain [] (dCons (dVar 2) dNil)) (dAndV (dOp (dCmpR (fun i j => decide (j < i)) (fun a b => decide (b < a))) (dVar 2) (dC (.int 1))) (dOp dEqQ (dCall sp_common_part [] (dCons (dVar 1) (dCons (dVar 2) dNil))) (dC (.int 1)))))))))
/-- is_number: 0 thing -/
def t_is_number (sp_is_plain : DSp) (sp_is_part : DSp) : DTS :=
  (dRet (dOrV (dCall sp_is_plain [] (dCons (dVar 0) dNil)) (dCall sp_is_part [] (dCons (dVar 0) dNil))))
/-- pair_of: 0 number -/
def t_pair_of (sp_is_plain : DSp) (sp_is_part : DSp) : DTS :=
  (dSeq (dIf (dTest (dCall sp_is_plain [] (dCons (dVar 0) dNil))) (dRet (dTup (dCons (dVar 0) (dCons (dC (.int 1)) dNil)))) dNext)
  (dSeq (dIf (dNot (dTest (dCall sp_is_part [] (dCons (dVar 0) dNil)))) dNever dNext)
  (dRet (dVar 0))))
/-- is_short: 0 thing, 1 part -/
def t_is_short (sp_is_number : DSp) (sp_pair_of : DSp) : DTS :=
  (dRet (dAndV (dCall sp_is_number [] (dCons (dVar 0) dNil)) (dCB (dR1 (dOnBls fun bs => bs.all id)) (dCons (dLc false (dSeqI (dCall sp_pair_of [] (dCons (dVar 0) dNil))) (.nm 1) dYes (dOp (dCmpR (fun i j => decide (i < j)) (fun a b => decide (a < b))) (dCB (dR1 dAbsR) (dCons (dVar 1) dNil)) (dC (.int 100000000000000000000))) [1]) dNil))))
/-- need_mark_places: 0 places, 1 place -/
def t_need_mark_places (sp_is_list : DSp) (sp_is_short : DSp) : DTS :=
  (dSeq (dIf (dNot (dTest (dCall sp_is_list [] (dCons (dVar 0) (dCons (dC (.int 1)) (dCons (dC (.int 24)) dNil)))))) dNever dNext)
  (dFor (dSeqI (dVar 0)) (.nm 1) (dIf (dNot (dTest (dCall sp_is_short [] (dCons (dVar 1) dNil)))) dNever dNext)))
/-- is_whole: 0 thing, 1 low, 2 high -/
def t_is_whole (sp_is_plain : DSp) : DTS :=
  (dRet (dAndV (dCall sp_is_plain [] (dCons (dVar 0) dNil)) (dChain (dCmpR (fun i j => decide (i ≤ j)) (fun a b => !decide (b < a))) (dCmpR (fun i j => decide (i ≤ j)) (fun a b => !decide (b < a))) (dVar 1) (dVar 0) (dVar 2))))
/-- is_rule: 0 thing, 1 many, 2 low, 3 high, 4 apart -/
def t_is_rule (sp_is_whole : DSp) : DTS :=
  (dSeq (dIf (dOr (dNot (dTest (dCB (dR2 dIsiR) (dCons (dVar 0) (dCons (dC (.ty .tup)) dNil))))) (dTestB (dOp dNeQ (dCB (dR1 dLenR) (dCons (dVar 0) dNil)) (dC (.int 3))))) (dRet (dC (.bl false))) dNext)
  (dSeq (dAsg (dVar 0) (.tp [(.nm 2), (.nm 3), (.nm 4)]))
  (dSeq (dIf (dOr (dNot (dTest (dCall sp_is_whole [] (dCons (dVar 2) (dCons (dC (.int 0)) (dCons (dOp (dI0 fun i j => .int (i - j)) (dVar 1) (dC (.int 1))) dNil)))))) (dOr (dNot (dTest (dCall sp_is_whole [] (dCons (dVar 3) (dCons (dC (.int 0)) (dCons (dOp (dI0 fun i j => .int (i - j)) (dVar 1) (dC (.int 1))) dNil)))))) (dTestB (dOp dEqQ (dVar 2) (dVar 3))))) (dRet (dC (.bl false))) dNext)
  (dRet (dCall sp_is_whole [] (dCons (dVar 4) (dCons (dUn dNeg (dC (.int 400))) (dCons (dC (.int 400)) dNil))))))))
/-- need_rules: 0 rules, 1 many, 2 rule -/
def t_need_rules (sp_is_list : DSp) (sp_is_rule : DSp) : DTS :=
  (dSeq (dIf (dNot (dTest (dCall sp_is_list [] (dCons (dVar 0) (dCons (dC (.int 0)) (dCons (dC (.int 100)) dNil)))))) dNever dNext)
  (dFor (dSeqI (dVar 0)) (.nm 2) (dIf (dNot (dTest (dCall sp_is_rule [] (dCons (dVar 2) (dCons (dVar 1) dNil))))) dNever dNext)))
/-- raised: 0 lows, 1 rules, 2 cells, 3 raised_by, 4 rising_mark, 5 turn, 6 number, 7 low, 8 high, 9 apart -/
def t_raised (K : PySem.W.Frag) : DTS :=
  (dSeq (dPar 2 3 (dCons (dCB (dR1 (dListR true)) (dCons (dVar 0) dNil)) (dCons (dOp (dRepR true) (dLst (dCons (dC .non) dNil)) (dCB (dR1 dLenR) (dCons (dVar 0) dNil))) dNil)))
  (dSeq (dAsg (dC .non) (.nm 4))
  (dSeq (dFor (dRng1 (dCB (dR1 dLenR) (dCons (dVar 0) dNil))) (.nm 5) (dSeq (dAsg (dC .non) (.nm 4))
  (dFor (dEnumQ (dVar 1)) (.tp [(.nm 6), (.tp [(.nm 7), (.nm 8), (.nm 9)])]) (dIf (dAnd (dTestB (dOp dIsNR (dOp dIxR (dVar 2) (dVar 7)) (dC .non))) (dOr (dTestB (dOp dIsR (dOp dIxR (dVar 2) (dVar 8)) (dC .non))) (dTestB (dOp (dCmpR (fun i j => decide (i < j)) (fun a b => decide (a < b))) (dOp dIxR (dVar 2) (dVar 8)) (dOp dAddR (dOp dIxR (dVar 2) (dVar 7)) (dVar 9)))))) (dSeq (dSub (dOp dAddR (dOp dIxR (dVar 2) (dVar 7)) (dVar 9)) (dVar 2) (dVar 8))
  (dSeq (dSub (dVar 6) (dVar 3) (dVar 8))
  (dAsg (dVar 8) (.nm 4)))) dNext))))
  (dGhost K (dRet (dTup (dCons (dVar 2) (dCons (dVar 3) (dCons (dVar 4) dNil)))))))))
/-- led_back: 0 raised_by, 1 rules, 2 begin, 3 end, 4 found -/
def t_led_back (K : PySem.W.Frag) : DTS :=
  (dSeq (dAsg (dLstM (dCons (dOp dIxR (dVar 0) (dVar 3)) dNil)) (.nm 4))
  (dSeq (dWhile (dTestB (dOp dNeQ (dOp dIxR (dOp dIxR (dVar 1) (dOp dIxR (dVar 4) (dUn dNeg (dC (.int 1))))) (dC (.int 0))) (dVar 2))) (dDrop (dMtL dAppend (dVar 4) (dCons (dOp dIxR (dVar 0) (dOp dIxR (dOp dIxR (dVar 1) (dOp dIxR (dVar 4) (dUn dNeg (dC (.int 1))))) (dC (.int 0)))) dNil))))
  (dGhost K (dRet (dRevR false (dVar 4))))))
/-- found_cycle: 0 many, 1 rules, 2 cells, 3 raised_by, 4 mark, 5 turn -/
def t_found_cycle (sp_raised : DSp) (sp_led_back : DSp) : DTS :=
  (dSeq (dAsg (dCall sp_raised [] (dCons (dOp (dRepR false) (dLst (dCons (dC (.int 0)) dNil)) (dVar 0)) (dCons (dVar 1) dNil))) (.tp [(.nm 2), (.nm 3), (.nm 4)]))
  (dSeq (dIf (dTestB (dOp dIsR (dVar 4) (dC .non))) (dRet (dC .non)) dNext)
  (dSeq (dFor (dRng1 (dVar 0)) (.nm 5) (dAsg (dOp dIxR (dOp dIxR (dVar 1) (dOp dIxR (dVar 3) (dVar 4))) (dC (.int 0))) (.nm 4)))
  (dRet (dCall sp_led_back [] (dCons (dVar 3) (dCons (dVar 1) (dCons (dVar 4) (dCons (dVar 4) dNil)))))))))
/-- need_kept: 0 many, 1 rules, 2 cycle -/
def t_need_kept (K : PySem.W.Frag) (sp_found_cycle : DSp) : DTS :=
  (dSeq (dAsg (dCall sp_found_cycle [] (dCons (dVar 0) (dCons (dVar 1) dNil))) (.nm 2))
  (dIf (dTestB (dOp dIsNR (dVar 2) (dC .non))) (dRaise (dMk1 (He.ga K "NoFit") "cycle" (dCons (dVar 2) dNil))) dNext))
/-- raised_from: 0 many, 1 rules, 2 mark, 3 cells, 4 raised_by, 5 still, 6 other -/
def t_raised_from (sp_raised : DSp) : DTS :=
  (dSeq (dAsg (dCall sp_raised [] (dCons (dLc false (dRng1 (dVar 0)) (.nm 6) dYes (dIfE (dTestB (dOp dEqQ (dVar 6) (dVar 2))) (dC (.int 0)) (dC .non)) [6]) (dCons (dVar 1) dNil))) (.tp [(.nm 3), (.nm 4), (.nm 5)]))
  (dRet (dTup (dCons (dVar 3) (dCons (dVar 4) dNil)))))
/-- reckoned: 0 top, 1 base, 2 part -/
def t_reckoned (sp_common_part : DSp) : DTS :=
  (dSeq (dAsg (dCall sp_common_part [] (dCons (dVar 0) (dCons (dVar 1) dNil))) (.nm 2))
  (dSeq (dIf (dTestB (dOp (dCmpR (fun i j => decide (i < j)) (fun a b => decide (a < b))) (dVar 1) (dC (.int 0)))) (dAsg (dOp (dI0 fun i j => .int (i - j)) (dC (.int 0)) (dVar 2)) (.nm 2)) dNext)
  (dSeq (dPar 0 1 (dCons (dOp (dI (fun _ j => DivOk j) fun i j => .int (i.fdiv j)) (dVar 0) (dVar 2)) (dCons (dOp (dI (fun _ j => DivOk j) fun i j => .int (i.fdiv j)) (dVar 1) (dVar 2)) dNil)))
  (dRet (dIfE (dTestB (dOp dEqQ (dVar 1) (dC (.int 1)))) (dVar 0) (dTup (dCons (dVar 0) (dCons (dVar 1) dNil))))))))
/-- times: 0 one, 1 other, 2 top, 3 base, 4 more, 5 under -/
def t_times (sp_pair_of : DSp) (sp_reckoned : DSp) : DTS :=
  (dSeq (dAsg (dTup (dCons (dCall sp_pair_of [] (dCons (dVar 0) dNil)) (dCons (dCall sp_pair_of [] (dCons (dVar 1) dNil)) dNil))) (.tp [(.tp [(.nm 2), (.nm 3)]), (.tp [(.nm 4), (.nm 5)])]))
  (dRet (dCall sp_reckoned [] (dCons (dOp (dI MulOk fun i j => .int (i * j)) (dVar 2) (dVar 4)) (dCons (dOp (dI MulOk fun i j => .int (i * j)) (dVar 3) (dVar 5)) dNil)))))
/-- floor_of: 0 number, 1 step, 2 top, 3 base, 4 more, 5 under -/
def t_floor_of (sp_pair_of : DSp) (sp_times : DSp) : DTS :=
  (dSeq (dAsg (dTup (dCons (dCall sp_pair_of [] (dCons (dVar 0) dNil)) (dCons (dCall sp_pair_of [] (dCons (dVar 1) dNil)) dNil))) (.tp [(.tp [(.nm 2), (.nm 3)]), (.tp [(.nm 4), (.nm 5)])]))
  (dSeq (dIf (dTestB (dOp (dCmpR (fun i j => decide (i ≤ j)) (fun a b => !decide (b < a))) (dVar 4) (dC (.int 0)))) dNever dNext)
  (dRet (dCall sp_times [] (dCons (dVar 1) (dCons (dOp (dI CDivW fun i j => .int (i / j)) (dOp (dI MulOk fun i j => .int (i * j)) (dVar 2) (dVar 5)) (dOp (dI MulOk fun i j => .int (i * j)) (dVar 3) (dVar 4))) dNil))))))
/-- over: 0 one, 1 other, 2 top, 3 base, 4 more, 5 under -/
def t_over (sp_pair_of : DSp) (sp_reckoned : DSp) : DTS :=
  (dSeq (dAsg (dTup (dCons (dCall sp_pair_of [] (dCons (dVar 0) dNil)) (dCons (dCall sp_pair_of [] (dCons (dVar 1) dNil)) dNil))) (.tp [(.tp [(.nm 2), (.nm 3)]), (.tp [(.nm 4), (.nm 5)])]))
  (dSeq (dIf (dTestB (dOp dEqQ (dVar 4) (dC (.int 0)))) dNever dNext)
  (dRet (dCall sp_reckoned [] (dCons (dOp (dI MulOk fun i j => .int (i * j)) (dVar 2) (dVar 5)) (dCons (dOp (dI MulOk fun i j => .int (i * j)) (dVar 3) (dVar 4)) dNil))))))
/-- minus: 0 one, 1 other, 2 top, 3 base, 4 more, 5 under -/
def t_minus (sp_pair_of : DSp) (sp_reckoned : DSp) : DTS :=
  (dSeq (dAsg (dTup (dCons (dCall sp_pair_of [] (dCons (dVar 0) dNil)) (dCons (dCall sp_pair_of [] (dCons (dVar 1) dNil)) dNil))) (.tp [(.tp [(.nm 2), (.nm 3)]), (.tp [(.nm 4), (.nm 5)])]))
  (dRet (dCall sp_reckoned [] (dCons (dOp (dI0 fun i j => .int (i - j)) (dOp (dI MulOk fun i j => .int (i * j)) (dVar 2) (dVar 5)) (dOp (dI MulOk fun i j => .int (i * j)) (dVar 4) (dVar 3))) (dCons (dOp (dI MulOk fun i j => .int (i * j)) (dVar 3) (dVar 5)) dNil)))))
/-- plus: 0 one, 1 other, 2 top, 3 base, 4 more, 5 under -/
def t_plus (sp_pair_of : DSp) (sp_reckoned : DSp) : DTS :=
  (dSeq (dAsg (dTup (dCons (dCall sp_pair_of [] (dCons (dVar 0) dNil)) (dCons (dCall sp_pair_of [] (dCons (dVar 1) dNil)) dNil))) (.tp [(.tp [(.nm 2), (.nm 3)]), (.tp [(.nm 4), (.nm 5)])]))
  (dRet (dCall sp_reckoned [] (dCons (dOp dAddR (dOp (dI MulOk fun i j => .int (i * j)) (dVar 2) (dVar 5)) (dOp (dI MulOk fun i j => .int (i * j)) (dVar 4) (dVar 3))) (dCons (dOp (dI MulOk fun i j => .int (i * j)) (dVar 3) (dVar 5)) dNil)))))
/-- less: 0 one, 1 other, 2 top, 3 base, 4 more, 5 under -/
def t_less (sp_pair_of : DSp) : DTS :=
  (dSeq (dAsg (dTup (dCons (dCall sp_pair_of [] (dCons (dVar 0) dNil)) (dCons (dCall sp_pair_of [] (dCons (dVar 1) dNil)) dNil))) (.tp [(.tp [(.nm 2), (.nm 3)]), (.tp [(.nm 4), (.nm 5)])]))
  (dRet (dOp (dCmpR (fun i j => decide (i < j)) (fun a b => decide (a < b))) (dOp (dI MulOk fun i j => .int (i * j)) (dVar 2) (dVar 5)) (dOp (dI MulOk fun i j => .int (i * j)) (dVar 4) (dVar 3)))))
/-- needed_for: 0 first, 1 apart, 2 last, 3 cell, 4 below, 5 above -/
def t_needed_for (sp_floor_of : DSp) (sp_over : DSp) (sp_minus : DSp) (sp_plus : DSp) (sp_less : DSp) : DTS :=
  (dSeq (dAsg (dCallN 1 0 sp_floor_of (fun ds es => pick [0, 1] (ds ++ es ++ [D.int 1])) (dCons (dCall sp_over [] (dCons (dCall sp_minus [] (dCons (dCall sp_plus [] (dCons (dVar 0) (dCons (dVar 2) dNil))) (dCons (dOp (dI MulOk fun i j => .int (i * j)) (dC (.int 64)) (dVar 1)) dNil))) (dCons (dOp (dI MulOk fun i j => .int (i * j)) (dC (.int 2)) (dC (.int 64))) dNil))) dNil) dNil) (.nm 3))
  (dSeq (dPar 4 5 (dCons (dCall sp_minus [] (dCons (dVar 0) (dCons (dOp (dI MulOk fun i j => .int (i * j)) (dC (.int 64)) (dVar 3)) dNil))) (dCons (dCall sp_minus [] (dCons (dOp (dI MulOk fun i j => .int (i * j)) (dC (.int 64)) (dOp dAddR (dOp dAddR (dVar 3) (dC (.int 1))) (dVar 1))) (dCons (dVar 2) dNil))) dNil)))
  (dRet (dIfE (dTest (dCall sp_less [] (dCons (dVar 5) (dCons (dVar 4) dNil)))) (dVar 5) (dVar 4)))))
/-- tight_chain: 0 places, 1 rules, 2 best, 3 first, 4 place, 5 cells, 6 raised_by, 7 last, 8 apart, 9 needed, 10 chain -/
def t_tight_chain (sp_raised_from : DSp) (sp_needed_for : DSp) (sp_less : DSp) (sp_led_back : DSp) : DTS :=
  (dSeq (dAsg (dC .non) (.nm 2))
  (dSeq (dFor (dEnumQ (dVar 0)) (.tp [(.nm 3), (.nm 4)]) (dSeq (dAsg (dCall sp_raised_from [] (dCons (dCB (dR1 dLenR) (dCons (dVar 0) dNil)) (dCons (dVar 1) (dCons (dVar 3) dNil)))) (.tp [(.nm 5), (.nm 6)]))
  (dFor (dEnumQ (dVar 5)) (.tp [(.nm 7), (.nm 8)]) (dSeq (dIf (dTestB (dOp dIsR (dVar 8) (dC .non))) dCont dNext)
  (dSeq (dAsg (dCall sp_needed_for [] (dCons (dVar 4) (dCons (dVar 8) (dCons (dOp dIxR (dVar 0) (dVar 7)) dNil)))) (.nm 9))
  (dIf (dOr (dTestB (dOp dIsR (dVar 2) (dC .non))) (dTest (dCall sp_less [] (dCons (dOp dIxR (dVar 2) (dC (.int 0))) (dCons (dVar 9) dNil))))) (dSeq (dAsg (dIfE (dTestB (dOp dNeQ (dVar 7) (dVar 3))) (dCall sp_led_back [] (dCons (dVar 6) (dCons (dVar 1) (dCons (dVar 3) (dCons (dVar 7) dNil))))) (dLst dNil)) (.nm 10))
  (dAsg (dTup (dCons (dVar 9) (dCons (dVar 3) (dCons (dVar 10) (dCons (dVar 7) dNil))))) (.nm 2))) dNext))))))
  (dRet (dVar 2))))
/-- nearest_fit: 0 places, 1 rules, 2 movement, 3 first, 4 chain, 5 last, 6 lows, 7 place -/
def t_nearest_fit (sp_need_mark_places : DSp) (sp_need_rules : DSp) (sp_need_kept : DSp) (sp_tight_chain : DSp) (sp_floor_of : DSp) (sp_over : DSp) (sp_minus : DSp) (sp_raised : DSp) : DTS :=
  (dSeq (dDrop (dCall sp_need_mark_places [] (dCons (dVar 0) dNil)))
  (dSeq (dDrop (dCall sp_need_rules [] (dCons (dVar 1) (dCons (dCB (dR1 dLenR) (dCons (dVar 0) dNil)) dNil))))
  (dSeq (dDropX (dCallX sp_need_kept (dCons (dCB (dR1 dLenR) (dCons (dVar 0) dNil)) (dCons (dVar 1) dNil))))
  (dSeq (dAsg (dCall sp_tight_chain [] (dCons (dVar 0) (dCons (dVar 1) dNil))) (.tp [(.nm 2), (.nm 3), (.nm 4), (.nm 5)]))
  (dSeq (dAsg (dLc false (dSeqI (dVar 0)) (.nm 7) dYes (dOp (dI0 fun i j => .int (i - j)) (dC (.int 0)) (dCallN 1 0 sp_floor_of (fun ds es => pick [0, 1] (ds ++ es ++ [D.int 1])) (dCons (dCall sp_over [] (dCons (dCall sp_minus [] (dCons (dVar 2) (dCons (dVar 7) dNil))) (dCons (dC (.int 64)) dNil))) dNil) dNil)) [7]) (.nm 6))
  (dRet (dTup (dCons (dVar 2) (dCons (dOp dIxR (dCall sp_raised [] (dCons (dVar 6) (dCons (dVar 1) dNil))) (dC (.int 0))) (dCons (dTup (dCons (dVar 3) (dCons (dVar 4) (dCons (dVar 5) dNil)))) dNil))))))))))
/-- _law_refused: 0 places, 1 rules, 2 e -/
def t_law_refused (K : PySem.W.Frag) (sp_nearest_fit : DSp) : DTS :=
  (dSeq (dTryRet K (exC K "NoFit") (He.ga K "NoFit") "cycle" 2 (dDropX (dCallX sp_nearest_fit (dCons (dVar 0) (dCons (dVar 1) dNil)))))
  (dRet (dC .non)))
/-- _law_less: 0 one, 1 other -/
def t_law_less : DTS :=
  (dRet (dOp (dCmpR (fun i j => decide (i < j)) (fun a b => decide (a < b))) (dOp (dI MulOk fun i j => .int (i * j)) (dOp dIxR (dVar 0) (dC (.int 0))) (dOp dIxR (dVar 1) (dC (.int 1)))) (dOp (dI MulOk fun i j => .int (i * j)) (dOp dIxR (dVar 1) (dC (.int 0))) (dOp dIxR (dVar 0) (dC (.int 1))))))
/-- _law_most: 0 one, 1 other -/
def t_law_most (sp_law_less : DSp) : DTS :=
  (dRet (dIfE (dTest (dCall sp_law_less [] (dCons (dVar 0) (dCons (dVar 1) dNil)))) (dVar 1) (dVar 0)))
/-- _law_floor: 0 pair -/
def t_law_floor : DTS :=
  (dRet (dOp (dI CDivW fun i j => .int (i / j)) (dOp dIxR (dVar 0) (dC (.int 0))) (dOp dIxR (dVar 0) (dC (.int 1)))))
/-- _law_over: 0 one, 1 other -/
def t_law_over (sp_law_low : DSp) : DTS :=
  (dRet (dCall sp_law_low [] (dCons (dOp (dI MulOk fun i j => .int (i * j)) (dOp dIxR (dVar 0) (dC (.int 0))) (dOp dIxR (dVar 1) (dC (.int 1)))) (dCons (dOp (dI MulOk fun i j => .int (i * j)) (dOp dIxR (dVar 0) (dC (.int 1))) (dOp dIxR (dVar 1) (dC (.int 0)))) dNil))))
/-- _law_plus: 0 one, 1 other -/
def t_law_plus (sp_law_low : DSp) : DTS :=
  (dRet (dCall sp_law_low [] (dCons (dOp dAddR (dOp (dI MulOk fun i j => .int (i * j)) (dOp dIxR (dVar 0) (dC (.int 0))) (dOp dIxR (dVar 1) (dC (.int 1)))) (dOp (dI MulOk fun i j => .int (i * j)) (dOp dIxR (dVar 1) (dC (.int 0))) (dOp dIxR (dVar 0) (dC (.int 1))))) (dCons (dOp (dI MulOk fun i j => .int (i * j)) (dOp dIxR (dVar 0) (dC (.int 1))) (dOp dIxR (dVar 1) (dC (.int 1)))) dNil))))
/-- _law_minus: 0 one, 1 other -/
def t_law_minus (sp_law_low : DSp) : DTS :=
  (dRet (dCall sp_law_low [] (dCons (dOp (dI0 fun i j => .int (i - j)) (dOp (dI MulOk fun i j => .int (i * j)) (dOp dIxR (dVar 0) (dC (.int 0))) (dOp dIxR (dVar 1) (dC (.int 1)))) (dOp (dI MulOk fun i j => .int (i * j)) (dOp dIxR (dVar 1) (dC (.int 0))) (dOp dIxR (dVar 0) (dC (.int 1))))) (dCons (dOp (dI MulOk fun i j => .int (i * j)) (dOp dIxR (dVar 0) (dC (.int 1))) (dOp dIxR (dVar 1) (dC (.int 1)))) dNil))))
/-- _law_needed: 0 first, 1 apart, 2 last, 3 middle, 4 best, 5 cell, 6 below, 7 need -/
def t_law_needed (sp_law_floor : DSp) (sp_law_over : DSp) (sp_law_plus : DSp) (sp_law_minus : DSp) (sp_law_most : DSp) (sp_law_less : DSp) : DTS :=
  (dSeq (dAsg (dCall sp_law_floor [] (dCons (dCall sp_law_over [] (dCons (dCall sp_law_plus [] (dCons (dCall sp_law_plus [] (dCons (dVar 0) (dCons (dVar 2) dNil))) (dCons (dTup (dCons (dOp (dI0 fun i j => .int (i - j)) (dC (.int 0)) (dOp (dI MulOk fun i j => .int (i * j)) (dC (.int 64)) (dVar 1))) (dCons (dC (.int 1)) dNil))) dNil))) (dCons (dTup (dCons (dC (.int 128)) (dCons (dC (.int 1)) dNil))) dNil))) dNil)) (.nm 3))
  (dSeq (dAsg (dC .non) (.nm 4))
  (dSeq (dFor (dRng2 (dOp (dI0 fun i j => .int (i - j)) (dVar 3) (dC (.int 1))) (dOp dAddR (dVar 3) (dC (.int 3)))) (.nm 5) (dSeq (dAsg (dCall sp_law_minus [] (dCons (dVar 0) (dCons (dTup (dCons (dOp (dI MulOk fun i j => .int (i * j)) (dC (.int 64)) (dVar 5)) (dCons (dC (.int 1)) dNil))) dNil))) (.nm 6))
  (dSeq (dAsg (dCall sp_law_most [] (dCons (dVar 6) (dCons (dCall sp_law_minus [] (dCons (dTup (dCons (dOp (dI MulOk fun i j => .int (i * j)) (dC (.int 64)) (dOp dAddR (dVar 5) (dVar 1))) (dCons (dC (.int 1)) dNil))) (dCons (dVar 2) dNil))) dNil))) (.nm 7))
  (dIf (dOr (dTestB (dOp dIsR (dVar 4) (dC .non))) (dTest (dCall sp_law_less [] (dCons (dVar 7) (dCons (dVar 4) dNil))))) (dAsg (dVar 7) (.nm 4)) dNext))))
  (dRet (dVar 4)))))
/-- _law_least_movement: 0 places, 1 far, 2 best, 3 k, 4 j -/
def t_law_least_movement (sp_law_most : DSp) (sp_law_needed : DSp) : DTS :=
  (dSeq (dAsg (dTup (dCons (dC (.int 0)) (dCons (dC (.int 1)) dNil))) (.nm 2))
  (dSeq (dFor (dRng1 (dCB (dR1 dLenR) (dCons (dVar 0) dNil))) (.nm 3) (dFor (dRng1 (dCB (dR1 dLenR) (dCons (dVar 0) dNil))) (.nm 4) (dIf (dTestB (dOp dIsNR (dOp dIxR (dOp dIxR (dVar 1) (dVar 3)) (dVar 4)) (dC .non))) (dAsg (dCall sp_law_most [] (dCons (dVar 2) (dCons (dCall sp_law_needed [] (dCons (dOp dIxR (dVar 0) (dVar 3)) (dCons (dOp dIxR (dOp dIxR (dVar 1) (dVar 3)) (dVar 4)) (dCons (dOp dIxR (dVar 0) (dVar 4)) dNil)))) dNil))) (.nm 2)) dNext)))
  (dRet (dVar 2))))
/-- _law_same: 0 given, 1 due, 2 k -/
def t_law_same (sp_law_same : DSp) : DTS :=
  (dSeq (dIf (dOr (dTestB (dOp dIsR (dVar 1) (dC .non))) (dTest (dCB (dR2 dIsiR) (dCons (dVar 1) (dCons (dC (.ty .bool)) dNil))))) (dRet (dIfE (dTestB (dOp dIsR (dVar 1) (dC .non))) (dOp dIsR (dVar 0) (dC .non)) (dAndV (dCB (dR2 dIsiR) (dCons (dVar 0) (dCons (dC (.ty .bool)) dNil))) (dOp dEqQ (dOp dIsR (dVar 0) (dC (.bl true))) (dOp dIsR (dVar 1) (dC (.bl true))))))) dNext)
  (dSeq (dIf (dTest (dCB (dR2 dIsiR) (dCons (dVar 1) (dCons (dC (.ty .int)) dNil)))) (dRet (dAndV (dCB (dR2 dIsiR) (dCons (dVar 0) (dCons (dC (.ty .int)) dNil))) (dAndV (dNotV (dCB (dR2 dIsiR) (dCons (dVar 0) (dCons (dC (.ty .bool)) dNil)))) (dOp dEqQ (dOp (dI0 fun i j => .int (i - j)) (dCB (dR1 dIntR) (dCons (dVar 0) dNil)) (dVar 1)) (dC (.int 0)))))) dNext)
  (dSeq (dIf (dTest (dCB (dR2 dIsiR) (dCons (dVar 1) (dCons (dC (.ty .str)) dNil)))) (dSeq (dIf (dOr (dNot (dTest (dCB (dR2 dIsiR) (dCons (dVar 0) (dCons (dC (.ty .str)) dNil))))) (dTestB (dOp dNeQ (dCB (dR1 dLenR) (dCons (dVar 0) dNil)) (dCB (dR1 dLenR) (dCons (dVar 1) dNil))))) (dRet (dC (.bl false))) dNext)
  (dRet (dOp dEqQ (dLc false (dRng1 (dCB (dR1 dLenR) (dCons (dVar 1) dNil))) (.nm 2) (dTestB (dOp dNeQ (dSl (dSlR false) (dVar 0) (dPart (dVar 2)) (dPart (dOp dAddR (dVar 2) (dC (.int 1))))) (dOp dIxR (dVar 1) (dVar 2)))) (dVar 2) [2]) (dLst dNil)))) dNext)
  (dSeq (dIf (dOr (dTestB (dOp dNeQ (dCB (dR2 dIsiR) (dCons (dVar 0) (dCons (dC (.ty .lst)) dNil))) (dCB (dR2 dIsiR) (dCons (dVar 1) (dCons (dC (.ty .lst)) dNil))))) (dTestB (dOp dNeQ (dCB (dR2 dIsiR) (dCons (dVar 0) (dCons (dC (.ty .tup)) dNil))) (dCB (dR2 dIsiR) (dCons (dVar 1) (dCons (dC (.ty .tup)) dNil)))))) (dRet (dC (.bl false))) dNext)
  (dRet (dAndV (dOp dEqQ (dCB (dR1 dLenR) (dCons (dVar 0) dNil)) (dCB (dR1 dLenR) (dCons (dVar 1) dNil))) (dOp dEqQ (dLc false (dRng1 (dCB (dR1 dLenR) (dCons (dVar 1) dNil))) (.nm 2) (dNot (dTest (dCall sp_law_same [] (dCons (dOp dIxR (dVar 0) (dVar 2)) (dCons (dOp dIxR (dVar 1) (dVar 2)) dNil))))) (dVar 2) [2]) (dLst dNil))))))))
/-- _law_cells_due: 0 places, 1 far, 2 movement, 3 many, 4 lows, 5 due, 6 k, 7 place, 8 j -/
def t_law_cells_due (K : PySem.W.Frag) (sp_law_floor : DSp) (sp_law_over : DSp) (sp_law_minus : DSp) : DTS :=
  (dSeq (dAsg (dCB (dR1 dLenR) (dCons (dVar 0) dNil)) (.nm 3))
  (dSeq (dAsg (dLc false (dSeqI (dVar 0)) (.nm 7) dYes (dOp (dI0 fun i j => .int (i - j)) (dC (.int 0)) (dCall sp_law_floor [] (dCons (dCall sp_law_over [] (dCons (dCall sp_law_minus [] (dCons (dVar 2) (dCons (dVar 7) dNil))) (dCons (dTup (dCons (dC (.int 64)) (dCons (dC (.int 1)) dNil))) dNil))) dNil))) [7]) (.nm 4))
  (dSeq (dAsg (dLstM dNil) (.nm 5))
  (dSeq (dFor (dRng1 (dVar 3)) (.nm 6) (dDrop (dMtL dAppend (dVar 5) (dCons (dCB (dR1 (dOnIntsQ (fun ns => ns ≠ []) fun ns => .int (maxI ns))) (dCons (dLc false (dRng1 (dVar 3)) (.nm 8) (dTestB (dOp dIsNR (dOp dIxR (dOp dIxR (dVar 1) (dVar 8)) (dVar 6)) (dC .non))) (dOp dAddR (dOp dIxR (dVar 4) (dVar 8)) (dOp dIxR (dOp dIxR (dVar 1) (dVar 8)) (dVar 6))) [8]) dNil)) dNil))))
  (dGhost K (dRet (dVar 5)))))))
/-- _law_paper_right: 0 paper, 1 places, 2 rules, 3 movement, 4 mark, 5 apart, 6 number -/
def t_law_paper_right (sp_law_chain_right : DSp) (sp_law_needed : DSp) : DTS :=
  (dSeq (dIf (dOr (dNot (dTest (dCB (dR2 dIsiR) (dCons (dVar 0) (dCons (dC (.ty .tup)) dNil))))) (dOr (dTestB (dOp dNeQ (dCB (dR1 dLenR) (dCons (dVar 0) dNil)) (dC (.int 3)))) (dNot (dTest (dCB (dR2 dIsiR) (dCons (dOp dIxR (dVar 0) (dC (.int 1))) (dCons (dC (.ty .lst)) dNil))))))) (dRet (dC (.bl false))) dNext)
  (dSeq (dFor (dSeqI (dLst (dCons (dOp dIxR (dVar 0) (dC (.int 0))) (dCons (dOp dIxR (dVar 0) (dC (.int 2))) dNil)))) (.nm 4) (dIf (dOr (dNot (dTest (dCB (dR2 dIsiR) (dCons (dVar 4) (dCons (dC (.ty .int)) dNil))))) (dOr (dTest (dCB (dR2 dIsiR) (dCons (dVar 4) (dCons (dC (.ty .bool)) dNil)))) (dNot (dTestB (dChain (dCmpR (fun i j => decide (i ≤ j)) (fun a b => !decide (b < a))) (dCmpR (fun i j => decide (i < j)) (fun a b => decide (a < b))) (dC (.int 0)) (dVar 4) (dCB (dR1 dLenR) (dCons (dVar 1) dNil))))))) (dRet (dC (.bl false))) dNext))
  (dSeq (dIf (dTestB (dOp dEqQ (dOp dIxR (dVar 0) (dC (.int 1))) (dLst dNil))) (dSeq (dAsg (dC (.int 0)) (.nm 5))
  (dIf (dTestB (dOp dNeQ (dOp dIxR (dVar 0) (dC (.int 0))) (dOp dIxR (dVar 0) (dC (.int 2))))) (dRet (dC (.bl false))) dNext)) (dSeq (dIf (dOr (dNot (dTest (dCall sp_law_chain_right [] (dCons (dOp dIxR (dVar 0) (dC (.int 1))) (dCons (dVar 2) (dCons (dOp dIxR (dVar 0) (dC (.int 0))) (dCons (dOp dIxR (dVar 0) (dC (.int 2))) dNil))))))) (dTestB (dOp dEqQ (dOp dIxR (dVar 0) (dC (.int 0))) (dOp dIxR (dVar 0) (dC (.int 2)))))) (dRet (dC (.bl false))) dNext)
  (dAsg (dCB (dR1 (dOnInts (fun _ => True) fun ns => .int ns.sum)) (dCons (dLc false (dSeqI (dOp dIxR (dVar 0) (dC (.int 1)))) (.nm 6) dYes (dOp dIxR (dOp dIxR (dVar 2) (dVar 6)) (dC (.int 2))) [6]) dNil)) (.nm 5))))
  (dRet (dOp dEqQ (dCall sp_law_needed [] (dCons (dOp dIxR (dVar 1) (dOp dIxR (dVar 0) (dC (.int 0)))) (dCons (dVar 5) (dCons (dOp dIxR (dVar 1) (dOp dIxR (dVar 0) (dC (.int 2)))) dNil)))) (dVar 3))))))
/-- _law_right: 0 told, 1 places, 2 rules, 3 far, 4 movement, 5 due, 6 greatest, 7 k, 8 gap, 9 rule -/
def t_law_right (sp_law_least_movement : DSp) (sp_law_same : DSp) (sp_law_num : DSp) (sp_law_cells_due : DSp) (sp_law_minus : DSp) (sp_law_most : DSp) (sp_law_paper_right : DSp) : DTS :=
  (dSeq (dAsg (dCall sp_law_least_movement [] (dCons (dVar 1) (dCons (dVar 3) dNil))) (.nm 4))
  (dSeq (dIf (dOr (dNot (dTest (dCB (dR2 dIsiR) (dCons (dVar 0) (dCons (dC (.ty .tup)) dNil))))) (dOr (dTestB (dOp dNeQ (dCB (dR1 dLenR) (dCons (dVar 0) dNil)) (dC (.int 3)))) (dNot (dTest (dCall sp_law_same [] (dCons (dOp dIxR (dVar 0) (dC (.int 0))) (dCons (dCall sp_law_num [] (dCons (dVar 4) dNil)) dNil))))))) (dRet (dC (.bl false))) dNext)
  (dSeq (dAsg (dCall sp_law_cells_due [] (dCons (dVar 1) (dCons (dVar 3) (dCons (dVar 4) dNil)))) (.nm 5))
  (dSeq (dIf (dOr (dNot (dTest (dCall sp_law_same [] (dCons (dOp dIxR (dVar 0) (dC (.int 1))) (dCons (dVar 5) dNil))))) (dTestB (dOp dNeQ (dLc false (dSeqI (dVar 2)) (.nm 9) (dTestB (dOp (dCmpR (fun i j => decide (i < j)) (fun a b => decide (a < b))) (dOp dIxR (dVar 5) (dOp dIxR (dVar 9) (dC (.int 1)))) (dOp dAddR (dOp dIxR (dVar 5) (dOp dIxR (dVar 9) (dC (.int 0)))) (dOp dIxR (dVar 9) (dC (.int 2)))))) (dVar 9) [9]) (dLst dNil)))) (dRet (dC (.bl false))) dNext)
  (dSeq (dAsg (dTup (dCons (dC (.int 0)) (dCons (dC (.int 1)) dNil))) (.nm 6))
  (dSeq (dFor (dRng1 (dCB (dR1 dLenR) (dCons (dVar 1) dNil))) (.nm 7) (dSeq (dAsg (dCall sp_law_minus [] (dCons (dTup (dCons (dOp (dI MulOk fun i j => .int (i * j)) (dC (.int 64)) (dOp dIxR (dOp dIxR (dVar 0) (dC (.int 1))) (dVar 7))) (dCons (dC (.int 1)) dNil))) (dCons (dOp dIxR (dVar 1) (dVar 7)) dNil))) (.nm 8))
  (dAsg (dCall sp_law_most [] (dCons (dVar 6) (dCons (dTup (dCons (dCB (dR1 dAbsR) (dCons (dOp dIxR (dVar 8) (dC (.int 0))) dNil)) (dCons (dOp dIxR (dVar 8) (dC (.int 1))) dNil))) dNil))) (.nm 6))))
  (dRet (dAndV (dOp dEqQ (dVar 6) (dVar 4)) (dCall sp_law_paper_right [] (dCons (dOp dIxR (dVar 0) (dC (.int 2))) (dCons (dVar 1) (dCons (dVar 2) (dCons (dVar 4) dNil)))))))))))))
/-- law: 0 script, 1 k, 2 box, 3 many, 4 count, 5 hidden, 6 rules, 7 places, 8 handed, 9 kept, 10 far, 11 told, 12 again, 13 place -/
def t_law (K : PySem.W.Frag) (sp_law_box : DSp) (sp_law_cell : DSp) (sp_law_take : DSp) (sp_law_drawn_rules : DSp) (sp_law_places : DSp) (sp_law_num : DSp) (sp_law_far : DSp) (sp_law_cycle_right : DSp) (sp_law_refused : DSp) (sp_nearest_fit : DSp) (sp_law_right : DSp) (sp_law_same : DSp) : DTS :=
  (dSeq (dFor (dRng1 (dCB (dR2 dMax2R) (dCons (dC (.int 2)) (dCons (dCB (dR2 dMin2R) (dCons (dC (.int 4)) (dCons (dCB (dR1 dLenR) (dCons (dVar 0) dNil)) dNil))) dNil)))) (.nm 1) (dSeq (dAsg (dCall sp_law_box [] (dCons (dCall sp_law_cell [] (dCons (dVar 0) (dCons (dVar 1) dNil))) dNil)) (.nm 2))
  (dSeq (dAsg (dOp dIxR (dLst (dCons (dOp dAddR (dC (.int 1)) (dCall sp_law_take [] (dCons (dVar 2) (dCons (dC (.int 7)) dNil)))) (dCons (dC (.int 24)) dNil))) (dCB (dR1 dIntR) (dCons (dOp dEqQ (dCall sp_law_take [] (dCons (dVar 2) (dCons (dC (.int 9)) dNil))) (dC (.int 0))) dNil))) (.nm 3))
  (dSeq (dAsg (dOp dIxR (dLst (dCons (dCall sp_law_take [] (dCons (dVar 2) (dCons (dC (.int 13)) dNil))) (dCons (dCall sp_law_take [] (dCons (dVar 2) (dCons (dC (.int 96)) dNil))) dNil))) (dCB (dR1 dIntR) (dCons (dOp dEqQ (dCall sp_law_take [] (dCons (dVar 2) (dCons (dC (.int 9)) dNil))) (dC (.int 0))) dNil))) (.nm 4))
  (dSeq (dAsg (dCall sp_law_drawn_rules [] (dCons (dVar 2) (dCons (dVar 3) (dCons (dVar 4) dNil)))) (.tp [(.nm 5), (.nm 6)]))
  (dSeq (dAsg (dCall sp_law_places [] (dCons (dVar 2) (dCons (dVar 5) dNil))) (.nm 7))
  (dSeq (dPar 8 9 (dCons (dLc false (dSeqI (dVar 7)) (.nm 13) dYes (dCall sp_law_num [] (dCons (dVar 13) dNil)) [13]) (dCons (dCB (dR1 (dListR false)) (dCons (dVar 6) dNil)) dNil)))
  (dSeq (dAsg (dCall sp_law_far [] (dCons (dVar 3) (dCons (dVar 6) dNil))) (.nm 10))
  (dSeq (dIf (dTestB (dOp dIsR (dVar 10) (dC .non))) (dIf (dNot (dTest (dCall sp_law_cycle_right [] (dCons (dCall sp_law_refused [] (dCons (dVar 8) (dCons (dVar 6) dNil))) (dCons (dVar 6) dNil))))) (dRet (dC (.bl false))) dNext) (dSeq (dAsg (dCall sp_nearest_fit [] (dCons (dVar 8) (dCons (dVar 6) dNil))) (.nm 11))
  (dSeq (dIf (dNot (dTest (dCall sp_law_right [] (dCons (dVar 11) (dCons (dVar 7) (dCons (dVar 6) (dCons (dVar 10) dNil))))))) (dRet (dC (.bl false))) dNext)
  (dSeq (dAsg (dCallN 0 2 sp_nearest_fit (kperm [1, 0]) dNil (dCons (dCB (dR1 dTupleR) (dCons (dVar 6) dNil)) (dCons (dCB (dR1 dTupleR) (dCons (dVar 8) dNil)) dNil))) (.nm 12))
  (dIf (dOr (dNot (dTest (dCall sp_law_same [] (dCons (dOp dIxR (dVar 12) (dC (.int 0))) (dCons (dOp dIxR (dVar 11) (dC (.int 0))) dNil))))) (dNot (dTest (dCall sp_law_same [] (dCons (dOp dIxR (dVar 12) (dC (.int 1))) (dCons (dOp dIxR (dVar 11) (dC (.int 1))) dNil)))))) (dRet (dC (.bl false))) dNext)))))
  (dIf (dOr (dNot (dTest (dCall sp_law_same [] (dCons (dVar 8) (dCons (dLc false (dSeqI (dVar 7)) (.nm 13) dYes (dCall sp_law_num [] (dCons (dVar 13) dNil)) [13]) dNil))))) (dNot (dTest (dCall sp_law_same [] (dCons (dVar 6) (dCons (dVar 9) dNil)))))) (dRet (dC (.bl false))) dNext))))))))))
  (dGhost K (dRet (dC (.bl true)))))
end K68
set_option linter.all false
set_option maxRecDepth 100000
namespace K68
open PySem PySem.Spec L2 DL
abbrev sp_law_low := NUM.sp_law_low
def rd_law_low := @NUM.rd_law_low
abbrev sp_law_num := NUM.sp_law_num
def rd_law_num := @NUM.rd_law_num
abbrev sp_is_plain := NUM.sp_is_plain
def rd_is_plain := @NUM.rd_is_plain
abbrev sp_common_part := NUM.sp_common_part
def rd_common_part := @NUM.rd_common_part
abbrev sp_is_part := NUM.sp_is_part
def rd_is_part := @NUM.rd_is_part
abbrev sp_is_number := NUM.sp_is_number
def rd_is_number := @NUM.rd_is_number
abbrev sp_pair_of := NUM.sp_pair_of
def rd_pair_of := @NUM.rd_pair_of
abbrev sp_is_whole := NUM.sp_is_whole
def rd_is_whole := @NUM.rd_is_whole
abbrev sp_reckoned := NUM.sp_reckoned
def rd_reckoned := @NUM.rd_reckoned
abbrev sp_times := NUM.sp_times
def rd_times := @NUM.rd_times
abbrev sp_floor_of := NUM.sp_floor_of
def rd_floor_of := @NUM.rd_floor_of
abbrev sp_over := NUM.sp_over
def rd_over := @NUM.rd_over
abbrev sp_minus := NUM.sp_minus
def rd_minus := @NUM.rd_minus
abbrev sp_plus := NUM.sp_plus
def rd_plus := @NUM.rd_plus
abbrev sp_less := NUM.sp_less
def rd_less := @NUM.rd_less
abbrev sp_law_less := NUM.sp_law_less
def rd_law_less := @NUM.rd_law_less
abbrev sp_law_most := NUM.sp_law_most
def rd_law_most := @NUM.rd_law_most
abbrev sp_law_floor := NUM.sp_law_floor
def rd_law_floor := @NUM.rd_law_floor
abbrev sp_law_over := NUM.sp_law_over
def rd_law_over := @NUM.rd_law_over
abbrev sp_law_plus := NUM.sp_law_plus
def rd_law_plus := @NUM.rd_law_plus
abbrev sp_law_minus := NUM.sp_law_minus
def rd_law_minus := @NUM.rd_law_minus
abbrev sp_law_box := FIT.sp_law_box
def rd_law_box := @FIT.rd_law_box
abbrev sp_law_cell := FIT.sp_law_cell
def rd_law_cell := @FIT.rd_law_cell
abbrev sp_law_take := FIT.sp_law_take
def rd_law_take := @FIT.rd_law_take
abbrev sp_law_mixed := FIT.sp_law_mixed
def rd_law_mixed := @FIT.rd_law_mixed
abbrev sp_law_round_rules := FIT.sp_law_round_rules
def rd_law_round_rules := @FIT.rd_law_round_rules
abbrev sp_law_drawn_rules := FIT.sp_law_drawn_rules
def rd_law_drawn_rules := @FIT.rd_law_drawn_rules
abbrev sp_law_far := FIT.sp_law_far
def rd_law_far := @FIT.rd_law_far
abbrev sp_law_chain_right := FIT.sp_law_chain_right
def rd_law_chain_right := @FIT.rd_law_chain_right
abbrev sp_law_cycle_right := FIT.sp_law_cycle_right
def rd_law_cycle_right := @FIT.rd_law_cycle_right
abbrev sp_is_list := FIT.sp_is_list
def rd_is_list := @FIT.rd_is_list
abbrev sp_is_rule := FIT.sp_is_rule
def rd_is_rule := @FIT.rd_is_rule
abbrev sp_need_rules := FIT.sp_need_rules
def rd_need_rules := @FIT.rd_need_rules
abbrev sp_raised := FIT.sp_raised
def rd_raised := @FIT.rd_raised
abbrev sp_led_back := FIT.sp_led_back
def rd_led_back := @FIT.rd_led_back
abbrev sp_found_cycle := FIT.sp_found_cycle
def rd_found_cycle := @FIT.rd_found_cycle
abbrev sp_need_kept := FIT.sp_need_kept
def rd_need_kept := @FIT.rd_need_kept
abbrev sp_raised_from := FIT.sp_raised_from
def rd_raised_from := @FIT.rd_raised_from
abbrev sp_law_same_n := FIT.sp_law_same_n
abbrev sp_law_same := FIT.sp_law_same
def no_law_same := @FIT.no_law_same
def rd_law_same := @FIT.rd_law_same
end K68
set_option linter.all false
set_option maxRecDepth 100000
set_option maxHeartbeats 1000000
namespace K68
open PySem PySem.Spec L2 DL
open FIT NUM Rat
theorem Sh.frac {t d : Int} (ht : t.natAbs < 10 ^ 20) (hd : d.natAbs < 10 ^ 20) (h0 : d ≠ 0) : Sh (t /. d) := ⟨Nat.lt_of_le_of_lt (frac_le h0).1 ht, Nat.lt_of_le_of_lt (frac_le h0).2 hd⟩
theorem Sh.int {i : Int} (h : i.natAbs < 10 ^ 20) : Sh (i : Rat) := ⟨by rw [num_intCast]; exact h, by rw [den_intCast]; decide⟩
def IsPl (d : D) : Prop := ∃ q, d = prD q ∧ Sh q
theorem IsPl.int {i : Int} (h : i.natAbs < 10 ^ 20) : IsPl (.tup [.int i, .int 1]) := ⟨i, (prD_int i).symm, .int h⟩
def pr_places (x y : D) (G : GHp) (Q : DK) : Prop := ∃ (G0 : GHp) (p : Addr) (k : Nat) (hid : List Int), x = .ref p ∧ Bk G0 p k G ∧ k ≤ 100000 ∧ y = lsI hid ∧ hid.length ≤ 24 ∧ (∀ h ∈ hid, -60 ≤ h ∧ h ≤ 60) ∧
  ∀ (ps : List Rat) G', ps.length = hid.length → (∀ q ∈ ps, Sh q) → Bk G0 p (k + 300) G' → Q (.lst (ps.map prD)) G'
def sp_law_places : DSp := sp2 fun x y G Q _ => pr_places x y G Q
theorem rd_law_places {K : PySem.W.Frag} : ∀ x y G Q (E : DXK), pr_places x y G Q → DRun (t_law_places K spTake sp_law_low) [some x, some y, none, none, none, none, none, none, none] G Q := by
  intro x y G Q E h
  have key : ∀ sp : DSp, (∀ ds G Q E, spTake ds G Q E → sp ds G Q E) → DRun (t_law_places K sp sp_law_low) [some x, some y, none, none, none, none, none, none, none] G Q := by
    intro sp hsp
    obtain ⟨G0, p, k, hid, rfl, B, hk, rfl, hl, hb, h⟩ := h
    conv => whnf
    refine tk hsp B (by omega) (by omega) (by omega) fun v G v_0 v_1 B => ?_
    conv => whnf
    refine ⟨smallL (by simp), fun q hq => ?_⟩
    have hqp : q ≠ p := B.ne hq
    have hq0 : G0 q = none := by rw [← B.2 q hqp]; exact hq
    have B := B.new (o := .lst []) hqp
    conv => whnf
    refine for_ind (enc := D.int) (fun r δ G' => ∃ (ps : List Rat) (o4 o5 o6 o7 o8 : Option D), ps.length + r.length = hid.length ∧ (∀ w ∈ r, -60 ≤ w ∧ w ≤ 60) ∧ (∀ s ∈ ps, Sh s) ∧
        δ = [some (.ref p), some (lsI hid), some (.int v), some (.ref q), o4, o5, o6, o7, o8] ∧ Bk (gupd G0 q (.lst (ps.map prD))) p (k + 1 + 8 * ps.length) G') ?_ ?_ hid _ _ ⟨[], _, _, _, _, _, by simp, hb, by simp, rfl, B⟩
    · rintro δ G ⟨ps, o4, o5, o6, o7, o8, hpl, _, hps, rfl, B⟩
      refine ⟨trivial, ?_⟩
      have hat := B.at_ hqp
      obtain ⟨⟨s, hs1, hs2⟩, hs3⟩ := B
      conv => whnf
      refine ⟨[none, none, none, some (.lst (ps.map prD)), none, none, none, none, none], gupd G0 p s.go, View.tree (fun b => b = q) (fun b e => by rw [e, gupd_ne hqp]; exact hq0) (fun b o e => .inl ?_)
        (.cons (.no _) (.cons (.no _) (.cons (.no _) (.cons (.so (.ref rfl hat (.same _))) (.cons (.no _) (.cons (.no _) (.cons (.no _) (.cons (.no _) (.cons (.no _) .nil))))))))), ?_⟩
      · by_cases z : b = p
        · subst z; rw [gupd_same] at e; rw [hs1, e]
        · rw [gupd_ne z] at e
          rw [hs3 b z, gupd_ne fun z2 => by rw [z2, hq0] at e; cases e]; exact e
      simp at hpl
      exact h ps _ hpl hps ⟨⟨s, gupd_same, hs2.mono (by omega)⟩, fun b hb => gupd_ne hb⟩
    · rintro w r δ G ⟨ps, o4, o5, o6, o7, o8, hpl, hr, hps, rfl, B⟩
      rw [List.length_cons] at hpl
      have hw := hr w List.mem_cons_self
      refine ⟨trivial, _, rfl, fun N hN => ?_⟩
      conv => whnf
      refine ⟨mul_small (.inl (by omega)), ?_⟩
      conv => whnf
      refine ⟨mul_small (.inl (by omega)), ?_⟩
      conv => whnf
      refine tk hsp B (by omega) (by omega) (by omega) fun v1 G v1_0 v1_1 B => ?_
      conv => whnf
      have e20 : (10 : Int) ^ ((20 : Int).toNat) = 100000000000000000000 := by decide
      have hc : L2.CPow 10 20 := ⟨by decide, by decide, by decide⟩
      refine ⟨_, _, rfl, rfl, by decide, pow_le (a := 60) (by omega) (by decide), pow_le (a := 60) (by decide) (by decide), ?_⟩
      have near : IsPl (prD ((64 * w * 7 + v1 - 300) /. 7)) := ⟨_, rfl, .frac (by omega) (by decide) (by decide)⟩
      conv => whnf
      refine ⟨mul_small (.inl (by omega)), ?_⟩
      conv => whnf
      refine tk hsp B (by omega) (by omega) (by omega) fun v2 G v2_0 v2_1 B => ?_
      conv => whnf
      refine ⟨smallL (by simp), ?_⟩
      have far : IsPl (.tup [.int (64 * w + v2 - 1000), .int 1]) := .int (by omega)
      conv => whnf
      refine ⟨mul_small (.inl (by omega)), ?_⟩
      conv => whnf
      refine ⟨smallL (by simp), ?_⟩
      have amid : IsPl (.tup [.int (64 * w + 32), .int 1]) := .int (by omega)
      conv => whnf
      refine ⟨hc, ?_⟩
      conv => whnf
      refine tk hsp B (by omega) (by omega) (by omega) fun v3 G v3_0 v3_1 B => ?_
      conv => whnf
      refine ⟨smallL (by simp), ?_⟩
      conv => whnf
      refine ⟨hc, ?_⟩
      conv => whnf
      have g20 : ((10 : Int) ^ ((20 : Int).toNat) - 1) = 99999999999999999999 := by decide
      refine ⟨_, _, rfl, rfl, by decide, pow_le (a := 60) (by omega) (by decide), pow_le (a := 70) (by decide) (by decide), ?_⟩
      have gr1 : IsPl (.tup [.int ((10 : Int) ^ ((20 : Int).toNat) - 1 - v3), .int 1]) := .int (by rw [g20]; omega)
      have gr2 : IsPl (prD (w /. ((10 : Int) ^ ((20 : Int).toNat) - 1))) := ⟨_, rfl, .frac (by omega) (by decide) (by decide)⟩
      conv => whnf
      refine ⟨smallL (by simp), ?_⟩
      conv => whnf
      refine tk hsp B (by omega) (by omega) (by omega) fun v4 G v4_0 v4_1 B => ?_
      conv => whnf
      refine atD_of (by omega) (by simpa using by omega) fun great hgr => ?_
      have hgr : IsPl great := by
        simp only [List.mem_cons, List.not_mem_nil, or_false] at hgr
        rcases hgr with rfl | rfl
        · exact gr1
        · exact gr2
      have hat := B.at_ hqp
      conv => whnf
      rw [lsOf_ref hat]
      conv => whnf
      refine ⟨smallL (by simp), ?_⟩
      conv => whnf
      refine tk hsp B (by omega) (by omega) (by omega) fun v5 G v5_0 v5_1 B => ?_
      conv => whnf
      refine atD_of (by omega) (by simpa using by omega) fun e2 he2 => ?_
      have he2 : IsPl e2 := by
        simp only [List.mem_cons, List.not_mem_nil, or_false] at he2
        rcases he2 with rfl | rfl
        · exact near
        · exact amid
      conv => whnf
      refine ⟨smallL (by simp), ?_⟩
      conv => whnf
      refine ⟨smallL (by simp), ?_⟩
      conv => whnf
      refine tk hsp B (by omega) (by omega) (by omega) fun v6 G v6_0 v6_1 B => ?_
      conv => whnf
      refine atD_of (by omega) (by simpa using by omega) fun e4 he4 => ?_
      have he4 : IsPl e4 := by
        simp only [List.mem_cons, List.not_mem_nil, or_false] at he4
        rcases he4 with rfl | rfl
        · exact near
        · exact hgr
      conv => whnf
      refine ⟨smallL (by simp), ?_⟩
      conv => whnf
      refine atD_of (by omega) (by simpa using by omega) fun d hd => ?_
      have hd : IsPl d := by
        simp only [List.mem_cons, List.not_mem_nil, or_false] at hd
        rcases hd with rfl | rfl | rfl | rfl | rfl | rfl
        · exact near
        · exact far
        · exact he2
        · exact .int (by decide)
        · exact he4
        · exact near
      obtain ⟨qq, rfl, hqq⟩ := hd
      have hat := B.at_ hqp
      conv => whnf
      rw [hat]
      conv => whnf
      refine ⟨smallLt (by rw [List.length_map]; omega), ?_⟩
      conv => whnf
      refine hN _ _ ⟨ps ++ [qq], _, _, _, _, _, by rw [List.length_append]; simp; omega, fun w hw => hr w (List.mem_cons_of_mem _ hw), fun s hs => ?_, rfl, ?_⟩
      · rcases List.mem_append.mp hs with hs | hs
        · exact hps s hs
        · simp at hs; subst hs; exact hqq
      · rw [List.map_append]
        exact (B.put hqp).mono (by rw [List.length_append]; simp; omega)
  exact key _ fun _ _ _ _ h => h
def pr_short (x : D) (G : GHp) (Q : DK) : Prop := ∃ q, x = numD q ∧ Sh q ∧ Q (.bl true) G
def sp_is_short : DSp := sp1 fun x G Q _ => pr_short x G Q
theorem rd_is_short : ∀ x G Q (E : DXK), pr_short x G Q → DRun (t_is_short sp_is_number sp_pair_of) [some x, none] G Q := by
  rintro x G Q E ⟨q, rfl, hq, h⟩
  conv => whnf
  refine ⟨.num q, ?_⟩
  rw [nuB_num]
  conv => whnf
  refine ⟨fun _ => ?_, fun e => tf e⟩
  conv => whnf
  refine ⟨q, rfl, ?_⟩
  conv => whnf
  refine lc_map (enc := D.int) (keep := fun _ => true) (f := fun _ => .bl true) (xs := [q.num, (q.den : Int)]) (smallL (by simp)) trivial (fun _ _ R h => h) (fun w hw _ R hR => ?_) ?_
  · have hw : (w.natAbs : Int) < 100000000000000000000 := by
      obtain ⟨h1, h2⟩ := hq
      simp only [List.mem_cons, List.not_mem_nil, or_false] at hw
      rcases hw with rfl | rfl <;> omega
    conv => whnf
    have e : decide ((w.natAbs : Int) < 100000000000000000000) = true := decide_eq_true hw
    show R (.bl (decide ((w.natAbs : Int) < 100000000000000000000))) G
    rw [e]
    exact hR
  conv => whnf
  exact h
def pr_need_places (x : D) (G : GHp) (Q : DK) : Prop := ∃ ps : List Rat, Sq2 x (ps.map numD) ∧ 1 ≤ ps.length ∧ ps.length ≤ 24 ∧ (∀ q ∈ ps, Sh q) ∧ Q .non G
def sp_need_mark_places : DSp := sp1 fun x G Q _ => pr_need_places x G Q
theorem rd_need_mark_places : ∀ x G Q (E : DXK), pr_need_places x G Q → DRun (t_need_mark_places sp_is_list sp_is_short) [some x, none] G Q := by
  rintro x G Q E ⟨ps, hx, h1, h2, hs, h⟩
  conv => whnf
  refine ⟨_, 1, 24, hx.s3, rfl, rfl, by rw [List.length_map]; omega, by rw [List.length_map]; omega, ?_⟩
  conv => whnf
  refine ⟨fun e => ft e, fun _ => ?_⟩
  conv => whnf
  have key : dForL none (.nm 1) (dIf (dNot (dTest (dCall sp_is_short [] (dCons (dVar 1) dNil)))) dNever dNext) (ps.map numD) { nx := fun _ G' => Q .non G', rt := Q } [some x, none] G := by
    refine for_ind (enc := numD) (fun r δ G' => G' = G ∧ (∃ o, δ = [some x, o]) ∧ ∀ q ∈ r, Sh q) ?_ ?_ ps _ _ ⟨rfl, ⟨_, rfl⟩, hs⟩
    · rintro δ _ ⟨rfl, _, _⟩
      exact ⟨trivial, h⟩
    · rintro q r _ _ ⟨rfl, ⟨o, rfl⟩, hr⟩
      refine ⟨trivial, _, rfl, fun N hN => ?_⟩
      conv => whnf
      refine ⟨q, rfl, hr q List.mem_cons_self, ?_⟩
      conv => whnf
      exact ⟨fun e => ft e, fun _ => hN _ _ ⟨rfl, ⟨_, rfl⟩, fun m hm => hr m (List.mem_cons_of_mem _ hm)⟩⟩
  rcases hx with rfl | rfl
  · exact key
  · exact key
/-- what one pair of marks needs -/
def pr_needed (x y z : D) (G : GHp) (Q : DK) : Prop := ∃ (u v : Rat) (a : Int), x = numD u ∧ y = .int a ∧ z = numD v ∧ Sh u ∧ Sh v ∧ a.natAbs < 2 ^ 40 ∧ Q (numD (nd u a v)) G
def sp_needed_for : DSp := sp3 fun x y z G Q _ => pr_needed x y z G Q
theorem rd_needed_for : ∀ x y z G Q (E : DXK), pr_needed x y z G Q → DRun (t_needed_for sp_floor_of sp_over sp_minus sp_plus sp_less) [some x, some y, some z, none, none, none] G Q := by
  rintro x y z G Q E ⟨u, v, a, rfl, rfl, rfl, hu, hv, ha, h⟩
  obtain ⟨m1, m2, m3⟩ := mid_sz hu hv ha
  have hb := blw_sz hu hv ha
  have hab := abv_sz hu hv ha
  conv => whnf
  refine ⟨u, v, rfl, rfl, hu.sz.mono (by decide), hv.sz.mono (by decide), trivial, ?_⟩
  conv => whnf
  refine ⟨mul_small (.inl (by omega)), ?_⟩
  conv => whnf
  refine ⟨u + v, ((64 * a : Int) : Rat), rfl, (numD_int _).symm, (hu.sz.add hv.sz).mono (by decide), szI (b := 60) (by omega) (by decide) |>.mono (by decide), trivial, ?_⟩
  conv => whnf
  refine ⟨mul_small (.inl (by omega)), ?_⟩
  conv => whnf
  refine ⟨_, ((128 : Int) : Rat), rfl, (numD_int _).symm, m1.mono (by decide), szI (b := 10) (by decide) (by decide) |>.mono (by decide), (show ((128 : Int) : Rat) ≠ 0 by decide), ?_⟩
  refine ⟨rfl, rfl, ?_⟩
  refine ⟨(u + v - ((64 * a : Int) : Rat)) / 128, ((1 : Int) : Rat), rfl, (numD_int _).symm, m2.mono (by decide), szI (b := 10) (by decide) (by decide) |>.mono (by decide), by decide, ?_⟩
  have e1 : numD (((1 : Int) : Rat) * ((((u + v - ((64 * a : Int) : Rat)) / 128) / ((1 : Int) : Rat)).floor : Rat)) = .int (mid u a v) := floor_one _
  rw [e1]
  conv => whnf
  refine ⟨mul_small (.inl (by omega)), ?_⟩
  conv => whnf
  refine ⟨u, ((64 * mid u a v : Int) : Rat), rfl, (numD_int _).symm, hu.sz.mono (by decide), szI (b := 300) (pow_le (a := 200) (by omega) (by decide)) (by decide) |>.mono (by decide), trivial, ?_⟩
  conv => whnf
  refine ⟨mul_small (.inl (by omega)), ?_⟩
  conv => whnf
  refine ⟨((64 * (mid u a v + 1 + a) : Int) : Rat), v, (numD_int _).symm, rfl, szI (b := 300) (pow_le (a := 200) (by omega) (by decide)) (by decide) |>.mono (by decide), hv.sz.mono (by decide), trivial, ?_⟩
  conv => whnf
  refine ⟨abv u a v, blw u a v, rfl, rfl, hab.mono (by decide), hb.mono (by decide), trivial, ?_⟩
  unfold nd at h
  conv => whnf
  refine ⟨fun e => ?_, fun e => ?_⟩
  · rw [if_pos (of_decide_eq_true e)] at h
    exact h
  · rw [if_neg (of_decide_eq_false e)] at h
    exact h
end K68
set_option linter.all false
set_option maxRecDepth 100000
set_option maxHeartbeats 1000000
namespace K68
open PySem PySem.Spec L2 DL
open FIT NUM Rat
theorem Tb_small {n : Nat} {rs : List Rl} {F : Fm} (h : Tb n rs F) (hn : n ≤ 24) {k j : Nat} {a : Int} (e : F k j = some a) : a.natAbs < 2 ^ 40 := by
  have h1 := h.att.bd k j a e
  have h2 : 2 ^ n ≤ 2 ^ 24 := Nat.pow_le_pow_right (by decide) hn
  omega
def plD (n : Nat) (p : Nat → Rat) : List D := tab n fun i => numD (p i)
theorem plD_map (n : Nat) (p : Nat → Rat) : plD n p = ((List.range n).map p).map numD := by unfold plD tab; rw [List.map_map]; rfl
/-- the paper: a chain that needs the movement -/
def Pp (n : Nat) (rs : List Rl) (F : Fm) (p : Nat → Rat) (M : Rat) (f l : Nat) (ch : D) : Prop := f < n ∧ l < n ∧ ∃ a, F f l = some a ∧ M = nd (p f) a (p l) ∧
  ((f = l ∧ ch = .lst []) ∨ (f ≠ l ∧ ∃ q len, Pa n rs q f l len ∧ ch = cyD rs q l len ∧ psum rs q l len = a))
def bsD (M : Rat) (f l : Nat) (ch : D) : D := .tup [numD M, .int f, ch, .int l]
/-- the best of the pairs gone through -/
def boD : Option (Rat × Nat × Nat × D) → D
  | none => .non
  | some (M, f, l, ch) => bsD M f l ch
def BS (n : Nat) (rs : List Rl) (F : Fm) (p : Nat → Rat) (i j : Nat) : Option (Rat × Nat × Nat × D) → Prop
  | none => ∀ k l, l < n → (k < i ∨ (k = i ∧ l < j)) → F k l = none
  | some (M, f, l, ch) => Pp n rs F p M f l ch ∧ ∀ k l a, l < n → (k < i ∨ (k = i ∧ l < j)) → F k l = some a → nd (p k) a (p l) ≤ M
def pr_tight (x y : D) (G : GHp) (Q : DK) : Prop := ∃ (n : Nat) (rs : List Rl) (p : Nat → Rat) (F : Fm), Sq2 x (plD n p) ∧ Sq2 y (rs.map rlD) ∧ 1 ≤ n ∧ n ≤ 24 ∧ Vr n rs ∧ rs.length ≤ 100 ∧ (∃ q, Pot rs q) ∧ Tb n rs F ∧ (∀ i, i < n → Sh (p i)) ∧
  ∀ M f l ch, Mv n F p M → Pp n rs F p M f l ch → Q (bsD M f l ch) G
def sp_tight_chain : DSp := sp2 fun x y G Q _ => pr_tight x y G Q
theorem rd_tight_chain : ∀ x y G Q (E : DXK), pr_tight x y G Q → DRun (t_tight_chain sp_raised_from sp_needed_for sp_less sp_led_back) [some x, some y, none, none, none, none, none, none, none, none, none] G Q := by
  rintro x y G Q E ⟨n, rs, p, F, hx, hy, h1, h2, hV, hl, hP, hF, hS, h⟩
  have hL : (plD n p).length = n := tab_len n _
  have main : dForL none (.tp [.nm 3, .nm 4]) (dSeq (dAsg (dCall sp_raised_from [] (dCons (dCB (dR1 dLenR) (dCons (dVar 0) dNil)) (dCons (dVar 1) (dCons (dVar 3) dNil)))) (.tp [(.nm 5), (.nm 6)]))
      (dFor (dEnumQ (dVar 5)) (.tp [(.nm 7), (.nm 8)]) (dSeq (dIf (dTestB (dOp dIsR (dVar 8) (dC .non))) dCont dNext)
      (dSeq (dAsg (dCall sp_needed_for [] (dCons (dVar 4) (dCons (dVar 8) (dCons (dOp dIxR (dVar 0) (dVar 7)) dNil)))) (.nm 9))
      (dIf (dOr (dTestB (dOp dIsR (dVar 2) (dC .non))) (dTest (dCall sp_less [] (dCons (dOp dIxR (dVar 2) (dC (.int 0))) (dCons (dVar 9) dNil))))) (dSeq (dAsg (dIfE (dTestB (dOp dNeQ (dVar 7) (dVar 3))) (dCall sp_led_back [] (dCons (dVar 6) (dCons (dVar 1) (dCons (dVar 3) (dCons (dVar 7) dNil))))) (dLst dNil)) (.nm 10))
      (dAsg (dTup (dCons (dVar 9) (dCons (dVar 3) (dCons (dVar 10) (dCons (dVar 7) dNil))))) (.nm 2))) dNext))))) (enumFrom 0 (plD n p)) { nx := dRet (dVar 2) { nx := fun _ G' => Q .non G', rt := Q }, rt := Q } [some x, some y, some .non, none, none, none, none, none, none, none, none] G := by
    rw [show enumFrom 0 (plD n p) = _ from enum_tab n _]
    refine for_rng (enc := fun (k : Nat) => D.tup [.int k, numD (p k)]) (fun i δ G' => G' = G ∧ ∃ b o3 o4 o5 o6 o7 o8 o9 o10, δ = [some x, some y, some (boD b), o3, o4, o5, o6, o7, o8, o9, o10] ∧ BS n rs F p i 0 b) n ?_ ?_ _ _
      ⟨rfl, none, _, _, _, _, _, _, _, _, rfl, fun k l hl hd => absurd hd (by omega)⟩
    · rintro δ G ⟨rfl, b, o3, o4, o5, o6, o7, o8, o9, o10, rfl, hB⟩
      refine ⟨trivial, ?_⟩
      conv => whnf
      match b, hB with
      | none, hn =>
        have := hn 0 0 (by omega) (by omega)
        rw [hF.cl.dg 0 (by omega)] at this
        cases this
      | some (M, f, l, ch), ⟨hPp, hm⟩ =>
        obtain ⟨hf, hl', a, e1, e2, _⟩ := id hPp
        exact h M f l ch ⟨fun k j a hk hj e => hm k j a hj (by omega) e, f, l, a, hf, hl', e1, e2⟩ hPp
    · rintro i hi δ G ⟨rfl, b, o3, o4, o5, o6, o7, o8, o9, o10, rfl, hB⟩
      refine ⟨trivial, _, rfl, fun N hN => ?_⟩
      have ix : ∀ j, j < n → ∀ R : DK, R (numD (p j)) G → dIxR x (.int j) G R := fun j hj R r => by
        rcases hx with rfl | rfl
        · exact tab_at (f := fun i => numD (p i)) hj r
        · exact tab_at (f := fun i => numD (p i)) hj r
      have inner : ∀ c q mk, RP n rs (fun x => if x = i then some 0 else none) c q mk → dForL none (.tp [(.nm 7), (.nm 8)]) (dSeq (dIf (dTestB (dOp dIsR (dVar 8) (dC .non))) dCont dNext)
          (dSeq (dAsg (dCall sp_needed_for [] (dCons (dVar 4) (dCons (dVar 8) (dCons (dOp dIxR (dVar 0) (dVar 7)) dNil)))) (.nm 9))
          (dIf (dOr (dTestB (dOp dIsR (dVar 2) (dC .non))) (dTest (dCall sp_less [] (dCons (dOp dIxR (dVar 2) (dC (.int 0))) (dCons (dVar 9) dNil))))) (dSeq (dAsg (dIfE (dTestB (dOp dNeQ (dVar 7) (dVar 3))) (dCall sp_led_back [] (dCons (dVar 6) (dCons (dVar 1) (dCons (dVar 3) (dCons (dVar 7) dNil))))) (dLst dNil)) (.nm 10))
          (dAsg (dTup (dCons (dVar 9) (dCons (dVar 3) (dCons (dVar 10) (dCons (dVar 7) dNil))))) (.nm 2))) dNext))) (enumFrom 0 (tab n fun k => encF (c k))) { nx := N, rt := Q, bk := dRet (dVar 2) { nx := fun _ G' => Q .non G', rt := Q }, ct := N } [some x, some y, some (boD b), some (.int i), some (numD (p i)), some (lsF n c), some (lsP n q), o7, o8, o9, o10] G := by
        intro c q mk hR
        have hc : ∀ j, j < n → c j = F i j := fun j hj => from_at hR hP hV.w hF hi hj
        rw [enum_tab]
        refine for_rng (enc := fun (k : Nat) => D.tup [.int k, encF (c k)]) (fun j δ G2 => G2 = G ∧ ∃ b o7 o8 o9 o10, δ = [some x, some y, some (boD b), some (.int i), some (numD (p i)), some (lsF n c), some (lsP n q), o7, o8, o9, o10] ∧ BS n rs F p i j b) n ?_ ?_ _ _
          ⟨rfl, b, _, _, _, _, rfl, hB⟩
        · rintro δ G ⟨rfl, b, o7, o8, o9, o10, rfl, hB⟩
          refine ⟨trivial, hN _ _ ⟨rfl, b, _, _, _, _, _, _, _, _, rfl, ?_⟩⟩
          match b, hB with
          | none, hn => exact fun k l hl hd => hn k l hl (by omega)
          | some (M, f, l, ch), ⟨hPp, hm⟩ => exact ⟨hPp, fun k l a hl hd => hm k l a hl (by omega)⟩
        · rintro j hj δ G ⟨rfl, b, o7, o8, o9, o10, rfl, hB⟩
          refine ⟨trivial, _, rfl, fun N2 hN2 => ?_⟩
          have hcj := hc j hj
          -- the better one is taken
          have upd : ∀ a, F i j = some a → (∀ k l a', l < n → (k < i ∨ (k = i ∧ l < j)) → F k l = some a' → nd (p k) a' (p l) ≤ nd (p i) a (p j)) →
              dSeq (dAsg (dIfE (dTestB (dOp dNeQ (dVar 7) (dVar 3))) (dCall sp_led_back [] (dCons (dVar 6) (dCons (dVar 1) (dCons (dVar 3) (dCons (dVar 7) dNil))))) (dLst dNil)) (.nm 10))
                (dAsg (dTup (dCons (dVar 9) (dCons (dVar 3) (dCons (dVar 10) (dCons (dVar 7) dNil))))) (.nm 2)) { nx := N2, rt := Q, bk := N, ct := N2 }
                [some x, some y, some (boD b), some (.int i), some (numD (p i)), some (lsF n c), some (lsP n q), some (.int j), some (.int a), some (numD (nd (p i) a (p j))), o10] G := by
            intro a ha hall
            have fin : ∀ ch, Pp n rs F p (nd (p i) a (p j)) i j ch → N2 [some x, some y, some (bsD (nd (p i) a (p j)) i j ch), some (.int i), some (numD (p i)), some (lsF n c), some (lsP n q), some (.int j), some (.int a), some (numD (nd (p i) a (p j))), some ch] G := by
              intro ch hPp
              refine hN2 _ _ ⟨rfl, some (_, i, j, ch), _, _, _, _, rfl, hPp, fun k l a' hl hd e => ?_⟩
              by_cases q : k < i ∨ (k = i ∧ l < j)
              · exact hall k l a' hl q e
              · have e1 : k = i := by omega
                have e2 : l = j := by omega
                subst e1 e2
                rw [ha] at e
                cases e
                exact Rat.le_refl
            conv => whnf
            refine ⟨fun e => ?_, fun e => ?_⟩
            · have e : (!decide ((j : Int) = (i : Int))) = true := e
              have hne : i ≠ j := fun z => by rw [z, decide_eq_true rfl] at e; exact ft e
              obtain ⟨q0, hq0⟩ := hP
              obtain ⟨R, τ, T, hBI, hM⟩ := hR
              obtain ⟨len, hPa, hs⟩ := hBI.chain hq0 hne hj hi (ch := a) (by rw [hcj, ha])
              have hs2 : psum rs q j len = a := by
                obtain ⟨⟨a', f1, f2⟩, _⟩ := hF.cl.chain hV.w hPa.ch hi
                rw [ha] at f1
                cases f1
                omega
              conv => whnf
              refine ⟨n, rs, q, i, j, len, hPa, hl, rfl, hy, rfl, rfl, ?_⟩
              conv => whnf
              refine ⟨smallL (by simp), ?_⟩
              exact fin _ ⟨hi, hj, a, ha, rfl, .inr ⟨hne, q, len, hPa, rfl, hs2⟩⟩
            · have e : (!decide ((j : Int) = (i : Int))) = false := e
              have heq : i = j := by
                by_cases z : i = j
                · exact z
                · rw [decide_eq_false (by omega)] at e; exact tf e
              conv => whnf
              refine ⟨smallL (by simp), ?_⟩
              conv => whnf
              refine ⟨smallL (by simp), ?_⟩
              exact fin _ ⟨hi, hj, a, ha, rfl, .inl ⟨heq, rfl⟩⟩
          conv => whnf
          rw [hcj]
          cases ha : F i j with
          | none =>
            conv => whnf
            refine ⟨fun _ => ?_, fun e => tf e⟩
            conv => whnf
            refine hN2 _ _ ⟨rfl, b, _, _, _, _, rfl, ?_⟩
            have hno : ∀ k l a, (k < i ∨ (k = i ∧ l < j + 1)) → F k l = some a → k < i ∨ (k = i ∧ l < j) := fun k l a hd e => by
              by_cases q : k < i ∨ (k = i ∧ l < j)
              · exact q
              · have e1 : k = i := by omega
                have e2 : l = j := by omega
                subst e1 e2
                rw [ha] at e; cases e
            match b, hB with
            | none, hn =>
              intro k l hl hd
              cases e : F k l with
              | none => rfl
              | some a =>
                have := hn k l hl (hno k l a hd e)
                rw [this] at e; cases e
            | some (M, f, l, ch), ⟨hPp, hm⟩ => exact ⟨hPp, fun k l a hl hd e => hm k l a hl (hno k l a hd e) e⟩
          | some a =>
            have hsm := Tb_small hF h2 ha
            have hns := nd_sz (hS i hi) (hS j hj) hsm
            conv => whnf
            refine ⟨fun e => ft e, fun _ => ?_⟩
            conv => whnf
            refine ix j hj _ ?_
            conv => whnf
            refine ⟨p i, p j, a, rfl, rfl, rfl, hS i hi, hS j hj, hsm, ?_⟩
            match b, hB with
            | none, hn =>
              conv => whnf
              refine ⟨fun _ => ?_, fun e => tf e⟩
              conv => whnf
              refine ⟨fun _ => ?_, fun e => tf e⟩
              conv => whnf
              exact upd a ha fun k l a' hl hd e => by rw [hn k l hl hd] at e; cases e
            | some (M, f, l, ch), ⟨hPp, hm⟩ =>
              have hMs : Sz 280 M := by
                obtain ⟨g1, g2, a', g3, g4, _⟩ := hPp
                rw [g4]
                exact nd_sz (hS f g1) (hS l g2) (Tb_small hF h2 g3)
              conv => whnf
              refine ⟨fun e => ft e, fun _ => ?_⟩
              conv => whnf
              refine ⟨M, nd (p i) a (p j), rfl, rfl, hMs.mono (by decide), hns.mono (by decide), trivial, ?_⟩
              conv => whnf
              refine ⟨fun e => ?_, fun e => ?_⟩
              · have e : M < nd (p i) a (p j) := of_decide_eq_true e
                refine upd a ha fun k l a' hl hd e2 => ?_
                have := hm k l a' hl hd e2
                grind
              · have e : ¬ M < nd (p i) a (p j) := of_decide_eq_false e
                refine hN2 _ _ ⟨rfl, some (M, f, l, ch), _, _, _, _, rfl, hPp, fun k l' a' hl hd e2 => ?_⟩
                by_cases q : k < i ∨ (k = i ∧ l' < j)
                · exact hm k l' a' hl q e2
                · have e3 : k = i := by omega
                  have e4 : l' = j := by omega
                  subst e3 e4
                  rw [ha] at e2; cases e2
                  grind
      have call : sp_raised_from [.int n, y, .int i] G (fun d G1 => match (Tgt.tp [(.nm 5), (.nm 6)]).set d [some x, some y, some (boD b), some (.int i), some (numD (p i)), o5, o6, o7, o8, o9, o10] with
          | some δ' => dFor (dEnumQ (dVar 5)) (.tp [(.nm 7), (.nm 8)]) (dSeq (dIf (dTestB (dOp dIsR (dVar 8) (dC .non))) dCont dNext)
            (dSeq (dAsg (dCall sp_needed_for [] (dCons (dVar 4) (dCons (dVar 8) (dCons (dOp dIxR (dVar 0) (dVar 7)) dNil)))) (.nm 9))
            (dIf (dOr (dTestB (dOp dIsR (dVar 2) (dC .non))) (dTest (dCall sp_less [] (dCons (dOp dIxR (dVar 2) (dC (.int 0))) (dCons (dVar 9) dNil))))) (dSeq (dAsg (dIfE (dTestB (dOp dNeQ (dVar 7) (dVar 3))) (dCall sp_led_back [] (dCons (dVar 6) (dCons (dVar 1) (dCons (dVar 3) (dCons (dVar 7) dNil))))) (dLst dNil)) (.nm 10))
            (dAsg (dTup (dCons (dVar 9) (dCons (dVar 3) (dCons (dVar 10) (dCons (dVar 7) dNil))))) (.nm 2))) dNext))) { nx := N, rt := Q, bk := dRet (dVar 2) { nx := fun _ G' => Q .non G', rt := Q }, ct := N } δ' G1
          | none => False) DX0 := by
        refine ⟨n, rs, i, rfl, hy, rfl, hi, h2, hV, hl, fun c q mk hR => ?_⟩
        exact inner c q mk hR
      rcases hx with hx | hx
      all_goals
        subst hx
        conv => whnf
        rw [hL]
        exact call
  rcases hx with hx | hx
  · rw [hx] at main ⊢
    conv => whnf
    exact main
  · rw [hx] at main ⊢
    conv => whnf
    exact main
def anD (n : Nat) (M : Rat) (c : Nat → Int) (f l : Nat) (ch : D) : D := .tup [numD M, lsC n c, .tup [.int f, ch, .int l]]
def pr_nearest (K : PySem.W.Frag) (x y : D) (G : GHp) (Q : DK) (E : DXK) : Prop := ∃ (n : Nat) (rs : List Rl) (p : Nat → Rat), Sq2 x (plD n p) ∧ Sq2 y (rs.map rlD) ∧ 1 ≤ n ∧ n ≤ 24 ∧ Vr n rs ∧ rs.length ≤ 100 ∧ (∀ i, i < n → Sh (p i)) ∧
  Kept n rs (fun F => ∀ M c f l ch, Mv n F p M → LF n F (fun k => low M (p k)) c → Pp n rs F p M f l ch → Q (anD n M c f l ch) G) ∧ exFit K n rs G E
def sp_nearest_fit (K : PySem.W.Frag) : DSp := sp2 fun x y G Q E => pr_nearest K x y G Q E
theorem Mv.sz {n : Nat} {rs : List Rl} {F : Fm} {p : Nat → Rat} {M : Rat} (h : Mv n F p M) (hF : Tb n rs F) (hn : n ≤ 24) (hS : ∀ i, i < n → Sh (p i)) : Sz 280 M := by
  obtain ⟨k, j, a, hk, hj, e, e2⟩ := h.at_
  rw [e2]
  exact nd_sz (hS k hk) (hS j hj) (Tb_small hF hn e)
theorem rd_nearest_fit {K : PySem.W.Frag} : ∀ x y G Q (E : DXK), pr_nearest K x y G Q E → DRunX (t_nearest_fit sp_need_mark_places sp_need_rules (sp_need_kept K) sp_tight_chain sp_floor_of sp_over sp_minus sp_raised) [some x, some y, none, none, none, none, none, none] G Q E := by
  rintro x y G Q E ⟨n, rs, p, hx, hy, h1, h2, hV, hl, hS, hK, hE⟩
  have hL : (plD n p).length = n := tab_len n _
  have rest : ∀ x', x' = x → (∃ c, Pot rs c) → sp_tight_chain [x', y] G (fun d G1 => match (Tgt.tp [(.nm 2), (.nm 3), (.nm 4), (.nm 5)]).set d [some x', some y, none, none, none, none, none, none] with
      | some δ' => dSeq (dAsg (dLc false (dSeqI (dVar 0)) (.nm 7) dYes (dOp (dI0 fun i j => .int (i - j)) (dC (.int 0)) (dCallN 1 0 sp_floor_of (fun ds es => pick [0, 1] (ds ++ es ++ [D.int 1])) (dCons (dCall sp_over [] (dCons (dCall sp_minus [] (dCons (dVar 2) (dCons (dVar 7) dNil))) (dCons (dC (.int 64)) dNil))) dNil) dNil)) [7]) (.nm 6))
          (dRet (dTup (dCons (dVar 2) (dCons (dOp dIxR (dCall sp_raised [] (dCons (dVar 6) (dCons (dVar 1) dNil))) (dC (.int 0))) (dCons (dTup (dCons (dVar 3) (dCons (dVar 4) (dCons (dVar 5) dNil)))) dNil))))) { nx := fun _ G' => Q .non G', rt := Q, ex := fun c fs _ G' => E c fs G' } δ' G1
      | none => False) DX0 := by
    rintro x' rfl hP
    rcases hK.symm with hno | ⟨F, hF, h⟩
    · obtain ⟨q, hq⟩ := hP
      exact absurd hq (hno q)
    refine ⟨n, rs, p, F, hx, hy, h1, h2, hV, hl, hP, hF, hS, fun M f l ch hM hPp => ?_⟩
    have hMs := hM.sz hF h2 hS
    have lows : ∀ x', dLcL false none (.nm 7) dYes (dOp (dI0 fun i j => .int (i - j)) (dC (.int 0)) (dCallN 1 0 sp_floor_of (fun ds es => pick [0, 1] (ds ++ es ++ [D.int 1])) (dCons (dCall sp_over [] (dCons (dCall sp_minus [] (dCons (dVar 2) (dCons (dVar 7) dNil))) (dCons (dC (.int 64)) dNil))) dNil) dNil))
        [some x', some y, some (numD M), some (.int f), some ch, some (.int l), none, none] (plD n p) [] G fun d G1 => match (Tgt.nm 6).set d [some x', some y, some (numD M), some (.int f), some ch, some (.int l), none, none] with
          | some δ' => dRet (dTup (dCons (dVar 2) (dCons (dOp dIxR (dCall sp_raised [] (dCons (dVar 6) (dCons (dVar 1) dNil))) (dC (.int 0))) (dCons (dTup (dCons (dVar 3) (dCons (dVar 4) (dCons (dVar 5) dNil)))) dNil)))) { nx := fun _ G' => Q .non G', rt := Q, ex := fun c fs _ G' => E c fs G' } δ' G1
          | none => False := by
      intro x'
      refine lc_map (enc := fun (i : Nat) => numD (p i)) (keep := fun _ => true) (f := fun i => .int (low M (p i))) (xs := List.range n) (smallL (by rw [List.length_range]; omega)) trivial (fun _ _ R h => h) (fun i hi _ R hR => ?_) ?_
      · have hi := List.mem_range.mp hi
        have hps := (hS i hi).sz
        have s1 : Sz 360 (M - p i) := (hMs.sub hps).mono (by decide)
        have s2 : Sz 370 ((M - p i) / ((64 : Int) : Rat)) := (s1.div (szI (b := 8) (i := 64) (by decide) (by decide)) (by decide)).mono (by decide)
        conv => whnf
        refine ⟨M, p i, rfl, rfl, hMs.mono (by decide), hps.mono (by decide), trivial, ?_⟩
        conv => whnf
        refine ⟨M - p i, ((64 : Int) : Rat), rfl, (numD_int _).symm, s1.mono (by decide), szI (b := 8) (i := 64) (by decide) (by decide) |>.mono (by decide), (show ((64 : Int) : Rat) ≠ 0 by decide), ?_⟩
        refine ⟨rfl, rfl, ?_⟩
        refine ⟨(M - p i) / ((64 : Int) : Rat), ((1 : Int) : Rat), rfl, (numD_int _).symm, s2.mono (by decide), szI (b := 10) (by decide) (by decide) |>.mono (by decide), by decide, ?_⟩
        have e1 : numD (((1 : Int) : Rat) * ((((M - p i) / ((64 : Int) : Rat)) / ((1 : Int) : Rat)).floor : Rat)) = .int ((M - p i) / ((64 : Int) : Rat)).floor := floor_one _
        rw [e1]
        exact hR
      rw [filter_yes]
      have e0 : (List.range n).map (fun i => D.int (low M (p i))) = tab n fun i => .int (low M (p i)) := rfl
      rw [e0]
      conv => whnf
      refine ⟨n, rs, _, .inl (by rw [tab_enc]), hy, h1, h2, hV.w, by omega, fun c q mk hR => ?_⟩
      obtain ⟨q0, hq⟩ := hP
      obtain ⟨R, τ, T, hB, hMk⟩ := hR
      have hPo : PotO rs c := by
        rcases hMk with ⟨_, h⟩ | ⟨m, hm, _, hRm⟩
        · exact h
        · exact (hB.calm hq hRm (by omega)).elim
      obtain ⟨hLF, hc⟩ := hB.least hPo hV.w hF.cl hF.att.ch (ls := fun i => low M (p i)) fun _ => rfl
      have e : lsF n c = lsC n (cg c) := congrArg D.lst (tab_congr fun i hi => by rw [hc i hi]; rfl)
      conv => whnf
      rw [e]
      refine ⟨smallL (by simp), ?_⟩
      conv => whnf
      refine ⟨smallL (by simp), ?_⟩
      exact h M (cg c) f l ch hM hLF hPp
    rcases hx with hx | hx
    all_goals
      subst hx
      exact lows _
  rcases hx with hx | hx
  all_goals
    subst hx
    conv => whnf
    refine ⟨(List.range n).map p, by rw [← plD_map]; first | exact .inl rfl | exact .inr rfl, by simpa using h1, by simpa using h2, fun q hq => ?_, ?_⟩
    · obtain ⟨i, hi, rfl⟩ := List.mem_map.mp hq
      exact hS i (List.mem_range.mp hi)
    conv => whnf
    rw [hL]
    refine ⟨rs, n, hy, rfl, hV, hl, ?_⟩
    conv => whnf
    rw [hL]
    refine ⟨n, rs, rfl, hy, h1, h2, hV, hl, fun hP => ?_, hE⟩
    exact rest _ rfl hP
def pr_refused (K : PySem.W.Frag) (x y : D) (G : GHp) (Q : DK) : Prop := ∃ (n : Nat) (rs : List Rl) (p : Nat → Rat), x = .lst (plD n p) ∧ y = .lst (rs.map rlD) ∧ 1 ≤ n ∧ n ≤ 24 ∧ Vr n rs ∧ rs.length ≤ 100 ∧ (∀ i, i < n → Sh (p i)) ∧ (∀ c, ¬ Pot rs c) ∧ PySem.W.exmOne K (exC K "NoFit") (exC K "NoFit") = some true ∧
  ∀ p s l, Tr n rs p s l → Q (cyD rs p s l) G
def sp_law_refused (K : PySem.W.Frag) : DSp := sp2 fun x y G Q _ => pr_refused K x y G Q
theorem rd_law_refused {K : PySem.W.Frag} : ∀ x y G Q (E : DXK), pr_refused K x y G Q → DRun (t_law_refused K (sp_nearest_fit K)) [some x, some y, none] G Q := by
  rintro x y G Q E ⟨n, rs, p, rfl, rfl, h1, h2, hV, hl, hS, hno, hx, h⟩
  conv => whnf
  refine ⟨n, rs, p, .inl rfl, .inl rfl, h1, h2, hV, hl, hS, .inr hno, fun q s l t => ?_⟩
  exact ⟨true, hx, fun _ => ⟨rfl, by simp, _, _, rfl, rfl, h q s l t⟩, fun e => tf e⟩
end K68
set_option linter.all false
set_option maxRecDepth 100000
set_option maxHeartbeats 1000000
namespace K68
open PySem PySem.Spec L2 DL
open FIT NUM Rat
theorem one_le_den (q : Rat) : (1 : Int) ≤ q.den := by have := q.den_pos; omega
theorem Sh.lt {q : Rat} (h : Sh q) : q < 100000000000000000000 ∧ -100000000000000000000 < q := by
  have e1 : (100000000000000000000 : Rat) = ((100000000000000000000 : Int) : Rat) := rfl
  have e2 : (-100000000000000000000 : Rat) = ((-100000000000000000000 : Int) : Rat) := rfl
  obtain ⟨h1, h2⟩ := h
  have hd := one_le_den q
  refine ⟨?_, ?_⟩
  · rw [e1, Rat.lt_iff, num_intCast, den_intCast]
    omega
  · rw [e2, Rat.lt_iff, num_intCast, den_intCast]
    omega
theorem mid_small {x y : Rat} {a : Int} (hx : Sh x) (hy : Sh y) (ha : a.natAbs < 2 ^ 40) : -2000000000000000000 ≤ mid x a y ∧ mid x a y ≤ 2000000000000000000 := by
  have h1 := mid_le x a y
  have h2 := mid_lt x a y
  obtain ⟨a1, a2⟩ := hx.lt
  obtain ⟨b1, b2⟩ := hy.lt
  have c1 := cast_le (show a ≤ 2 ^ 40 by omega)
  have c2 := cast_le (show -2 ^ 40 ≤ a by omega)
  have e1 : (((2 ^ 40 : Int)) : Rat) = 1099511627776 := rfl
  have e2 : (((-2 ^ 40 : Int)) : Rat) = -1099511627776 := rfl
  rw [e1] at c1
  rw [e2] at c2
  have l1 : (mid x a y : Rat) < ((2000000000000000000 : Int) : Rat) := by
    have : ((2000000000000000000 : Int) : Rat) = 2000000000000000000 := rfl
    rw [this]; grind
  have l2 : ((-2000000000000000001 : Int) : Rat) < (mid x a y : Rat) := by
    have : ((-2000000000000000001 : Int) : Rat) = -2000000000000000001 := rfl
    rw [this]; grind
  have := Rat.intCast_lt_intCast.mp l1
  have := Rat.intCast_lt_intCast.mp l2
  omega
theorem mid_law (x : Rat) (a : Int) (y : Rat) : ((x + y + ((0 - 64 * a : Int) : Rat)) / ((128 : Int) : Rat)).floor = mid x a y := by
  unfold mid
  have e1 : ((0 - 64 * a : Int) : Rat) = -((64 * a : Int) : Rat) := by rw [show 0 - 64 * a = -(64 * a) by omega, Rat.intCast_neg]
  have e2 : ((128 : Int) : Rat) = 128 := rfl
  rw [e1, e2]
  congr 1
  grind
/-- the least of the first i tries -/
def nb (x : Rat) (a : Int) (y : Rat) : Nat → Rat
  | 0 => 0
  | 1 => need x a y (mid x a y - 1)
  | i + 2 => rmin (nb x a y (i + 1)) (need x a y (mid x a y + i))
theorem nb_four (x : Rat) (a : Int) (y : Rat) : nb x a y 4 = nd x a y := by
  have := tries x a y
  show rmin (rmin (rmin (need x a y (mid x a y - 1)) (need x a y (mid x a y + (0 : Nat)))) (need x a y (mid x a y + (1 : Nat)))) (need x a y (mid x a y + (2 : Nat))) = _
  rw [show mid x a y + ((0 : Nat) : Int) = mid x a y by omega]
  exact this
theorem rmax_sz {b : Nat} {x y : Rat} (hx : Sz b x) (hy : Sz b y) : Sz b (rmax x y) := by unfold rmax; split <;> assumption
theorem rmin_sz {b : Nat} {x y : Rat} (hx : Sz b x) (hy : Sz b y) : Sz b (rmin x y) := by unfold rmin; split <;> assumption
def plP (n : Nat) (p : Nat → Rat) : D := .lst (tab n fun i => prD (p i))
def pr_law_needed (x y z : D) (G : GHp) (Q : DK) : Prop := ∃ (u v : Rat) (a : Int), x = prD u ∧ y = .int a ∧ z = prD v ∧ Sh u ∧ Sh v ∧ a.natAbs < 2 ^ 40 ∧ Q (prD (nd u a v)) G
def sp_law_needed : DSp := sp3 fun x y z G Q _ => pr_law_needed x y z G Q
theorem rd_law_needed : ∀ x y z G Q (E : DXK), pr_law_needed x y z G Q → DRun (t_law_needed sp_law_floor sp_law_over sp_law_plus sp_law_minus sp_law_most sp_law_less) [some x, some y, some z, none, none, none, none, none] G Q := by
  rintro x y z G Q E ⟨u, v, a, rfl, rfl, rfl, hu, hv, ha, h⟩
  obtain ⟨ms1, ms2⟩ := mid_small hu hv ha
  have hs0 : Sz 60 ((0 - 64 * a : Int) : Rat) := szI (by omega) (by decide)
  have hs1 : Sz 300 (u + v + ((0 - 64 * a : Int) : Rat)) := ((hu.sz.add hv.sz).add hs0).mono (by decide)
  conv => whnf
  refine ⟨u, v, rfl, rfl, hu.sz.mono (by decide), hv.sz.mono (by decide), trivial, ?_⟩
  conv => whnf
  refine ⟨mul_small (.inl (by omega)), ?_⟩
  conv => whnf
  refine ⟨smallL (by simp), ?_⟩
  conv => whnf
  refine ⟨u + v, ((0 - 64 * a : Int) : Rat), rfl, (prD_int _).symm, (hu.sz.add hv.sz).mono (by decide), hs0.mono (by decide), trivial, ?_⟩
  conv => whnf
  refine ⟨smallL (by simp), ?_⟩
  conv => whnf
  refine ⟨u + v + ((0 - 64 * a : Int) : Rat), ((128 : Int) : Rat), rfl, (prD_int _).symm, hs1.mono (by decide), szI (b := 10) (by decide) (by decide) |>.mono (by decide), (show ((128 : Int) : Rat) ≠ 0 by decide), ?_⟩
  conv => whnf
  refine ⟨_, rfl, (hs1.div (szI (b := 10) (i := 128) (by decide) (by decide)) (by decide)).mono (by decide), ?_⟩
  rw [mid_law]
  conv => whnf
  refine ⟨by unfold RgB; omega, ?_⟩
  have e4 : (mid u a v + 3 - (mid u a v - 1)).toNat = 4 := by omega
  rw [e4]
  refine for_rng (enc := fun (i : Nat) => D.int (mid u a v - 1 + i)) (fun i δ G' => G' = G ∧ ∃ b o5 o6 o7, δ = [some (prD u), some (.int a), some (prD v), some (.int (mid u a v)), some b, o5, o6, o7] ∧ Sz 300 (nb u a v i) ∧ ((i = 0 ∧ b = .non) ∨ (0 < i ∧ b = prD (nb u a v i)))) 4 ?_ ?_ _ _
    ⟨rfl, .non, _, _, _, rfl, szI (i := 0) (by decide) (by decide), .inl ⟨rfl, rfl⟩⟩
  · rintro δ G ⟨rfl, b, o5, o6, o7, rfl, _, ⟨e, _⟩ | ⟨_, rfl⟩⟩
    · exact absurd e (by decide)
    refine ⟨trivial, ?_⟩
    rw [nb_four]
    exact h
  · rintro i hi δ G ⟨rfl, b, o5, o6, o7, rfl, hbs, hb⟩
    refine ⟨trivial, _, rfl, fun N hN => ?_⟩
    obtain ⟨c, hc⟩ : ∃ c, mid u a v - 1 + (i : Int) = c := ⟨_, rfl⟩
    have hcs : -3000000000000000000 ≤ c ∧ c ≤ 3000000000000000000 := by omega
    have s1 : Sz 80 ((64 * c : Int) : Rat) := szI (by omega) (by decide)
    have s2 : Sz 80 ((64 * (c + a) : Int) : Rat) := szI (by omega) (by decide)
    have hn : Sz 300 (need u a v c) := rmax_sz ((hu.sz.sub s1).mono (by decide)) ((s2.sub hv.sz).mono (by decide))
    have enb : 0 < i → nb u a v (i + 1) = rmin (nb u a v i) (need u a v c) := fun hi0 => by
      obtain ⟨k, rfl⟩ : ∃ k, i = k + 1 := ⟨i - 1, by omega⟩
      show rmin (nb u a v (k + 1)) (need u a v (mid u a v + k)) = _
      rw [show mid u a v + (k : Int) = c by omega]
    have enb0 : i = 0 → nb u a v (i + 1) = need u a v c := fun e => by
      subst e
      show need u a v (mid u a v - 1) = _
      rw [show mid u a v - 1 = c by omega]
    have hnb : Sz 300 (nb u a v (i + 1)) := by
      rcases Nat.eq_zero_or_pos i with e | e
      · rw [enb0 e]; exact hn
      · rw [enb e]; exact rmin_sz hbs hn
    rw [hc]
    conv => whnf
    refine ⟨mul_small (.inl (by omega)), ?_⟩
    conv => whnf
    refine ⟨smallL (by simp), ?_⟩
    conv => whnf
    refine ⟨u, ((64 * c : Int) : Rat), rfl, (prD_int _).symm, hu.sz.mono (by decide), s1.mono (by decide), trivial, ?_⟩
    conv => whnf
    refine ⟨mul_small (.inl (by omega)), ?_⟩
    conv => whnf
    refine ⟨smallL (by simp), ?_⟩
    conv => whnf
    refine ⟨((64 * (c + a) : Int) : Rat), v, (prD_int _).symm, rfl, s2.mono (by decide), hv.sz.mono (by decide), trivial, ?_⟩
    conv => whnf
    refine ⟨u - ((64 * c : Int) : Rat), ((64 * (c + a) : Int) : Rat) - v, rfl, rfl, (hu.sz.sub s1).mono (by decide), (s2.sub hv.sz).mono (by decide), trivial, ?_⟩
    rcases hb with ⟨rfl, rfl⟩ | ⟨hi0, rfl⟩
    · conv => whnf
      refine ⟨fun _ => ?_, fun e => tf e⟩
      conv => whnf
      refine ⟨fun _ => ?_, fun e => tf e⟩
      conv => whnf
      refine hN _ _ ⟨rfl, _, _, _, _, rfl, hnb, .inr ⟨by omega, ?_⟩⟩
      rw [enb0 rfl]; rfl
    · conv => whnf
      refine ⟨fun e => ft e, fun _ => ?_⟩
      conv => whnf
      refine ⟨need u a v c, nb u a v i, rfl, rfl, hn.mono (by decide), hbs.mono (by decide), trivial, ?_⟩
      conv => whnf
      refine ⟨fun e => ?_, fun e => ?_⟩
      · have e : need u a v c < nb u a v i := of_decide_eq_true e
        conv => whnf
        refine hN _ _ ⟨rfl, _, _, _, _, rfl, hnb, .inr ⟨by omega, ?_⟩⟩
        rw [enb hi0]
        unfold rmin
        rw [if_pos e]; rfl
      · have e : ¬ need u a v c < nb u a v i := of_decide_eq_false e
        refine hN _ _ ⟨rfl, _, _, _, _, rfl, hnb, .inr ⟨by omega, ?_⟩⟩
        rw [enb hi0]
        unfold rmin
        rw [if_neg e]
def pr_least_mv (x y : D) (G : GHp) (Q : DK) : Prop := ∃ (n : Nat) (rs : List Rl) (p : Nat → Rat) (F : Fm), x = plP n p ∧ y = tbD n F ∧ 1 ≤ n ∧ n ≤ 24 ∧ Tb n rs F ∧ (∀ i, i < n → Sh (p i)) ∧ ∀ M, Mv n F p M → Q (prD M) G
def sp_law_least_movement : DSp := sp2 fun x y G Q _ => pr_least_mv x y G Q
/-- the greatest of the pairs gone through, and 0 -/
structure GM (n : Nat) (F : Fm) (p : Nat → Rat) (i j : Nat) (b : Rat) : Prop where
  pos : 0 ≤ b
  sz : Sz 300 b
  le : ∀ k l a, l < n → (k < i ∨ (k = i ∧ l < j)) → F k l = some a → nd (p k) a (p l) ≤ b
  at_ : b = 0 ∨ ∃ k l a, k < n ∧ l < n ∧ F k l = some a ∧ b = nd (p k) a (p l)
theorem rd_law_least_movement : ∀ x y G Q (E : DXK), pr_least_mv x y G Q → DRun (t_law_least_movement sp_law_most sp_law_needed) [some x, some y, none, none, none] G Q := by
  rintro x y G Q E ⟨n, rs, p, F, rfl, rfl, h1, h2, hF, hS, h⟩
  have hL : (tab n fun i => prD (p i)).length = n := tab_len n _
  conv => whnf
  refine ⟨smallL (by simp), ?_⟩
  conv => whnf
  rw [hL]
  refine ⟨by unfold RgB; omega, ?_⟩
  rw [Int.toNat_natCast]
  refine for_rng (enc := fun (i : Nat) => D.int (0 + i)) (fun i δ G' => G' = G ∧ ∃ b o3 o4, δ = [some (plP n p), some (tbD n F), some (prD b), o3, o4] ∧ GM n F p i 0 b) n ?_ ?_ _ _
    ⟨rfl, ((0 : Int) : Rat), _, _, by rw [prD_int]; rfl, Rat.le_refl, szI (by decide) (by decide), fun k l a _ hd => absurd hd (by omega), .inl rfl⟩
  · rintro δ G ⟨rfl, b, o3, o4, rfl, hB⟩
    refine ⟨trivial, h b ⟨fun k j a hk hj e => hB.le k j a hj (by omega) e, ?_⟩⟩
    rcases hB.at_ with e | ⟨k, l, a, hk, hl, e1, e2⟩
    · refine ⟨0, 0, 0, by omega, by omega, hF.cl.dg 0 (by omega), ?_⟩
      have g1 := hB.le 0 0 0 (by omega) (by omega) (hF.cl.dg 0 (by omega))
      have g2 := nd_same (p 0)
      grind
    · exact ⟨k, l, a, hk, hl, e1, e2⟩
  · rintro i hi δ G ⟨rfl, b, o3, o4, rfl, hB⟩
    refine ⟨trivial, _, rfl, fun N hN => ?_⟩
    conv => whnf
    rw [hL]
    refine ⟨by unfold RgB; omega, ?_⟩
    rw [Int.toNat_natCast]
    refine for_rng (enc := fun (i : Nat) => D.int (0 + i)) (fun j δ G' => G' = G ∧ ∃ b o4, δ = [some (plP n p), some (tbD n F), some (prD b), some (.int (0 + i)), o4] ∧ GM n F p i j b) n ?_ ?_ _ _ ⟨rfl, b, _, rfl, hB⟩
    · rintro δ G ⟨rfl, b, o4, rfl, hB⟩
      exact ⟨trivial, hN _ _ ⟨rfl, b, _, _, rfl, hB.pos, hB.sz, fun k l a hl hd => hB.le k l a hl (by omega), hB.at_⟩⟩
    · rintro j hj δ G ⟨rfl, b, o4, rfl, hB⟩
      refine ⟨trivial, _, rfl, fun N2 hN2 => ?_⟩
      conv => whnf
      refine tab_at0 (f := fun k => D.lst (tab n fun j => encF (F k j))) hi ?_
      conv => whnf
      refine tab_at0 (f := fun k => encF (F i k)) hj ?_
      cases ha : F i j with
      | none =>
        conv => whnf
        refine ⟨fun e => ft e, fun _ => ?_⟩
        conv => whnf
        refine hN2 _ _ ⟨rfl, b, _, rfl, hB.pos, hB.sz, fun k l a hl hd e => ?_, hB.at_⟩
        by_cases q : k < i ∨ (k = i ∧ l < j)
        · exact hB.le k l a hl q e
        · have e1 : k = i := by omega
          have e2 : l = j := by omega
          subst e1 e2
          rw [ha] at e; cases e
      | some a =>
        have hsm := Tb_small hF h2 ha
        have hns := nd_sz (hS i hi) (hS j hj) hsm
        conv => whnf
        refine ⟨fun _ => ?_, fun e => tf e⟩
        conv => whnf
        refine tab_at0 (f := fun i => prD (p i)) hi ?_
        conv => whnf
        refine tab_at0 (f := fun k => D.lst (tab n fun j => encF (F k j))) hi ?_
        conv => whnf
        refine tab_at0 (f := fun k => encF (F i k)) hj ?_
        rw [ha]
        conv => whnf
        refine tab_at0 (f := fun i => prD (p i)) hj ?_
        conv => whnf
        refine ⟨p i, p j, a, rfl, rfl, rfl, hS i hi, hS j hj, hsm, ?_⟩
        conv => whnf
        refine ⟨b, nd (p i) a (p j), rfl, rfl, hB.sz.mono (by decide), hns.mono (by decide), trivial, ?_⟩
        obtain ⟨g1, g2⟩ := rmax_ge b (nd (p i) a (p j))
        refine hN2 _ _ ⟨rfl, rmax b (nd (p i) a (p j)), _, rfl, ?_, rmax_sz hB.sz (hns.mono (by decide)), fun k l a' hl hd e => ?_, ?_⟩
        · have := hB.pos; grind
        · by_cases q : k < i ∨ (k = i ∧ l < j)
          · have := hB.le k l a' hl q e; grind
          · have e1 : k = i := by omega
            have e2 : l = j := by omega
            subst e1 e2
            rw [ha] at e; cases e
            exact g2
        · rcases rmax_or b (nd (p i) a (p j)) with e | e
          · rw [e]; exact hB.at_
          · exact .inr ⟨i, j, a, hi, hj, ha, e⟩
end K68
set_option linter.all false
set_option maxRecDepth 100000
set_option maxHeartbeats 1000000
namespace K68
open PySem PySem.Spec L2 DL
open FIT NUM Rat
theorem map_tab {ws : List Int} {n : Nat} (h : ws.length = n) : ws.map D.int = tab n fun i => .int (gi ws i) := by
  subst h
  refine List.ext_getElem? fun i => ?_
  unfold tab
  rw [List.getElem?_map, List.getElem?_map]
  by_cases h : i < ws.length
  · rw [List.getElem?_range h, List.getElem?_eq_getElem h]; unfold gi; simp [h]
  · rw [List.getElem?_eq_none (by omega), List.getElem?_eq_none (by simp; omega)]; rfl
def pr_due (x y z : D) (G : GHp) (Q : DK) : Prop := ∃ (n : Nat) (rs : List Rl) (p : Nat → Rat) (F : Fm) (M : Rat), x = plP n p ∧ y = tbD n F ∧ z = prD M ∧ 1 ≤ n ∧ n ≤ 24 ∧ Tb n rs F ∧ (∀ i, i < n → Sh (p i)) ∧ Sz 300 M ∧
  ∀ c, LF n F (fun k => low M (p k)) c → Q (lsC n c) G
def sp_law_cells_due : DSp := sp3 fun x y z G Q _ => pr_due x y z G Q
theorem rd_law_cells_due {K : PySem.W.Frag} : ∀ x y z G Q (E : DXK), pr_due x y z G Q → DRun (t_law_cells_due K sp_law_floor sp_law_over sp_law_minus) [some x, some y, some z, none, none, none, none, none, none] G Q := by
  rintro x y z G Q E ⟨n, rs, p, F, M, rfl, rfl, rfl, h1, h2, hF, hS, hM, h⟩
  have hL : (tab n fun i => prD (p i)).length = n := tab_len n _
  let lw : Nat → Int := fun k => low M (p k)
  let lst : Nat → List Int := fun k => ((List.range n).filter fun j => (F j k).isSome).map fun j => lw j + (F j k).getD 0
  have hmem : ∀ k, k < n → lw k + (F k k).getD 0 ∈ lst k := fun k hk => List.mem_map.mpr ⟨k, List.mem_filter.mpr ⟨List.mem_range.mpr hk, by rw [hF.cl.dg k hk]; rfl⟩, rfl⟩
  have hne : ∀ k, k < n → lst k ≠ [] := fun k hk e => by
    have := hmem k hk
    rw [e] at this; simp at this
  have hLF : LF n F lw fun k => maxI (lst k) := fun k hk => by
    obtain ⟨m1, m2⟩ := maxI_mem (hne k hk)
    refine ⟨fun j a hj e => ?_, ?_⟩
    · have : lw j + (F j k).getD 0 ∈ lst k := List.mem_map.mpr ⟨j, List.mem_filter.mpr ⟨List.mem_range.mpr hj, by rw [e]; rfl⟩, rfl⟩
      have := m2 _ this
      rw [e] at this
      exact this
    · obtain ⟨j, hj, e⟩ := List.mem_map.mp m1
      obtain ⟨hj, hs⟩ := List.mem_filter.mp hj
      cases ef : F j k with
      | none => rw [ef] at hs; cases hs
      | some a =>
        rw [ef] at e
        exact ⟨j, a, List.mem_range.mp hj, ef, e.symm⟩
  conv => whnf
  rw [hL]
  conv => whnf
  refine lc_map (enc := fun (i : Nat) => prD (p i)) (keep := fun _ => true) (f := fun i => .int (lw i)) (xs := List.range n) (smallL (by rw [List.length_range]; omega)) trivial (fun _ _ R h => h) (fun i hi _ R hR => ?_) ?_
  · have hi := List.mem_range.mp hi
    have hps := (hS i hi).sz
    have s1 : Sz 380 (M - p i) := (hM.sub hps).mono (by decide)
    have s2 : Sz 400 ((M - p i) / ((64 : Int) : Rat)) := (s1.div (szI (b := 8) (i := 64) (by decide) (by decide)) (by decide)).mono (by decide)
    conv => whnf
    refine ⟨M, p i, rfl, rfl, hM.mono (by decide), hps.mono (by decide), trivial, ?_⟩
    conv => whnf
    refine ⟨smallL (by simp), ?_⟩
    conv => whnf
    refine ⟨M - p i, ((64 : Int) : Rat), rfl, (prD_int _).symm, s1.mono (by decide), szI (b := 8) (i := 64) (by decide) (by decide) |>.mono (by decide), (show ((64 : Int) : Rat) ≠ 0 by decide), ?_⟩
    conv => whnf
    refine ⟨_, rfl, s2.mono (by decide), ?_⟩
    exact hR
  rw [filter_yes]
  have e0 : (List.range n).map (fun i => D.int (lw i)) = tab n fun i => .int (lw i) := rfl
  rw [e0]
  conv => whnf
  refine ⟨smallL (by simp), fun q hq => ?_⟩
  conv => whnf
  refine ⟨by unfold RgB; omega, ?_⟩
  rw [Int.toNat_natCast]
  refine for_rng (enc := fun (i : Nat) => D.int (0 + i)) (fun i δ G' => ∃ o6, δ = [some (plP n p), some (tbD n F), some (prD M), some (.int n), some (lsC n lw), some (.ref q), o6, none, none] ∧
      G' q = some (.lst (tab i fun k => .int (maxI (lst k)))) ∧ ∀ b, b ≠ q → G' b = G b) n ?_ ?_ _ _ ⟨none, rfl, gupd_same, fun b hb => gupd_ne hb⟩
  · rintro δ G' ⟨o6, rfl, hat, hk⟩
    refine ⟨trivial, ?_⟩
    conv => whnf
    refine ⟨[none, none, none, none, none, some (lsC n fun k => maxI (lst k)), none, none, none], G, View.tree (fun a => a = q) (fun a e => by rw [e]; exact hq) (fun a o e => .inl (by rw [hk a (fun e2 => by rw [e2, hq] at e; cases e)]; exact e))
      (.cons (.no _) (.cons (.no _) (.cons (.no _) (.cons (.no _) (.cons (.no _) (.cons (.so (.ref rfl hat (.same _))) (.cons (.no _) (.cons (.no _) (.cons (.no _) .nil))))))))), ?_⟩
    exact h _ hLF
  · rintro i hi δ G' ⟨o6, rfl, hat, hk⟩
    refine ⟨trivial, _, rfl, fun N hN => ?_⟩
    conv => whnf
    rw [lsOf_ref hat]
    conv => whnf
    refine ⟨by unfold RgB; omega, ?_⟩
    refine lc_map (enc := fun (j : Nat) => D.int (0 + j)) (keep := fun j => (F j i).isSome) (f := fun j => .int (lw j + (F j i).getD 0)) (smallL (by rw [List.length_range]; omega)) trivial (fun j hj R hR => ?_) (fun j hj hs R hR => ?_) ?_
    · have hj : j < n := by have := List.mem_range.mp hj; omega
      conv => whnf
      refine tab_at0 (f := fun k => D.lst (tab n fun j => encF (F k j))) hj ?_
      conv => whnf
      refine tab_at0 (f := fun k => encF (F j k)) hi ?_
      cases hf : F j i with
      | none =>
        rw [hf] at hR
        exact hR
      | some a =>
        rw [hf] at hR
        exact hR
    · have hj : j < n := by have := List.mem_range.mp hj; omega
      conv => whnf
      refine tab_at0 (f := fun k => D.int (lw k)) hj ?_
      conv => whnf
      refine tab_at0 (f := fun k => D.lst (tab n fun j => encF (F k j))) hj ?_
      conv => whnf
      refine tab_at0 (f := fun k => encF (F j k)) hi ?_
      cases hf : F j i with
      | none => rw [hf] at hs; cases hs
      | some a =>
        rw [hf] at hR
        exact hR
    rw [Int.toNat_natCast]
    have ei : intsQ G' (.lst (((List.range n).filter fun j => (F j i).isSome).map fun j => .int (lw j + (F j i).getD 0))) = some (lst i) := by
      have := intsOf_map (lst i)
      show intsOf _ = _
      rw [← this]
      show _ = intsOf ((((List.range n).filter fun j => (F j i).isSome).map fun j => lw j + (F j i).getD 0).map D.int)
      rw [List.map_map]; rfl
    conv => whnf
    rw [ei]
    refine ⟨hne i hi, ?_⟩
    conv => whnf
    rw [hat]
    conv => whnf
    refine ⟨smallLt (by rw [tab_len]; omega), ?_⟩
    refine hN _ _ ⟨_, rfl, ?_, fun b hb => by rw [gupd_ne hb]; exact hk b hb⟩
    rw [gupd_same, tab_succ]
def pr_paper (x y z u : D) (G : GHp) (Q : DK) : Prop := ∃ (n : Nat) (rs : List Rl) (p : Nat → Rat) (F : Fm) (M : Rat) (f l : Nat) (ch : D), x = .tup [.int f, ch, .int l] ∧ y = plP n p ∧ z = .lst (rs.map rlD) ∧ u = prD M ∧ n ≤ 24 ∧ Vr n rs ∧ rs.length ≤ 100 ∧ Tb n rs F ∧ (∀ i, i < n → Sh (p i)) ∧ Pp n rs F p M f l ch ∧ Q (.bl true) G
def sp_law_paper_right : DSp := sp4 fun x y z u G Q _ => pr_paper x y z u G Q
theorem rd_law_paper_right : ∀ x y z u G Q (E : DXK), pr_paper x y z u G Q → DRun (t_law_paper_right sp_law_chain_right sp_law_needed) [some x, some y, some z, some u, none, none, none] G Q := by
  rintro x y z u G Q E ⟨n, rs, p, F, M, f, l, ch, rfl, rfl, rfl, rfl, h2, hV, hl, hF, hS, ⟨hf, hl', a, ha, hM, hch⟩, h⟩
  have hL : (tab n fun i => prD (p i)).length = n := tab_len n _
  have hml : (rs.map rlD).length = rs.length := List.length_map ..
  have ht : tgOf G ch = some .lst := by
    rcases hch with ⟨_, rfl⟩ | ⟨_, q, len, _, rfl, _⟩ <;> rfl
  have hsm := Tb_small hF h2 ha
  -- behind the marks
  have tail : ∀ o4 o6, dRet (dOp dEqQ (dCall sp_law_needed [] (dCons (dOp dIxR (dVar 1) (dOp dIxR (dVar 0) (dC (.int 0)))) (dCons (dVar 5) (dCons (dOp dIxR (dVar 1) (dOp dIxR (dVar 0) (dC (.int 2)))) dNil)))) (dVar 3)) { nx := fun _ G' => Q .non G', rt := Q }
      [some (.tup [.int f, ch, .int l]), some (plP n p), some (.lst (rs.map rlD)), some (prD M), o4, some (.int a), o6] G := by
    intro o4 o6
    conv => whnf
    refine tab_at (f := fun i => prD (p i)) hf ?_
    conv => whnf
    refine tab_at (f := fun i => prD (p i)) hl' ?_
    conv => whnf
    refine ⟨p f, p l, a, rfl, rfl, rfl, hS f hf, hS l hl', hsm, ?_⟩
    conv => whnf
    refine eq_pr ?_
    rw [hM, decide_eq_true rfl]
    exact h
  conv => whnf
  refine ⟨fun e => ft e, fun _ => ?_⟩
  conv => whnf
  refine ⟨fun e => ft e, fun _ => ?_⟩
  conv => whnf
  rw [ht]
  conv => whnf
  refine ⟨fun e => ft e, fun _ => ?_⟩
  conv => whnf
  refine ⟨smallL (by simp), ?_⟩
  refine for_ind (enc := fun (i : Nat) => D.int i) (fun r δ G' => G' = G ∧ (∀ i ∈ r, i < n) ∧ ∃ o4, δ = [some (.tup [.int f, ch, .int l]), some (plP n p), some (.lst (rs.map rlD)), some (prD M), o4, none, none]) ?_ ?_ [f, l] _ _ ⟨rfl, fun i hi => ?_, _, rfl⟩
  rotate_left
  · rintro i r δ G ⟨rfl, hr, o4, rfl⟩
    have hi := hr i List.mem_cons_self
    refine ⟨trivial, _, rfl, fun N hN => ?_⟩
    conv => whnf
    refine ⟨fun e => ft e, fun _ => ?_⟩
    conv => whnf
    refine ⟨fun e => ft e, fun _ => ?_⟩
    conv => whnf
    refine ⟨fun _ => ?_, fun e => absurd (show (0 : Int) ≤ i by omega) (of_decide_eq_false e)⟩
    conv => whnf
    have hd : decide ((i : Int) < ((tab n fun i => prD (p i)).length : Int)) = true := decide_eq_true (by rw [hL]; omega)
    refine ⟨fun e => ?_, fun _ => ?_⟩
    · exfalso
      have e : (!decide ((i : Int) < ((tab n fun i => prD (p i)).length : Int))) = true := e
      rw [hd] at e; exact ft e
    exact hN _ _ ⟨rfl, fun j hj => hr j (List.mem_cons_of_mem _ hj), _, rfl⟩
  · simp only [List.mem_cons, List.not_mem_nil, or_false] at hi
    rcases hi with rfl | rfl <;> assumption
  rintro δ G ⟨rfl, _, o4, rfl⟩
  refine ⟨trivial, ?_⟩
  rcases hch with ⟨rfl, rfl⟩ | ⟨hne, q, len, hPa, rfl, hsum⟩
  · have ea : a = 0 := by
      have := hF.cl.dg f hf
      rw [ha] at this; cases this; rfl
    conv => whnf
    refine ⟨smallL (by simp), ?_⟩
    refine eq_nilL .nil .nil ?_
    conv => whnf
    refine ⟨fun _ => ?_, fun e => tf e⟩
    conv => whnf
    refine ⟨fun e => ?_, fun _ => ?_⟩
    · exfalso
      have e : (!decide ((f : Int) = f)) = true := e
      rw [decide_eq_true rfl] at e; exact ft e
    rw [ea] at tail
    exact tail _ _
  · have hcl := cyc_len rs q l len
    have hlen := hPa.len
    have hpos := hPa.pos
    have hdd : DDs G ((cyc rs q l len).map fun (k : Nat) => D.int k) (((cyc rs q l len).map fun (k : Nat) => (k : Int)).map .int) := by
      rw [nats_ints]; exact .ints _
    have he : ((cyc rs q l len).map fun (k : Nat) => D.int k).isEmpty = false := by
      rw [isEmpty_map]
      cases hc : cyc rs q l len with
      | nil => rw [hc] at hcl; simp at hcl; omega
      | cons _ _ => rfl
    have hkl : ∀ k ∈ cyc rs q l len, k < rs.length := fun k hk => by
      obtain ⟨i, hi, rfl⟩ := List.mem_map.mp hk
      have hi := List.mem_range.mp hi
      exact (hPa.kf_at (i := len - 1 - i) (by omega)).2.2
    conv => whnf
    refine ⟨smallL (by simp), ?_⟩
    refine eq_nilL hdd (.ints _) ?_
    rw [he]
    conv => whnf
    refine ⟨fun e => ft e, fun _ => ?_⟩
    conv => whnf
    refine ⟨n, rs, q, f, l, len, hPa, hl, rfl, rfl, rfl, rfl, ?_⟩
    conv => whnf
    refine ⟨fun e => ft e, fun _ => ?_⟩
    conv => whnf
    refine ⟨fun e => ?_, fun _ => ?_⟩
    · exfalso
      have e : decide ((f : Int) = l) = true := e
      exact hne (by have := of_decide_eq_true e; omega)
    conv => whnf
    refine lc_map (enc := fun (k : Nat) => D.int k) (keep := fun _ => true) (f := fun k => .int (gr rs k).2.2) (smallL (by omega)) trivial (fun _ _ R h => h) (fun k hk _ R hR => ?_) ?_
    · conv => whnf
      refine atD_nat (d := rlD (gr rs k)) (by rw [List.getElem?_map, gr_at (hkl k hk)]; rfl) ?_
      exact hR
    rw [filter_yes]
    conv => whnf
    have ei : intsG G (.lst ((cyc rs q l len).map fun k => D.int (gr rs k).2.2)) = some ((cyc rs q l len).map fun k => (gr rs k).2.2) := by
      have := intsOf_map ((cyc rs q l len).map fun k => (gr rs k).2.2)
      rw [List.map_map] at this
      exact this
    rw [ei]
    refine ⟨trivial, ?_⟩
    have es : ((cyc rs q l len).map fun k => (gr rs k).2.2).sum = a := by rw [psum_eq hPa, hsum]
    have tail' := tail
    rw [← es] at tail'
    exact tail' _ _
theorem prD_abs (q : Rat) : D.tup [.int (q.num.natAbs : Nat), .int q.den] = prD (rabs q) := by
  unfold rabs
  by_cases h : 0 ≤ q
  · rw [if_pos h]
    have h1 : 0 ≤ q.num := by
      have := (Rat.le_iff 0 q).mp h
      simpa using this
    unfold prD
    rw [show ((q.num.natAbs : Nat) : Int) = q.num by omega]
  · rw [if_neg h]
    have h1 : q.num ≤ 0 := by
      have h2 : q < 0 := by grind
      have := (Rat.lt_iff q 0).mp h2
      simp at this
      omega
    unfold prD
    rw [Rat.neg_num, Rat.neg_den, show ((q.num.natAbs : Nat) : Int) = -q.num by omega]
theorem Sz_rabs {b : Nat} {q : Rat} (h : Sz b q) : Sz b (rabs q) := by unfold rabs; split; exact h; exact h.neg
def pr_right (x y z u : D) (G : GHp) (Q : DK) : Prop := ∃ (n : Nat) (rs : List Rl) (p : Nat → Rat) (F : Fm) (M : Rat) (c : Nat → Int) (f l : Nat) (ch : D), x = anD n M c f l ch ∧ y = plP n p ∧ z = .lst (rs.map rlD) ∧ u = tbD n F ∧ 1 ≤ n ∧ n ≤ 24 ∧ Vr n rs ∧ rs.length ≤ 100 ∧ Tb n rs F ∧ (∀ i, i < n → Sh (p i)) ∧
  Mv n F p M ∧ LF n F (fun k => low M (p k)) c ∧ Pp n rs F p M f l ch ∧ Q (.bl true) G
def sp_law_right : DSp := sp4 fun x y z u G Q _ => pr_right x y z u G Q
theorem fz_tab {n m : Nat} {f : Nat → Int} (h : n ≤ 1000) : fz (m + 2) (.lst (tab n fun i => .int (f i))) = true := by
  show (decide ((tab n fun i => D.int (f i)).length ≤ 1000) && (tab n fun i => D.int (f i)).all (fz (m + 1))) = true
  rw [tab_len, decide_eq_true h, Bool.true_and, List.all_eq_true]
  intro x hx
  obtain ⟨i, _, rfl⟩ := List.mem_map.mp hx
  rfl
theorem low_sz {M x : Rat} (hM : Sz 280 M) (hx : Sh x) : (low M x).natAbs ≤ 2 ^ 380 := by
  have s1 : Sz 360 (M - x) := (hM.sub hx.sz).mono (by decide)
  have s2 : Sz 380 ((M - x) / 64) := (s1.div sz64 (by decide)).mono (by decide)
  have := s2.floor
  unfold low
  omega
theorem rd_law_right : ∀ x y z u G Q (E : DXK), pr_right x y z u G Q → DRun (t_law_right sp_law_least_movement sp_law_same sp_law_num sp_law_cells_due sp_law_minus sp_law_most sp_law_paper_right) [some x, some y, some z, some u, none, none, none, none, none, none] G Q := by
  rintro x y z u G Q E ⟨n, rs, p, F, M, c, f, l, ch, rfl, rfl, rfl, rfl, h1, h2, hV, hl, hF, hS, hM, hc, hPp, h⟩
  have hL : (tab n fun i => prD (p i)).length = n := tab_len n _
  have hMs := hM.sz hF h2 hS
  have hgs : ∀ k, k < n → Sz 480 (gap p c k) ∧ Sz 400 ((64 * c k : Int) : Rat) := fun k hk => by
    obtain ⟨j, a, hj, e1, e2⟩ := (hc k hk).2
    have g1 := low_sz hMs (hS j hj)
    have g2 := Tb_small hF h2 e1
    have g3 : Sz 400 ((64 * c k : Int) : Rat) := szI (by
      have e2 : c k = low M (p j) + a := e2
      have : (64 * c k).natAbs ≤ 64 * (2 ^ 380 + 2 ^ 40) := by omega
      exact Nat.lt_of_le_of_lt this (by decide)) (by decide)
    exact ⟨(g3.sub (hS k hk).sz).mono (by decide), g3⟩
  conv => whnf
  refine ⟨n, rs, p, F, rfl, rfl, h1, h2, hF, hS, fun M' hM' => ?_⟩
  have eM : M' = M := hM'.uniq hM
  subst eM
  conv => whnf
  refine ⟨fun e => ft e, fun _ => ?_⟩
  conv => whnf
  refine ⟨fun e => ft e, fun _ => ?_⟩
  conv => whnf
  refine ⟨M', rfl, ?_⟩
  conv => whnf
  refine ⟨fun _ => False, .same _, fz_num 5 M', ?_⟩
  conv => whnf
  refine ⟨fun e => ft e, fun _ => ?_⟩
  conv => whnf
  refine ⟨n, rs, p, F, M', rfl, rfl, rfl, h1, h2, hF, hS, hMs.mono (by decide), fun c' hc' => ?_⟩
  have ec : lsC n c' = lsC n c := congrArg D.lst (tab_congr fun i hi => by rw [hc'.uniq hc hi])
  rw [ec]
  conv => whnf
  refine ⟨fun _ => False, .same _, fz_tab (by omega), ?_⟩
  conv => whnf
  refine ⟨fun e => ft e, fun _ => ?_⟩
  conv => whnf
  refine lc_map (enc := rlD) (keep := fun _ => false) (f := rlD) (smallL (by omega)) trivial (fun r hr R hR => ?_) (fun _ _ hs => tf hs.symm) ?_
  · obtain ⟨v1, v2, _⟩ := hV r hr
    have hk : c r.1 + r.2.2 ≤ c r.2.1 := by
      obtain ⟨i, b, hi, f1, f2⟩ := (hc r.1 v1).2
      obtain ⟨b2, f3, f4⟩ := hF.cl.rl r hr
      obtain ⟨d, f5, f6⟩ := hF.cl.tri i r.1 r.2.1 b b2 hi v1 v2 f1 f3
      have := (hc r.2.1 v2).1 i d hi f5
      omega
    conv => whnf
    refine tab_at (f := fun x => D.int (c x)) v2 ?_
    conv => whnf
    refine tab_at (f := fun x => D.int (c x)) v1 ?_
    conv => whnf
    have e : decide (c r.2.1 < c r.1 + r.2.2) = false := decide_eq_false (by omega)
    show R (decide (c r.2.1 < c r.1 + r.2.2)) G
    rw [e]
    exact hR
  rw [filter_no]
  conv => whnf
  refine ⟨smallL (by simp), ?_⟩
  refine ne_nilL .nil .nil ?_
  conv => whnf
  refine ⟨fun e => ft e, fun _ => ?_⟩
  conv => whnf
  refine ⟨smallL (by simp), ?_⟩
  conv => whnf
  rw [hL]
  refine ⟨by unfold RgB; omega, ?_⟩
  rw [Int.toNat_natCast]
  refine for_rng (enc := fun (i : Nat) => D.int (0 + i)) (fun i δ G' => G' = G ∧ ∃ g o7 o8, δ = [some (anD n M' c f l ch), some (plP n p), some (.lst (rs.map rlD)), some (tbD n F), some (prD M'), some (lsC n c), some (prD g), o7, o8, none] ∧
      0 ≤ g ∧ g ≤ M' ∧ Sz 500 g ∧ ∀ k, k < i → rabs (gap p c k) ≤ g) n ?_ ?_ _ _ ⟨rfl, ((0 : Int) : Rat), _, _, by rw [prD_int]; rfl, Rat.le_refl, hM.pos hF.cl (by omega), szI (by decide) (by decide), fun k hk => absurd hk (by omega)⟩
  · rintro δ G ⟨rfl, g, o7, o8, rfl, g0, gM, _, hg⟩
    refine ⟨trivial, ?_⟩
    have e : g = M' := by
      have := gap_ge hM hF.cl hc hg
      grind
    subst e
    conv => whnf
    refine ⟨_, _, DD_pr g, DD_pr g, (Shp.pr 1 g).ok (by decide), (Shp.pr 1 g).ok (by decide), ?_⟩
    rw [eqv_pr, decide_eq_true rfl]
    conv => whnf
    refine ⟨fun _ => ?_, fun e => tf e⟩
    conv => whnf
    exact ⟨n, rs, p, F, g, f, l, ch, rfl, rfl, rfl, rfl, h2, hV, hl, hF, hS, hPp, h⟩
  · rintro i hi δ G ⟨rfl, g, o7, o8, rfl, g0, gM, gs, hg⟩
    refine ⟨trivial, _, rfl, fun N hN => ?_⟩
    obtain ⟨s1, s2⟩ := hgs i hi
    conv => whnf
    refine tab_at0 (f := fun x => D.int (c x)) hi ?_
    conv => whnf
    refine ⟨mul_small (.inl (by omega)), ?_⟩
    conv => whnf
    refine ⟨smallL (by simp), ?_⟩
    conv => whnf
    refine tab_at0 (f := fun i => prD (p i)) hi ?_
    conv => whnf
    refine ⟨((64 * c i : Int) : Rat), p i, (prD_int _).symm, rfl, s2.mono (by decide), (hS i hi).sz.mono (by decide), trivial, ?_⟩
    conv => whnf
    refine ⟨smallL (by simp), ?_⟩
    conv => whnf
    refine ⟨g, rabs (gap p c i), rfl, prD_abs _, gs.mono (by decide), (Sz_rabs s1).mono (by decide), trivial, ?_⟩
    obtain ⟨q1, q2⟩ := rmax_ge g (rabs (gap p c i))
    have q3 := gap_le hM hF.cl hc hi
    refine hN _ _ ⟨rfl, rmax g (rabs (gap p c i)), _, _, rfl, by grind, ?_, rmax_sz gs ((Sz_rabs s1).mono (by decide)), fun k hk => ?_⟩
    · rcases rmax_or g (rabs (gap p c i)) with e | e <;> rw [e] <;> assumption
    · by_cases e : k = i
      · rw [e]; exact q2
      · have := hg k (by omega)
        grind
end K68
set_option linter.all false
set_option maxRecDepth 100000
set_option maxHeartbeats 1000000
namespace K69
open PySem PySem.Spec L2 DL
open FIT NUM Rat K68
theorem _root_.FIT.Ch.mono {rs rs' : List Rl} (hs : ∀ r ∈ rs, r ∈ rs') {x y : Nat} {s : Int} (h : Ch rs x y s) : Ch rs' x y s := by
  induction h with
  | nil => exact .nil _
  | snoc _ hr ih => exact .snoc ih (hs _ hr)
theorem _root_.FIT.Ch.turn {rs rs' : List Rl} {σ : Nat → Nat} (hs : ∀ r ∈ rs, (σ r.1, σ r.2.1, r.2.2) ∈ rs') {x y : Nat} {s : Int} (h : Ch rs x y s) : Ch rs' (σ x) (σ y) s := by
  induction h with
  | nil => exact .nil _
  | @snoc r s _ hr ih =>
    have := Ch.snoc (r := (σ r.1, σ r.2.1, r.2.2)) ih (hs _ hr)
    exact this
/-- more rules, all implied -/
theorem _root_.FIT.Tb.sup {n : Nat} {rs rs' : List Rl} {F : Fm} (T : Tb n rs F) (hs : ∀ r ∈ rs, r ∈ rs') (hi : ∀ r ∈ rs', Fle F r.1 r.2.1 r.2.2) : Tb n rs' F :=
  ⟨⟨T.cl.dg, hi, T.cl.tri⟩, ⟨fun k j a hk hj e => (T.att.ch k j a hk hj e).mono hs, T.att.bd⟩⟩
/-- rules of which each is implied by the other ones' -/
theorem _root_.FIT.Tb.fle {n : Nat} {rs rs' : List Rl} {F F' : Fm} (V : Vw n rs) (T : Tb n rs F) (T' : Tb n rs' F') (hi : ∀ r ∈ rs, Fle F' r.1 r.2.1 r.2.2) {i j : Nat} {a : Int} (h1 : i < n) (h2 : j < n) (e : F i j = some a) : Fle F' i j a :=
  ((⟨T'.cl.dg, hi, T'.cl.tri⟩ : Cl n rs F').chain V (T.att.ch i j a h1 h2 e) h1).1
theorem _root_.FIT.Tb.eq {n : Nat} {rs rs' : List Rl} {F F' : Fm} (V : Vw n rs) (V' : Vw n rs') (T : Tb n rs F) (T' : Tb n rs' F') (h : ∀ r ∈ rs, Fle F' r.1 r.2.1 r.2.2) (h' : ∀ r ∈ rs', Fle F r.1 r.2.1 r.2.2) {i j : Nat} (h1 : i < n) (h2 : j < n) : F i j = F' i j := by
  cases e : F i j with
  | none =>
    cases e' : F' i j with
    | none => rfl
    | some b =>
      obtain ⟨c, ec, _⟩ := T'.fle V' T h' h1 h2 e'
      rw [e] at ec; cases ec
  | some a =>
    obtain ⟨b, eb, hb⟩ := T.fle V T' h h1 h2 e
    obtain ⟨c, ec, hc⟩ := T'.fle V' T h' h1 h2 eb
    rw [e] at ec; cases ec
    rw [eb, show b = a by omega]
/-- what follows from those that are left can be left out -/
theorem _root_.FIT.Tb.sub {n : Nat} {rs rs' : List Rl} {F F' : Fm} (V : Vw n rs) (V' : Vw n rs') (T : Tb n rs F) (T' : Tb n rs' F') (h : ∀ r ∈ rs, Fle F' r.1 r.2.1 r.2.2) (h' : ∀ r ∈ rs', Fle F r.1 r.2.1 r.2.2) : Tb n rs' F :=
  ⟨⟨T.cl.dg, h', T.cl.tri⟩, ⟨fun k j a hk hj e => T'.att.ch k j a hk hj (by rw [← Tb.eq V V' T T' h h' hk hj]; exact e), T.att.bd⟩⟩
theorem _root_.FIT.Tb.imp {n : Nat} {rs : List Rl} {F : Fm} (T : Tb n rs F) : ∀ r ∈ rs, Fle F r.1 r.2.1 r.2.2 := T.cl.rl
theorem mid_mv (x : Rat) (a : Int) (y : Rat) (b : Int) : mid (x + 64 * (b : Rat)) a (y + 64 * (b : Rat)) = mid x a y + b := by
  have h1 := mid_le x a y
  have h2 := mid_lt x a y
  have h3 := mid_le (x + 64 * (b : Rat)) a (y + 64 * (b : Rat))
  have h4 := mid_lt (x + 64 * (b : Rat)) a (y + 64 * (b : Rat))
  refine Int.le_antisymm ?_ ?_
  · have : ((mid (x + 64 * (b : Rat)) a (y + 64 * (b : Rat)) : Int) : Rat) < ((mid x a y + b + 1 : Int) : Rat) := by
      rw [aI, aI]
      have : ((1 : Int) : Rat) = 1 := rfl
      grind
    have := Rat.intCast_lt_intCast.mp this
    omega
  · have : ((mid x a y + b : Int) : Rat) < ((mid (x + 64 * (b : Rat)) a (y + 64 * (b : Rat)) + 1 : Int) : Rat) := by
      rw [aI, aI]
      have : ((1 : Int) : Rat) = 1 := rfl
      grind
    have := Rat.intCast_lt_intCast.mp this
    omega
theorem nd_mv (x : Rat) (a : Int) (y : Rat) (b : Int) : nd (x + 64 * (b : Rat)) a (y + 64 * (b : Rat)) = nd x a y := by
  have h1 : abv (x + 64 * (b : Rat)) a (y + 64 * (b : Rat)) = abv x a y := by rw [abv_eq, abv_eq, mid_mv, aI]; grind
  have h2 : blw (x + 64 * (b : Rat)) a (y + 64 * (b : Rat)) = blw x a y := by rw [blw_eq, blw_eq, mid_mv, aI]; grind
  unfold nd
  rw [h1, h2]
theorem low_mv (M x : Rat) (b : Int) : low M (x + 64 * (b : Rat)) = low M x + b := by
  refine Int.le_antisymm ?_ ?_
  · refine low_least ?_
    have := low_ok M x
    rw [aI]; grind
  · have h : low M x ≤ low M (x + 64 * (b : Rat)) - b := by
      refine low_least ?_
      have := low_ok M (x + 64 * (b : Rat))
      have e : ((low M (x + 64 * (b : Rat)) - b : Int) : Rat) = (low M (x + 64 * (b : Rat)) : Rat) - (b : Rat) := Rat.intCast_sub _ _
      rw [e]; grind
    omega
theorem _root_.K68.Mv.mv {n : Nat} {F : Fm} {p : Nat → Rat} {M : Rat} (h : Mv n F p M) (b : Int) : Mv n F (fun k => p k + 64 * (b : Rat)) M := by
  refine ⟨fun k j a hk hj e => ?_, ?_⟩
  · show nd (p k + 64 * (b : Rat)) a (p j + 64 * (b : Rat)) ≤ M
    rw [nd_mv]; exact h.le k j a hk hj e
  · obtain ⟨k, j, a, hk, hj, e, e2⟩ := h.at_
    refine ⟨k, j, a, hk, hj, e, ?_⟩
    show M = nd (p k + 64 * (b : Rat)) a (p j + 64 * (b : Rat))
    rw [nd_mv]; exact e2
theorem _root_.FIT.LF.mv {n : Nat} {F : Fm} {p : Nat → Rat} {M : Rat} {c : Nat → Int} (h : LF n F (fun k => low M (p k)) c) (b : Int) : LF n F (fun k => low M (p k + 64 * (b : Rat))) fun k => c k + b := fun k hk => by
  obtain ⟨h1, j, a, hj, e, e2⟩ := h k hk
  refine ⟨fun j a hj e => ?_, j, a, hj, e, ?_⟩
  · show low M (p j + 64 * (b : Rat)) + a ≤ c k + b
    rw [low_mv]
    have : low M (p j) + a ≤ c k := h1 j a hj e
    omega
  · show c k + b = low M (p j + 64 * (b : Rat)) + a
    rw [low_mv]
    have : c k = low M (p j) + a := e2
    omega
theorem nd_mono (x : Rat) {a b : Int} (y : Rat) (h : a ≤ b) : nd x a y ≤ nd x b y := by
  obtain ⟨c, h1, h2⟩ := nd_at x b y
  have h3 := nd_le x a y c
  rw [need_eq] at h3
  have h4 := cast_le h
  rcases rmax_or (x - 64 * (c : Rat)) (64 * ((c : Rat) + (a : Rat)) - y) with e | e <;> rw [e] at h3 <;> grind
/-- one more rule -/
theorem _root_.K68.Mv.more {n : Nat} {F F' : Fm} {p : Nat → Rat} {M M' : Rat} (h : Mv n F p M) (h' : Mv n F' p M') (hle : ∀ i j a, i < n → j < n → F i j = some a → Fle F' i j a) : M ≤ M' := by
  obtain ⟨k, j, a, hk, hj, e, e2⟩ := h.at_
  obtain ⟨b, eb, hb⟩ := hle k j a hk hj e
  have h1 := nd_mono (p k) (p j) hb
  have h2 := h'.le k j b hk hj eb
  grind
theorem _root_.FIT.LF.pot {n : Nat} {rs : List Rl} {F : Fm} {l c : Nat → Int} (V : Vw n rs) (hF : Cl n rs F) (h : LF n F l c) : Pot rs c := fun r hr => by
  obtain ⟨v1, v2, _⟩ := V r hr
  obtain ⟨i, b, hi, f1, f2⟩ := (h r.1 v1).2
  obtain ⟨b2, f3, f4⟩ := hF.rl r hr
  obtain ⟨d, f5, f6⟩ := hF.tri i r.1 r.2.1 b b2 hi v1 v2 f1 f3
  have := (h r.2.1 v2).1 i d hi f5
  omega
theorem _root_.K68.Mv.kept {n : Nat} {rs rs' : List Rl} {F F' : Fm} {p : Nat → Rat} {M M' : Rat} {c : Nat → Int} (h : Mv n F p M) (h' : Mv n F' p M') (T : Tb n rs F) (T' : Tb n rs' F') (hc : LF n F (fun k => low M (p k)) c) (hp : Pot rs' c) : M' ≤ M := by
  obtain ⟨k, j, a, hk, hj, e, e2⟩ := h'.at_
  have h1 := (T'.att.ch k j a hk hj e).pot hp
  have h2 := nd_le (p k) a (p j) (c k)
  rw [need_eq] at h2
  have g1 := gap_le h T.cl hc hk
  have g2 := gap_le h T.cl hc hj
  have r1 := le_rabs (gap p c k)
  have r2 := le_rabs (gap p c j)
  have e3 : gap p c k = 64 * (c k : Rat) - p k := by unfold gap; rw [i64]
  have e4 : gap p c j = 64 * (c j : Rat) - p j := by unfold gap; rw [i64]
  have h3 : (a : Rat) ≤ ((c j - c k : Int) : Rat) := cast_le h1
  have e5 : ((c j - c k : Int) : Rat) = (c j : Rat) - (c k : Rat) := Rat.intCast_sub _ _
  rcases rmax_or (p k - 64 * (c k : Rat)) (64 * ((c k : Rat) + (a : Rat)) - p j) with e6 | e6 <;> rw [e6] at h2 <;> grind
theorem _root_.FIT.LF.kept {n : Nat} {rs rs' : List Rl} {F F' : Fm} {l c : Nat → Int} (T : Tb n rs F) (T' : Tb n rs' F') (hc : LF n F l c) (hp : Pot rs' c) (hle : ∀ i j a, i < n → j < n → F i j = some a → Fle F' i j a) : LF n F' l c := fun k hk => by
  have up : ∀ j a, j < n → F' j k = some a → l j + a ≤ c k := fun j a hj e => by
    have h1 := (T'.att.ch j k a hj hk e).pot hp
    have h2 := (hc j hj).1 j 0 hj (T.cl.dg j hj)
    omega
  refine ⟨up, ?_⟩
  obtain ⟨j, a, hj, e, e2⟩ := (hc k hk).2
  obtain ⟨b, eb, hb⟩ := hle j k a hj hk e
  have := up j b hj eb
  exact ⟨j, b, hj, eb, by omega⟩
/-- the marks in another order -/
theorem _root_.FIT.Tb.turn {n : Nat} {rs : List Rl} {F : Fm} {o σ : Nat → Nat} (V : Vw n rs) (T : Tb n rs F) (h1 : ∀ i, i < n → o i < n) (h2 : ∀ i, i < n → σ (o i) = i) (h3 : ∀ i, i < n → o (σ i) = i) : Tb n (rs.map fun r => (σ r.1, σ r.2.1, r.2.2)) fun i j => F (o i) (o j) := by
  refine ⟨⟨fun k hk => T.cl.dg _ (h1 k hk), fun r hr => ?_, fun k m j a b hk hm hj => T.cl.tri _ _ _ a b (h1 k hk) (h1 m hm) (h1 j hj)⟩, ⟨fun k j a hk hj e => ?_, fun k j a => T.att.bd _ _ a⟩⟩
  · obtain ⟨q, hq, rfl⟩ := List.mem_map.mp hr
    obtain ⟨v1, v2, _⟩ := V q hq
    show Fle F (o (σ q.1)) (o (σ q.2.1)) q.2.2 
    rw [h3 _ v1, h3 _ v2]
    exact T.cl.rl q hq
  · have := (T.att.ch _ _ a (h1 k hk) (h1 j hj) e).turn (rs' := rs.map fun r => (σ r.1, σ r.2.1, r.2.2)) (σ := σ) fun r hr => List.mem_map.mpr ⟨r, hr, rfl⟩
    rw [h2 k hk, h2 j hj] at this
    exact this
theorem _root_.K68.Mv.turn {n : Nat} {F : Fm} {o σ : Nat → Nat} {p : Nat → Rat} {M : Rat} (h : Mv n F p M) (h1 : ∀ i, i < n → o i < n) (h2 : ∀ i, i < n → σ i < n) (h3 : ∀ i, i < n → o (σ i) = i) : Mv n (fun i j => F (o i) (o j)) (fun i => p (o i)) M := by
  refine ⟨fun k j a hk hj e => h.le _ _ a (h1 k hk) (h1 j hj) e, ?_⟩
  obtain ⟨k, j, a, hk, hj, e, e2⟩ := h.at_
  refine ⟨σ k, σ j, a, h2 k hk, h2 j hj, ?_, ?_⟩
  · show F (o (σ k)) (o (σ j)) = some a
    rw [h3 k hk, h3 j hj]; exact e
  · show M = nd (p (o (σ k))) a (p (o (σ j)))
    rw [h3 k hk, h3 j hj]; exact e2
theorem _root_.FIT.LF.turn {n : Nat} {F : Fm} {o σ : Nat → Nat} {l c : Nat → Int} (h : LF n F l c) (h1 : ∀ i, i < n → o i < n) (h2 : ∀ i, i < n → σ i < n) (h3 : ∀ i, i < n → o (σ i) = i) : LF n (fun i j => F (o i) (o j)) (fun i => l (o i)) fun i => c (o i) := fun k hk => by
  obtain ⟨q1, j, a, hj, e, e2⟩ := h (o k) (h1 k hk)
  refine ⟨fun j a hj e => q1 _ a (h1 j hj) e, σ j, a, h2 j hj, ?_, ?_⟩
  · show F (o (σ j)) (o k) = some a
    rw [h3 j hj]; exact e
  · show c (o k) = l (o (σ j)) + a
    rw [h3 j hj]; exact e2
theorem fst_at {α : Type} [BEq α] [LawfulBEq α] : ∀ {l : List α} {r : α}, r ∈ l → ∃ j, l[j]? = some r ∧ (∀ m z, m < j → l[m]? = some z → z ≠ r) ∧ l.eraseIdx j = l.erase r
  | [], _, h => absurd h (by simp)
  | a :: t, r, h => by
    by_cases e : a = r
    · subst e
      exact ⟨0, rfl, fun m z hm => absurd hm (Nat.not_lt_zero _), by rw [List.erase_cons_head]; rfl⟩
    · have hr : r ∈ t := by
        rcases List.mem_cons.mp h with z | z
        · exact absurd z.symm e
        · exact z
      obtain ⟨j, h1, h2, h3⟩ := fst_at hr
      refine ⟨j + 1, h1, fun m z hm hz => ?_, ?_⟩
      · cases m with
        | zero => cases hz; exact e
        | succ m => exact h2 m z (Nat.lt_of_succ_lt_succ hm) hz
      · rw [List.erase_cons_tail (by rw [beq_iff_eq]; exact e), ← h3]; rfl
end K69
set_option linter.all false
set_option maxRecDepth 100000
namespace K69
open PySem PySem.Spec L2 DL
/-! bodies, printed by gen.py -/
/-- _law_box: 0 cell -/
def t_law_box : DTS :=
  (dRet (dLstM (dCons (dCB (dR2 dMax2R) (dCons (dC (.int 0)) (dCons (dOp (dI0 fun i j => .int (i - j)) (dVar 0) (dOp (dI CPow fun i j => .int (i ^ j.toNat)) (dC (.int 10)) (dC (.int 18)))) dNil))) (dCons (dOp (dI (fun _ j => 0 < j) fun i j => .int (i % j)) (dCB (dR1 dIntR) (dCons (dVar 0) dNil)) (dC (.int 2147483587))) (dCons (dC (.int 0)) dNil)))))
/-- _law_cell: 0 script, 1 k -/
def t_law_cell : DTS :=
  (dSeq (dIf (dTestB (dOp (dCmpR (fun i j => decide (i < j)) (fun a b => decide (a < b))) (dVar 1) (dCB (dR1 dLenR) (dCons (dVar 0) dNil)))) (dRet (dOp dIxR (dVar 0) (dVar 1))) dNext)
  (dRet (dOp dAddR (dOp (dI MulOk fun i j => .int (i * j)) (dC (.int 8087)) (dVar 1)) (dC (.int 79)))))
/-- _law_take: 0 box, 1 many, 2 digit, 3 one, 4 other -/
def t_law_take : DTS :=
  (dSeq (dIf (dTestB (dOp (dCmpR (fun i j => decide (j < i)) (fun a b => decide (b < a))) (dOp dIxR (dVar 0) (dC (.int 0))) (dC (.int 0)))) (dSeq (dAsg (dOp (dI (fun _ j => 0 < j) fun i j => .int (i % j)) (dCB (dR1 dIntR) (dCons (dOp dIxR (dVar 0) (dC (.int 0))) dNil)) (dVar 1)) (.nm 2))
  (dSeq (dSub (dOp (dI CDivW fun i j => .int (i / j)) (dOp dIxR (dVar 0) (dC (.int 0))) (dVar 1)) (dVar 0) (dC (.int 0)))
  (dRet (dVar 2)))) dNext)
  (dSeq (dSub (dOp dAddR (dOp dIxR (dVar 0) (dC (.int 2))) (dC (.int 1))) (dVar 0) (dC (.int 2)))
  (dSeq (dAsg (dOp (dI (fun _ j => 0 < j) fun i j => .int (i % j)) (dCB (dR1 dIntR) (dCons (dOp (dI CPow fun i j => .int (i ^ j.toNat)) (dOp dAddR (dOp dAddR (dOp dIxR (dVar 0) (dC (.int 1))) (dOp (dI MulOk fun i j => .int (i * j)) (dC (.int 7001)) (dOp dIxR (dVar 0) (dC (.int 2))))) (dC (.int 37))) (dC (.int 5))) dNil)) (dC (.int 2147483647))) (.nm 3))
  (dSeq (dAsg (dOp (dI (fun _ j => 0 < j) fun i j => .int (i % j)) (dCB (dR1 dIntR) (dCons (dOp (dI CPow fun i j => .int (i ^ j.toNat)) (dOp dAddR (dOp (dI MulOk fun i j => .int (i * j)) (dOp dIxR (dVar 0) (dC (.int 1))) (dOp dIxR (dVar 0) (dC (.int 2)))) (dC (.int 65003))) (dC (.int 3))) dNil)) (dC (.int 2147483629))) (.nm 4))
  (dRet (dOp (dI (fun _ j => 0 < j) fun i j => .int (i % j)) (dOp (dI CDivW fun i j => .int (i / j)) (dOp dAddR (dOp (dI MulOk fun i j => .int (i * j)) (dVar 3) (dC (.int 2147483629))) (dVar 4)) (dC (.int 8))) (dVar 1)))))))
/-- _law_mixed: 0 box, 1 items, 2 left, 3 found -/
def t_law_mixed (K : PySem.W.Frag) (sp_law_take : DSp) : DTS :=
  (dSeq (dPar 2 3 (dCons (dCB (dR1 (dListR true)) (dCons (dVar 1) dNil)) (dCons (dLstM dNil) dNil)))
  (dSeq (dWhile (dTestB (dOp dNeQ (dVar 2) (dLst dNil))) (dDrop (dMtL dAppend (dVar 3) (dCons (dMtL dPop (dVar 2) (dCons (dCall sp_law_take [] (dCons (dVar 0) (dCons (dCB (dR1 dLenR) (dCons (dVar 2) dNil)) dNil))) dNil)) dNil))))
  (dGhost K (dRet (dVar 3)))))
/-- _law_round_rules: 0 box, 1 many, 2 marks, 3 apart, 4 k -/
def t_law_round_rules (K : PySem.W.Frag) (sp_law_mixed : DSp) (sp_law_take : DSp) : DTS :=
  (dSeq (dAsg (dSl (dSlR false) (dCall sp_law_mixed [] (dCons (dVar 0) (dCons (dListRg1 false (dVar 1)) dNil))) dNoPart (dPart (dOp dAddR (dC (.int 2)) (dCall sp_law_take [] (dCons (dVar 0) (dCons (dC (.int 4)) dNil)))))) (.nm 2))
  (dSeq (dAsg (dLc true (dRng1 (dOp (dI0 fun i j => .int (i - j)) (dCB (dR1 dLenR) (dCons (dVar 2) dNil)) (dC (.int 1)))) (.nm 4) dYes (dOp (dI0 fun i j => .int (i - j)) (dCall sp_law_take [] (dCons (dVar 0) (dCons (dC (.int 81)) dNil))) (dC (.int 40))) [4]) (.nm 3))
  (dSeq (dDrop (dMtL dAppend (dVar 3) (dCons (dOp (dI0 fun i j => .int (i - j)) (dOp (dI0 fun i j => .int (i - j)) (dCall sp_law_take [] (dCons (dVar 0) (dCons (dC (.int 4)) dNil))) (dC (.int 1))) (dCB (dR1 (dOnInts (fun _ => True) fun ns => .int ns.sum)) (dCons (dVar 3) dNil))) dNil)))
  (dGhost K (dRet (dLc false (dRng1 (dCB (dR1 dLenR) (dCons (dVar 2) dNil))) (.nm 4) dYes (dTup (dCons (dOp dIxR (dVar 2) (dVar 4)) (dCons (dOp dIxR (dOp dAddR (dVar 2) (dSl (dSlR false) (dVar 2) dNoPart (dPart (dC (.int 1))))) (dOp dAddR (dVar 4) (dC (.int 1)))) (dCons (dOp dIxR (dVar 3) (dVar 4)) dNil)))) [4]))))))
/-- _law_drawn_rules: 0 box, 1 many, 2 count, 3 k, 4 hidden, 5 rules, 6 harder, 7 low, 8 high, 9 slack -/
def t_law_drawn_rules (K : PySem.W.Frag) (sp_law_take : DSp) (sp_law_round_rules : DSp) (sp_law_mixed : DSp) : DTS :=
  (dSeq (dAsg (dLc false (dRng1 (dVar 1)) (.nm 3) dYes (dOp (dI0 fun i j => .int (i - j)) (dCall sp_law_take [] (dCons (dVar 0) (dCons (dC (.int 121)) dNil))) (dC (.int 60))) [3]) (.nm 4))
  (dSeq (dAsg (dLstM dNil) (.nm 5))
  (dSeq (dIf (dTestB (dOp dEqQ (dVar 1) (dC (.int 1)))) (dGhost K (dRet (dTup (dCons (dVar 4) (dCons (dVar 5) dNil))))) dNext)
  (dSeq (dAsg (dOp dEqQ (dCall sp_law_take [] (dCons (dVar 0) (dCons (dC (.int 4)) dNil))) (dC (.int 0))) (.nm 6))
  (dSeq (dFor (dRng1 (dVar 2)) (.nm 3) (dSeq (dAsg (dCall sp_law_take [] (dCons (dVar 0) (dCons (dVar 1) dNil))) (.nm 7))
  (dSeq (dAsg (dOp (dI (fun _ j => 0 < j) fun i j => .int (i % j)) (dCB (dR1 dIntR) (dCons (dOp dAddR (dOp dAddR (dVar 7) (dC (.int 1))) (dCall sp_law_take [] (dCons (dVar 0) (dCons (dOp (dI0 fun i j => .int (i - j)) (dVar 1) (dC (.int 1))) dNil)))) dNil)) (dVar 1)) (.nm 8))
  (dSeq (dAsg (dOp dIxR (dLst (dCons (dC (.int 0)) (dCons (dCall sp_law_take [] (dCons (dVar 0) (dCons (dC (.int 10)) dNil))) (dCons (dCall sp_law_take [] (dCons (dVar 0) (dCons (dC (.int 250)) dNil))) dNil)))) (dCall sp_law_take [] (dCons (dVar 0) (dCons (dC (.int 3)) dNil)))) (.nm 9))
  (dSeq (dIf (dAnd (dTest (dVar 6)) (dTestB (dOp dEqQ (dCall sp_law_take [] (dCons (dVar 0) (dCons (dC (.int 5)) dNil))) (dC (.int 0))))) (dAsg (dOp (dI0 fun i j => .int (i - j)) (dOp (dI0 fun i j => .int (i - j)) (dC (.int 0)) (dC (.int 1))) (dCall sp_law_take [] (dCons (dVar 0) (dCons (dC (.int 4)) dNil)))) (.nm 9)) dNext)
  (dDrop (dMtL dAppend (dVar 5) (dCons (dTup (dCons (dVar 7) (dCons (dVar 8) (dCons (dOp (dI0 fun i j => .int (i - j)) (dOp (dI0 fun i j => .int (i - j)) (dOp dIxR (dVar 4) (dVar 8)) (dOp dIxR (dVar 4) (dVar 7))) (dVar 9)) dNil)))) dNil))))))))
  (dSeq (dIf (dTestB (dOp dEqQ (dCall sp_law_take [] (dCons (dVar 0) (dCons (dC (.int 3)) dNil))) (dC (.int 0)))) (dAsg (dOp dCatM (dVar 5) (dCall sp_law_round_rules [] (dCons (dVar 0) (dCons (dVar 1) dNil)))) (.nm 5)) dNext)
  (dGhost K (dRet (dTup (dCons (dVar 4) (dCons (dCall sp_law_mixed [] (dCons (dVar 0) (dCons (dVar 5) dNil))) dNil)))))))))))
/-- _law_low: 0 top, 1 bottom, 2 one, 3 other, 4 sign -/
def t_law_low : DTS :=
  (dSeq (dPar 2 3 (dCons (dCB (dR1 dAbsR) (dCons (dVar 0) dNil)) (dCons (dCB (dR1 dAbsR) (dCons (dVar 1) dNil)) dNil)))
  (dSeq (dWhile (dTestB (dOp (dCmpR (fun i j => decide (j < i)) (fun a b => decide (b < a))) (dVar 3) (dC (.int 0)))) (dPar 2 3 (dCons (dVar 3) (dCons (dOp (dI (fun _ j => 0 < j) fun i j => .int (i % j)) (dCB (dR1 dIntR) (dCons (dVar 2) dNil)) (dVar 3)) dNil))))
  (dSeq (dAsg (dIfE (dTestB (dOp (dCmpR (fun i j => decide (j < i)) (fun a b => decide (b < a))) (dVar 1) (dC (.int 0)))) (dC (.int 1)) (dUn dNeg (dC (.int 1)))) (.nm 4))
  (dRet (dTup (dCons (dOp (dI CDivW fun i j => .int (i / j)) (dOp (dI MulOk fun i j => .int (i * j)) (dVar 4) (dVar 0)) (dVar 2)) (dCons (dOp (dI CDivW fun i j => .int (i / j)) (dCB (dR1 dAbsR) (dCons (dVar 1) dNil)) (dVar 2)) dNil)))))))
/-- _law_places: 0 box, 1 hidden, 2 found, 3 cell, 4 near -/
def t_law_places (K : PySem.W.Frag) (sp_law_low : DSp) (sp_law_take : DSp) : DTS :=
  (dSeq (dAsg (dLstM dNil) (.nm 2))
  (dSeq (dFor (dSeqI (dVar 1)) (.nm 3) (dSeq (dAsg (dCall sp_law_low [] (dCons (dOp (dI0 fun i j => .int (i - j)) (dOp dAddR (dOp (dI MulOk fun i j => .int (i * j)) (dOp (dI MulOk fun i j => .int (i * j)) (dC (.int 64)) (dVar 3)) (dC (.int 3))) (dCall sp_law_take [] (dCons (dVar 0) (dCons (dC (.int 301)) dNil)))) (dC (.int 150))) (dCons (dC (.int 3)) dNil))) (.nm 4))
  (dDrop (dMtL dAppend (dVar 2) (dCons (dOp dIxR (dLst (dCons (dVar 4) (dCons (dTup (dCons (dOp (dI0 fun i j => .int (i - j)) (dOp dAddR (dOp (dI MulOk fun i j => .int (i * j)) (dC (.int 64)) (dVar 3)) (dCall sp_law_take [] (dCons (dVar 0) (dCons (dC (.int 1001)) dNil)))) (dC (.int 500))) (dCons (dC (.int 1)) dNil))) (dCons (dTup (dCons (dOp dAddR (dOp (dI MulOk fun i j => .int (i * j)) (dC (.int 64)) (dVar 3)) (dC (.int 32))) (dCons (dC (.int 1)) dNil))) dNil)))) (dCall sp_law_take [] (dCons (dVar 0) (dCons (dC (.int 3)) dNil)))) dNil)))))
  (dGhost K (dRet (dVar 2)))))
/-- _law_less: 0 one, 1 other -/
def t_law_less : DTS :=
  (dRet (dOp (dCmpR (fun i j => decide (i < j)) (fun a b => decide (a < b))) (dOp (dI MulOk fun i j => .int (i * j)) (dOp dIxR (dVar 0) (dC (.int 0))) (dOp dIxR (dVar 1) (dC (.int 1)))) (dOp (dI MulOk fun i j => .int (i * j)) (dOp dIxR (dVar 1) (dC (.int 0))) (dOp dIxR (dVar 0) (dC (.int 1))))))
/-- _law_most: 0 one, 1 other -/
def t_law_most (sp_law_less : DSp) : DTS :=
  (dRet (dIfE (dTest (dCall sp_law_less [] (dCons (dVar 0) (dCons (dVar 1) dNil)))) (dVar 1) (dVar 0)))
/-- _law_floor: 0 pair -/
def t_law_floor : DTS :=
  (dRet (dOp (dI CDivW fun i j => .int (i / j)) (dOp dIxR (dVar 0) (dC (.int 0))) (dOp dIxR (dVar 0) (dC (.int 1)))))
/-- _law_over: 0 one, 1 other -/
def t_law_over (sp_law_low : DSp) : DTS :=
  (dRet (dCall sp_law_low [] (dCons (dOp (dI MulOk fun i j => .int (i * j)) (dOp dIxR (dVar 0) (dC (.int 0))) (dOp dIxR (dVar 1) (dC (.int 1)))) (dCons (dOp (dI MulOk fun i j => .int (i * j)) (dOp dIxR (dVar 0) (dC (.int 1))) (dOp dIxR (dVar 1) (dC (.int 0)))) dNil))))
/-- _law_plus: 0 one, 1 other -/
def t_law_plus (sp_law_low : DSp) : DTS :=
  (dRet (dCall sp_law_low [] (dCons (dOp dAddR (dOp (dI MulOk fun i j => .int (i * j)) (dOp dIxR (dVar 0) (dC (.int 0))) (dOp dIxR (dVar 1) (dC (.int 1)))) (dOp (dI MulOk fun i j => .int (i * j)) (dOp dIxR (dVar 1) (dC (.int 0))) (dOp dIxR (dVar 0) (dC (.int 1))))) (dCons (dOp (dI MulOk fun i j => .int (i * j)) (dOp dIxR (dVar 0) (dC (.int 1))) (dOp dIxR (dVar 1) (dC (.int 1)))) dNil))))
/-- _law_minus: 0 one, 1 other -/
def t_law_minus (sp_law_low : DSp) : DTS :=
  (dRet (dCall sp_law_low [] (dCons (dOp (dI0 fun i j => .int (i - j)) (dOp (dI MulOk fun i j => .int (i * j)) (dOp dIxR (dVar 0) (dC (.int 0))) (dOp dIxR (dVar 1) (dC (.int 1)))) (dOp (dI MulOk fun i j => .int (i * j)) (dOp dIxR (dVar 1) (dC (.int 0))) (dOp dIxR (dVar 0) (dC (.int 1))))) (dCons (dOp (dI MulOk fun i j => .int (i * j)) (dOp dIxR (dVar 0) (dC (.int 1))) (dOp dIxR (dVar 1) (dC (.int 1)))) dNil))))
/-- _law_needed: 0 first, 1 apart, 2 last, 3 middle, 4 best, 5 cell, 6 below, 7 need -/
def t_law_needed (sp_law_floor : DSp) (sp_law_over : DSp) (sp_law_plus : DSp) (sp_law_minus : DSp) (sp_law_most : DSp) (sp_law_less : DSp) : DTS :=
  (dSeq (dAsg (dCall sp_law_floor [] (dCons (dCall sp_law_over [] (dCons (dCall sp_law_plus [] (dCons (dCall sp_law_plus [] (dCons (dVar 0) (dCons (dVar 2) dNil))) (dCons (dTup (dCons (dOp (dI0 fun i j => .int (i - j)) (dC (.int 0)) (dOp (dI MulOk fun i j => .int (i * j)) (dC (.int 64)) (dVar 1))) (dCons (dC (.int 1)) dNil))) dNil))) (dCons (dTup (dCons (dC (.int 128)) (dCons (dC (.int 1)) dNil))) dNil))) dNil)) (.nm 3))
  (dSeq (dAsg (dC .non) (.nm 4))
  (dSeq (dFor (dRng2 (dOp (dI0 fun i j => .int (i - j)) (dVar 3) (dC (.int 1))) (dOp dAddR (dVar 3) (dC (.int 3)))) (.nm 5) (dSeq (dAsg (dCall sp_law_minus [] (dCons (dVar 0) (dCons (dTup (dCons (dOp (dI MulOk fun i j => .int (i * j)) (dC (.int 64)) (dVar 5)) (dCons (dC (.int 1)) dNil))) dNil))) (.nm 6))
  (dSeq (dAsg (dCall sp_law_most [] (dCons (dVar 6) (dCons (dCall sp_law_minus [] (dCons (dTup (dCons (dOp (dI MulOk fun i j => .int (i * j)) (dC (.int 64)) (dOp dAddR (dVar 5) (dVar 1))) (dCons (dC (.int 1)) dNil))) (dCons (dVar 2) dNil))) dNil))) (.nm 7))
  (dIf (dOr (dTestB (dOp dIsR (dVar 4) (dC .non))) (dTest (dCall sp_law_less [] (dCons (dVar 7) (dCons (dVar 4) dNil))))) (dAsg (dVar 7) (.nm 4)) dNext))))
  (dRet (dVar 4)))))
/-- _law_least_movement: 0 places, 1 far, 2 best, 3 k, 4 j -/
def t_law_least_movement (sp_law_most : DSp) (sp_law_needed : DSp) : DTS :=
  (dSeq (dAsg (dTup (dCons (dC (.int 0)) (dCons (dC (.int 1)) dNil))) (.nm 2))
  (dSeq (dFor (dRng1 (dCB (dR1 dLenR) (dCons (dVar 0) dNil))) (.nm 3) (dFor (dRng1 (dCB (dR1 dLenR) (dCons (dVar 0) dNil))) (.nm 4) (dIf (dTestB (dOp dIsNR (dOp dIxR (dOp dIxR (dVar 1) (dVar 3)) (dVar 4)) (dC .non))) (dAsg (dCall sp_law_most [] (dCons (dVar 2) (dCons (dCall sp_law_needed [] (dCons (dOp dIxR (dVar 0) (dVar 3)) (dCons (dOp dIxR (dOp dIxR (dVar 1) (dVar 3)) (dVar 4)) (dCons (dOp dIxR (dVar 0) (dVar 4)) dNil)))) dNil))) (.nm 2)) dNext)))
  (dRet (dVar 2))))
/-- _law_cells_due: 0 places, 1 far, 2 movement, 3 many, 4 lows, 5 due, 6 k, 7 place, 8 j -/
def t_law_cells_due (K : PySem.W.Frag) (sp_law_floor : DSp) (sp_law_over : DSp) (sp_law_minus : DSp) : DTS :=
  (dSeq (dAsg (dCB (dR1 dLenR) (dCons (dVar 0) dNil)) (.nm 3))
  (dSeq (dAsg (dLc false (dSeqI (dVar 0)) (.nm 7) dYes (dOp (dI0 fun i j => .int (i - j)) (dC (.int 0)) (dCall sp_law_floor [] (dCons (dCall sp_law_over [] (dCons (dCall sp_law_minus [] (dCons (dVar 2) (dCons (dVar 7) dNil))) (dCons (dTup (dCons (dC (.int 64)) (dCons (dC (.int 1)) dNil))) dNil))) dNil))) [7]) (.nm 4))
  (dSeq (dAsg (dLstM dNil) (.nm 5))
  (dSeq (dFor (dRng1 (dVar 3)) (.nm 6) (dDrop (dMtL dAppend (dVar 5) (dCons (dCB (dR1 (dOnIntsQ (fun ns => ns ≠ []) fun ns => .int (maxI ns))) (dCons (dLc false (dRng1 (dVar 3)) (.nm 8) (dTestB (dOp dIsNR (dOp dIxR (dOp dIxR (dVar 1) (dVar 8)) (dVar 6)) (dC .non))) (dOp dAddR (dOp dIxR (dVar 4) (dVar 8)) (dOp dIxR (dOp dIxR (dVar 1) (dVar 8)) (dVar 6))) [8]) dNil)) dNil))))
  (dGhost K (dRet (dVar 5)))))))
/-- _law_num: 0 pair -/
def t_law_num : DTS :=
  (dRet (dIfE (dTestB (dOp dEqQ (dOp dIxR (dVar 0) (dC (.int 1))) (dC (.int 1)))) (dOp dIxR (dVar 0) (dC (.int 0))) (dVar 0)))
/-- is_list: 0 thing, 1 low, 2 high -/
def t_is_list : DTS :=
  (dRet (dAndV (dIsiT [.lst, .tup] (dVar 0)) (dChain (dCmpR (fun i j => decide (i ≤ j)) (fun a b => !decide (b < a))) (dCmpR (fun i j => decide (i ≤ j)) (fun a b => !decide (b < a))) (dVar 1) (dCB (dR1 dLenR) (dCons (dVar 0) dNil)) (dVar 2))))
/-- is_plain: 0 thing -/
def t_is_plain : DTS :=
  (dRet (dAndV (dCB (dR2 dIsiR) (dCons (dVar 0) (dCons (dC (.ty .int)) dNil))) (dNotV (dCB (dR2 dIsiR) (dCons (dVar 0) (dCons (dC (.ty .bool)) dNil))))))
/-- common_part: 0 one, 1 other -/
def t_common_part : DTS :=
  (dSeq (dPar 0 1 (dCons (dCB (dR1 dAbsR) (dCons (dVar 0) dNil)) (dCons (dCB (dR1 dAbsR) (dCons (dVar 1) dNil)) dNil)))
  (dSeq (dWhile (dTestB (dOp dNeQ (dVar 1) (dC (.int 0)))) (dPar 0 1 (dCons (dVar 1) (dCons (dOp (dI (fun _ j => 0 < j) fun i j => .int (i % j)) (dVar 0) (dVar 1)) dNil))))
  (dRet (dVar 0))))
/-- is_part: 0 thing, 1 top, 2 base -/
def t_is_part (sp_is_plain : DSp) (sp_common_part : DSp) : DTS :=
  (dSeq (dIf (dOr (dNot (dTest (dCB (dR2 dIsiR) (dCons (dVar 0) (dCons (dC (.ty .tup)) dNil))))) (dTestB (dOp dNeQ (dCB (dR1 dLenR) (dCons (dVar 0) dNil)) (dC (.int 2))))) (dRet (dC (.bl false))) dNext)
  (dSeq (dAsg (dVar 0) (.tp [(.nm 1), (.nm 2)]))
  (dRet (dAndV (dCall sp_is_plain [] (dCons (dVar 1) dNil)) (dAndV (dCall sp_is_plain [] (dCons (dVar 2) dNil)) (dAndV (dOp (dCmpR (fun i j => decide (j < i)) (fun a b => decide (b < a))) (dVar 2) (dC (.int 1))) (dOp dEqQ (dCall sp_common_part [] (dCons (dVar 1) (dCons (dVar 2) dNil))) (dC (.int 1)))))))))
/-- is_number: 0 thing -/
def t_is_number (sp_is_plain : DSp) (sp_is_part : DSp) : DTS :=
  (dRet (dOrV (dCall sp_is_plain [] (dCons (dVar 0) dNil)) (dCall sp_is_part [] (dCons (dVar 0) dNil))))
/-- pair_of: 0 number -/
def t_pair_of (sp_is_plain : DSp) (sp_is_part : DSp) : DTS :=
  (dSeq (dIf (dTest (dCall sp_is_plain [] (dCons (dVar 0) dNil))) (dRet (dTup (dCons (dVar 0) (dCons (dC (.int 1)) dNil)))) dNext)
  (dSeq (dIf (dNot (dTest (dCall sp_is_part [] (dCons (dVar 0) dNil)))) dNever dNext)
  (dRet (dVar 0))))
/-- is_short: 0 thing, 1 part -/
def t_is_short (sp_is_number : DSp) (sp_pair_of : DSp) : DTS :=
  (dRet (dAndV (dCall sp_is_number [] (dCons (dVar 0) dNil)) (dCB (dR1 (dOnBls fun bs => bs.all id)) (dCons (dLc false (dSeqI (dCall sp_pair_of [] (dCons (dVar 0) dNil))) (.nm 1) dYes (dOp (dCmpR (fun i j => decide (i < j)) (fun a b => decide (a < b))) (dCB (dR1 dAbsR) (dCons (dVar 1) dNil)) (dC (.int 100000000000000000000))) [1]) dNil))))
/-- need_mark_places: 0 places, 1 place -/
def t_need_mark_places (sp_is_list : DSp) (sp_is_short : DSp) : DTS :=
  (dSeq (dIf (dNot (dTest (dCall sp_is_list [] (dCons (dVar 0) (dCons (dC (.int 1)) (dCons (dC (.int 24)) dNil)))))) dNever dNext)
  (dFor (dSeqI (dVar 0)) (.nm 1) (dIf (dNot (dTest (dCall sp_is_short [] (dCons (dVar 1) dNil)))) dNever dNext)))
/-- is_whole: 0 thing, 1 low, 2 high -/
def t_is_whole (sp_is_plain : DSp) : DTS :=
  (dRet (dAndV (dCall sp_is_plain [] (dCons (dVar 0) dNil)) (dChain (dCmpR (fun i j => decide (i ≤ j)) (fun a b => !decide (b < a))) (dCmpR (fun i j => decide (i ≤ j)) (fun a b => !decide (b < a))) (dVar 1) (dVar 0) (dVar 2))))
/-- is_rule: 0 thing, 1 many, 2 low, 3 high, 4 apart -/
def t_is_rule (sp_is_whole : DSp) : DTS :=
  (dSeq (dIf (dOr (dNot (dTest (dCB (dR2 dIsiR) (dCons (dVar 0) (dCons (dC (.ty .tup)) dNil))))) (dTestB (dOp dNeQ (dCB (dR1 dLenR) (dCons (dVar 0) dNil)) (dC (.int 3))))) (dRet (dC (.bl false))) dNext)
  (dSeq (dAsg (dVar 0) (.tp [(.nm 2), (.nm 3), (.nm 4)]))
  (dSeq (dIf (dOr (dNot (dTest (dCall sp_is_whole [] (dCons (dVar 2) (dCons (dC (.int 0)) (dCons (dOp (dI0 fun i j => .int (i - j)) (dVar 1) (dC (.int 1))) dNil)))))) (dOr (dNot (dTest (dCall sp_is_whole [] (dCons (dVar 3) (dCons (dC (.int 0)) (dCons (dOp (dI0 fun i j => .int (i - j)) (dVar 1) (dC (.int 1))) dNil)))))) (dTestB (dOp dEqQ (dVar 2) (dVar 3))))) (dRet (dC (.bl false))) dNext)
  (dRet (dCall sp_is_whole [] (dCons (dVar 4) (dCons (dUn dNeg (dC (.int 400))) (dCons (dC (.int 400)) dNil))))))))
/-- need_rules: 0 rules, 1 many, 2 rule -/
def t_need_rules (sp_is_list : DSp) (sp_is_rule : DSp) : DTS :=
  (dSeq (dIf (dNot (dTest (dCall sp_is_list [] (dCons (dVar 0) (dCons (dC (.int 0)) (dCons (dC (.int 100)) dNil)))))) dNever dNext)
  (dFor (dSeqI (dVar 0)) (.nm 2) (dIf (dNot (dTest (dCall sp_is_rule [] (dCons (dVar 2) (dCons (dVar 1) dNil))))) dNever dNext)))
/-- raised: 0 lows, 1 rules, 2 cells, 3 raised_by, 4 rising_mark, 5 turn, 6 number, 7 low, 8 high, 9 apart -/
def t_raised (K : PySem.W.Frag) : DTS :=
  (dSeq (dPar 2 3 (dCons (dCB (dR1 (dListR true)) (dCons (dVar 0) dNil)) (dCons (dOp (dRepR true) (dLst (dCons (dC .non) dNil)) (dCB (dR1 dLenR) (dCons (dVar 0) dNil))) dNil)))
  (dSeq (dAsg (dC .non) (.nm 4))
  (dSeq (dFor (dRng1 (dCB (dR1 dLenR) (dCons (dVar 0) dNil))) (.nm 5) (dSeq (dAsg (dC .non) (.nm 4))
  (dFor (dEnumQ (dVar 1)) (.tp [(.nm 6), (.tp [(.nm 7), (.nm 8), (.nm 9)])]) (dIf (dAnd (dTestB (dOp dIsNR (dOp dIxR (dVar 2) (dVar 7)) (dC .non))) (dOr (dTestB (dOp dIsR (dOp dIxR (dVar 2) (dVar 8)) (dC .non))) (dTestB (dOp (dCmpR (fun i j => decide (i < j)) (fun a b => decide (a < b))) (dOp dIxR (dVar 2) (dVar 8)) (dOp dAddR (dOp dIxR (dVar 2) (dVar 7)) (dVar 9)))))) (dSeq (dSub (dOp dAddR (dOp dIxR (dVar 2) (dVar 7)) (dVar 9)) (dVar 2) (dVar 8))
  (dSeq (dSub (dVar 6) (dVar 3) (dVar 8))
  (dAsg (dVar 8) (.nm 4)))) dNext))))
  (dGhost K (dRet (dTup (dCons (dVar 2) (dCons (dVar 3) (dCons (dVar 4) dNil)))))))))
/-- led_back: 0 raised_by, 1 rules, 2 begin, 3 end, 4 found -/
def t_led_back (K : PySem.W.Frag) : DTS :=
  (dSeq (dAsg (dLstM (dCons (dOp dIxR (dVar 0) (dVar 3)) dNil)) (.nm 4))
  (dSeq (dWhile (dTestB (dOp dNeQ (dOp dIxR (dOp dIxR (dVar 1) (dOp dIxR (dVar 4) (dUn dNeg (dC (.int 1))))) (dC (.int 0))) (dVar 2))) (dDrop (dMtL dAppend (dVar 4) (dCons (dOp dIxR (dVar 0) (dOp dIxR (dOp dIxR (dVar 1) (dOp dIxR (dVar 4) (dUn dNeg (dC (.int 1))))) (dC (.int 0)))) dNil))))
  (dGhost K (dRet (dRevR false (dVar 4))))))
/-- found_cycle: 0 many, 1 rules, 2 cells, 3 raised_by, 4 mark, 5 turn -/
def t_found_cycle (sp_raised : DSp) (sp_led_back : DSp) : DTS :=
  (dSeq (dAsg (dCall sp_raised [] (dCons (dOp (dRepR false) (dLst (dCons (dC (.int 0)) dNil)) (dVar 0)) (dCons (dVar 1) dNil))) (.tp [(.nm 2), (.nm 3), (.nm 4)]))
  (dSeq (dIf (dTestB (dOp dIsR (dVar 4) (dC .non))) (dRet (dC .non)) dNext)
  (dSeq (dFor (dRng1 (dVar 0)) (.nm 5) (dAsg (dOp dIxR (dOp dIxR (dVar 1) (dOp dIxR (dVar 3) (dVar 4))) (dC (.int 0))) (.nm 4)))
  (dRet (dCall sp_led_back [] (dCons (dVar 3) (dCons (dVar 1) (dCons (dVar 4) (dCons (dVar 4) dNil)))))))))
/-- need_kept: 0 many, 1 rules, 2 cycle -/
def t_need_kept (K : PySem.W.Frag) (sp_found_cycle : DSp) : DTS :=
  (dSeq (dAsg (dCall sp_found_cycle [] (dCons (dVar 0) (dCons (dVar 1) dNil))) (.nm 2))
  (dIf (dTestB (dOp dIsNR (dVar 2) (dC .non))) (dRaise (dMk1 (He.ga K "NoFit") "cycle" (dCons (dVar 2) dNil))) dNext))
/-- raised_from: 0 many, 1 rules, 2 mark, 3 cells, 4 raised_by, 5 still, 6 other -/
def t_raised_from (sp_raised : DSp) : DTS :=
  (dSeq (dAsg (dCall sp_raised [] (dCons (dLc false (dRng1 (dVar 0)) (.nm 6) dYes (dIfE (dTestB (dOp dEqQ (dVar 6) (dVar 2))) (dC (.int 0)) (dC .non)) [6]) (dCons (dVar 1) dNil))) (.tp [(.nm 3), (.nm 4), (.nm 5)]))
  (dRet (dTup (dCons (dVar 3) (dCons (dVar 4) dNil)))))
/-- reckoned: 0 top, 1 base, 2 part -/
def t_reckoned (sp_common_part : DSp) : DTS :=
  (dSeq (dAsg (dCall sp_common_part [] (dCons (dVar 0) (dCons (dVar 1) dNil))) (.nm 2))
  (dSeq (dIf (dTestB (dOp (dCmpR (fun i j => decide (i < j)) (fun a b => decide (a < b))) (dVar 1) (dC (.int 0)))) (dAsg (dOp (dI0 fun i j => .int (i - j)) (dC (.int 0)) (dVar 2)) (.nm 2)) dNext)
  (dSeq (dPar 0 1 (dCons (dOp (dI (fun _ j => DivOk j) fun i j => .int (i.fdiv j)) (dVar 0) (dVar 2)) (dCons (dOp (dI (fun _ j => DivOk j) fun i j => .int (i.fdiv j)) (dVar 1) (dVar 2)) dNil)))
  (dRet (dIfE (dTestB (dOp dEqQ (dVar 1) (dC (.int 1)))) (dVar 0) (dTup (dCons (dVar 0) (dCons (dVar 1) dNil))))))))
/-- times: 0 one, 1 other, 2 top, 3 base, 4 more, 5 under -/
def t_times (sp_pair_of : DSp) (sp_reckoned : DSp) : DTS :=
  (dSeq (dAsg (dTup (dCons (dCall sp_pair_of [] (dCons (dVar 0) dNil)) (dCons (dCall sp_pair_of [] (dCons (dVar 1) dNil)) dNil))) (.tp [(.tp [(.nm 2), (.nm 3)]), (.tp [(.nm 4), (.nm 5)])]))
  (dRet (dCall sp_reckoned [] (dCons (dOp (dI MulOk fun i j => .int (i * j)) (dVar 2) (dVar 4)) (dCons (dOp (dI MulOk fun i j => .int (i * j)) (dVar 3) (dVar 5)) dNil)))))
/-- floor_of: 0 number, 1 step, 2 top, 3 base, 4 more, 5 under -/
def t_floor_of (sp_pair_of : DSp) (sp_times : DSp) : DTS :=
  (dSeq (dAsg (dTup (dCons (dCall sp_pair_of [] (dCons (dVar 0) dNil)) (dCons (dCall sp_pair_of [] (dCons (dVar 1) dNil)) dNil))) (.tp [(.tp [(.nm 2), (.nm 3)]), (.tp [(.nm 4), (.nm 5)])]))
  (dSeq (dIf (dTestB (dOp (dCmpR (fun i j => decide (i ≤ j)) (fun a b => !decide (b < a))) (dVar 4) (dC (.int 0)))) dNever dNext)
  (dRet (dCall sp_times [] (dCons (dVar 1) (dCons (dOp (dI CDivW fun i j => .int (i / j)) (dOp (dI MulOk fun i j => .int (i * j)) (dVar 2) (dVar 5)) (dOp (dI MulOk fun i j => .int (i * j)) (dVar 3) (dVar 4))) dNil))))))
/-- over: 0 one, 1 other, 2 top, 3 base, 4 more, 5 under -/
def t_over (sp_pair_of : DSp) (sp_reckoned : DSp) : DTS :=
  (dSeq (dAsg (dTup (dCons (dCall sp_pair_of [] (dCons (dVar 0) dNil)) (dCons (dCall sp_pair_of [] (dCons (dVar 1) dNil)) dNil))) (.tp [(.tp [(.nm 2), (.nm 3)]), (.tp [(.nm 4), (.nm 5)])]))
  (dSeq (dIf (dTestB (dOp dEqQ (dVar 4) (dC (.int 0)))) dNever dNext)
  (dRet (dCall sp_reckoned [] (dCons (dOp (dI MulOk fun i j => .int (i * j)) (dVar 2) (dVar 5)) (dCons (dOp (dI MulOk fun i j => .int (i * j)) (dVar 3) (dVar 4)) dNil))))))
/-- minus: 0 one, 1 other, 2 top, 3 base, 4 more, 5 under -/
def t_minus (sp_pair_of : DSp) (sp_reckoned : DSp) : DTS :=
  (dSeq (dAsg (dTup (dCons (dCall sp_pair_of [] (dCons (dVar 0) dNil)) (dCons (dCall sp_pair_of [] (dCons (dVar 1) dNil)) dNil))) (.tp [(.tp [(.nm 2), (.nm 3)]), (.tp [(.nm 4), (.nm 5)])]))
  (dRet (dCall sp_reckoned [] (dCons (dOp (dI0 fun i j => .int (i - j)) (dOp (dI MulOk fun i j => .int (i * j)) (dVar 2) (dVar 5)) (dOp (dI MulOk fun i j => .int (i * j)) (dVar 4) (dVar 3))) (dCons (dOp (dI MulOk fun i j => .int (i * j)) (dVar 3) (dVar 5)) dNil)))))
/-- plus: 0 one, 1 other, 2 top, 3 base, 4 more, 5 under -/
def t_plus (sp_pair_of : DSp) (sp_reckoned : DSp) : DTS :=
  (dSeq (dAsg (dTup (dCons (dCall sp_pair_of [] (dCons (dVar 0) dNil)) (dCons (dCall sp_pair_of [] (dCons (dVar 1) dNil)) dNil))) (.tp [(.tp [(.nm 2), (.nm 3)]), (.tp [(.nm 4), (.nm 5)])]))
  (dRet (dCall sp_reckoned [] (dCons (dOp dAddR (dOp (dI MulOk fun i j => .int (i * j)) (dVar 2) (dVar 5)) (dOp (dI MulOk fun i j => .int (i * j)) (dVar 4) (dVar 3))) (dCons (dOp (dI MulOk fun i j => .int (i * j)) (dVar 3) (dVar 5)) dNil)))))
/-- less: 0 one, 1 other, 2 top, 3 base, 4 more, 5 under -/
def t_less (sp_pair_of : DSp) : DTS :=
  (dSeq (dAsg (dTup (dCons (dCall sp_pair_of [] (dCons (dVar 0) dNil)) (dCons (dCall sp_pair_of [] (dCons (dVar 1) dNil)) dNil))) (.tp [(.tp [(.nm 2), (.nm 3)]), (.tp [(.nm 4), (.nm 5)])]))
  (dRet (dOp (dCmpR (fun i j => decide (i < j)) (fun a b => decide (a < b))) (dOp (dI MulOk fun i j => .int (i * j)) (dVar 2) (dVar 5)) (dOp (dI MulOk fun i j => .int (i * j)) (dVar 4) (dVar 3)))))
/-- needed_for: 0 first, 1 apart, 2 last, 3 cell, 4 below, 5 above -/
def t_needed_for (sp_floor_of : DSp) (sp_over : DSp) (sp_minus : DSp) (sp_plus : DSp) (sp_less : DSp) : DTS :=
  (dSeq (dAsg (dCallN 1 0 sp_floor_of (fun ds es => pick [0, 1] (ds ++ es ++ [D.int 1])) (dCons (dCall sp_over [] (dCons (dCall sp_minus [] (dCons (dCall sp_plus [] (dCons (dVar 0) (dCons (dVar 2) dNil))) (dCons (dOp (dI MulOk fun i j => .int (i * j)) (dC (.int 64)) (dVar 1)) dNil))) (dCons (dOp (dI MulOk fun i j => .int (i * j)) (dC (.int 2)) (dC (.int 64))) dNil))) dNil) dNil) (.nm 3))
  (dSeq (dPar 4 5 (dCons (dCall sp_minus [] (dCons (dVar 0) (dCons (dOp (dI MulOk fun i j => .int (i * j)) (dC (.int 64)) (dVar 3)) dNil))) (dCons (dCall sp_minus [] (dCons (dOp (dI MulOk fun i j => .int (i * j)) (dC (.int 64)) (dOp dAddR (dOp dAddR (dVar 3) (dC (.int 1))) (dVar 1))) (dCons (dVar 2) dNil))) dNil)))
  (dRet (dIfE (dTest (dCall sp_less [] (dCons (dVar 5) (dCons (dVar 4) dNil)))) (dVar 5) (dVar 4)))))
/-- tight_chain: 0 places, 1 rules, 2 best, 3 first, 4 place, 5 cells, 6 raised_by, 7 last, 8 apart, 9 needed, 10 chain -/
def t_tight_chain (sp_raised_from : DSp) (sp_needed_for : DSp) (sp_less : DSp) (sp_led_back : DSp) : DTS :=
  (dSeq (dAsg (dC .non) (.nm 2))
  (dSeq (dFor (dEnumQ (dVar 0)) (.tp [(.nm 3), (.nm 4)]) (dSeq (dAsg (dCall sp_raised_from [] (dCons (dCB (dR1 dLenR) (dCons (dVar 0) dNil)) (dCons (dVar 1) (dCons (dVar 3) dNil)))) (.tp [(.nm 5), (.nm 6)]))
  (dFor (dEnumQ (dVar 5)) (.tp [(.nm 7), (.nm 8)]) (dSeq (dIf (dTestB (dOp dIsR (dVar 8) (dC .non))) dCont dNext)
  (dSeq (dAsg (dCall sp_needed_for [] (dCons (dVar 4) (dCons (dVar 8) (dCons (dOp dIxR (dVar 0) (dVar 7)) dNil)))) (.nm 9))
  (dIf (dOr (dTestB (dOp dIsR (dVar 2) (dC .non))) (dTest (dCall sp_less [] (dCons (dOp dIxR (dVar 2) (dC (.int 0))) (dCons (dVar 9) dNil))))) (dSeq (dAsg (dIfE (dTestB (dOp dNeQ (dVar 7) (dVar 3))) (dCall sp_led_back [] (dCons (dVar 6) (dCons (dVar 1) (dCons (dVar 3) (dCons (dVar 7) dNil))))) (dLst dNil)) (.nm 10))
  (dAsg (dTup (dCons (dVar 9) (dCons (dVar 3) (dCons (dVar 10) (dCons (dVar 7) dNil))))) (.nm 2))) dNext))))))
  (dRet (dVar 2))))
/-- nearest_fit: 0 places, 1 rules, 2 movement, 3 first, 4 chain, 5 last, 6 lows, 7 place -/
def t_nearest_fit (sp_need_mark_places : DSp) (sp_need_rules : DSp) (sp_need_kept : DSp) (sp_tight_chain : DSp) (sp_floor_of : DSp) (sp_over : DSp) (sp_minus : DSp) (sp_raised : DSp) : DTS :=
  (dSeq (dDrop (dCall sp_need_mark_places [] (dCons (dVar 0) dNil)))
  (dSeq (dDrop (dCall sp_need_rules [] (dCons (dVar 1) (dCons (dCB (dR1 dLenR) (dCons (dVar 0) dNil)) dNil))))
  (dSeq (dDropX (dCallX sp_need_kept (dCons (dCB (dR1 dLenR) (dCons (dVar 0) dNil)) (dCons (dVar 1) dNil))))
  (dSeq (dAsg (dCall sp_tight_chain [] (dCons (dVar 0) (dCons (dVar 1) dNil))) (.tp [(.nm 2), (.nm 3), (.nm 4), (.nm 5)]))
  (dSeq (dAsg (dLc false (dSeqI (dVar 0)) (.nm 7) dYes (dOp (dI0 fun i j => .int (i - j)) (dC (.int 0)) (dCallN 1 0 sp_floor_of (fun ds es => pick [0, 1] (ds ++ es ++ [D.int 1])) (dCons (dCall sp_over [] (dCons (dCall sp_minus [] (dCons (dVar 2) (dCons (dVar 7) dNil))) (dCons (dC (.int 64)) dNil))) dNil) dNil)) [7]) (.nm 6))
  (dRet (dTup (dCons (dVar 2) (dCons (dOp dIxR (dCall sp_raised [] (dCons (dVar 6) (dCons (dVar 1) dNil))) (dC (.int 0))) (dCons (dTup (dCons (dVar 3) (dCons (dVar 4) (dCons (dVar 5) dNil)))) dNil))))))))))
/-- _law_fit: 0 places, 1 rules, 2 told, 3 place -/
def t_law_fit (sp_nearest_fit : DSp) (sp_law_num : DSp) : DTS :=
  (dSeq (dAsg (dCall sp_nearest_fit [] (dCons (dLc false (dSeqI (dVar 0)) (.nm 3) dYes (dCall sp_law_num [] (dCons (dVar 3) dNil)) [3]) (dCons (dVar 1) dNil))) (.nm 2))
  (dRet (dIfE (dAnd (dTest (dCB (dR2 dIsiR) (dCons (dVar 2) (dCons (dC (.ty .tup)) dNil)))) (dTestB (dOp dEqQ (dCB (dR1 dLenR) (dCons (dVar 2) dNil)) (dC (.int 3))))) (dLst (dCons (dOp dIxR (dVar 2) (dC (.int 0))) (dCons (dOp dIxR (dVar 2) (dC (.int 1))) dNil))) (dC .non))))
/-- _law_same: 0 given, 1 due, 2 k -/
def t_law_same (sp_law_same : DSp) : DTS :=
  (dSeq (dIf (dOr (dTestB (dOp dIsR (dVar 1) (dC .non))) (dTest (dCB (dR2 dIsiR) (dCons (dVar 1) (dCons (dC (.ty .bool)) dNil))))) (dRet (dIfE (dTestB (dOp dIsR (dVar 1) (dC .non))) (dOp dIsR (dVar 0) (dC .non)) (dAndV (dCB (dR2 dIsiR) (dCons (dVar 0) (dCons (dC (.ty .bool)) dNil))) (dOp dEqQ (dOp dIsR (dVar 0) (dC (.bl true))) (dOp dIsR (dVar 1) (dC (.bl true))))))) dNext)
  (dSeq (dIf (dTest (dCB (dR2 dIsiR) (dCons (dVar 1) (dCons (dC (.ty .int)) dNil)))) (dRet (dAndV (dCB (dR2 dIsiR) (dCons (dVar 0) (dCons (dC (.ty .int)) dNil))) (dAndV (dNotV (dCB (dR2 dIsiR) (dCons (dVar 0) (dCons (dC (.ty .bool)) dNil)))) (dOp dEqQ (dOp (dI0 fun i j => .int (i - j)) (dCB (dR1 dIntR) (dCons (dVar 0) dNil)) (dVar 1)) (dC (.int 0)))))) dNext)
  (dSeq (dIf (dTest (dCB (dR2 dIsiR) (dCons (dVar 1) (dCons (dC (.ty .str)) dNil)))) (dSeq (dIf (dOr (dNot (dTest (dCB (dR2 dIsiR) (dCons (dVar 0) (dCons (dC (.ty .str)) dNil))))) (dTestB (dOp dNeQ (dCB (dR1 dLenR) (dCons (dVar 0) dNil)) (dCB (dR1 dLenR) (dCons (dVar 1) dNil))))) (dRet (dC (.bl false))) dNext)
  (dRet (dOp dEqQ (dLc false (dRng1 (dCB (dR1 dLenR) (dCons (dVar 1) dNil))) (.nm 2) (dTestB (dOp dNeQ (dSl (dSlR false) (dVar 0) (dPart (dVar 2)) (dPart (dOp dAddR (dVar 2) (dC (.int 1))))) (dOp dIxR (dVar 1) (dVar 2)))) (dVar 2) [2]) (dLst dNil)))) dNext)
  (dSeq (dIf (dOr (dTestB (dOp dNeQ (dCB (dR2 dIsiR) (dCons (dVar 0) (dCons (dC (.ty .lst)) dNil))) (dCB (dR2 dIsiR) (dCons (dVar 1) (dCons (dC (.ty .lst)) dNil))))) (dTestB (dOp dNeQ (dCB (dR2 dIsiR) (dCons (dVar 0) (dCons (dC (.ty .tup)) dNil))) (dCB (dR2 dIsiR) (dCons (dVar 1) (dCons (dC (.ty .tup)) dNil)))))) (dRet (dC (.bl false))) dNext)
  (dRet (dAndV (dOp dEqQ (dCB (dR1 dLenR) (dCons (dVar 0) dNil)) (dCB (dR1 dLenR) (dCons (dVar 1) dNil))) (dOp dEqQ (dLc false (dRng1 (dCB (dR1 dLenR) (dCons (dVar 1) dNil))) (.nm 2) (dNot (dTest (dCall sp_law_same [] (dCons (dOp dIxR (dVar 0) (dVar 2)) (dCons (dOp dIxR (dVar 1) (dVar 2)) dNil))))) (dVar 2) [2]) (dLst dNil))))))))
/-- _law_far: 0 many, 1 rules, 2 k, 3 j, 4 far, 5 low, 6 high, 7 apart, 8 mid -/
def t_law_far (K : PySem.W.Frag) : DTS :=
  (dSeq (dAsg (dLc true (dRng1 (dVar 0)) (.nm 2) dYes (dLc true (dRng1 (dVar 0)) (.nm 3) dYes (dIfE (dTestB (dOp dEqQ (dVar 2) (dVar 3))) (dC (.int 0)) (dC .non)) [3]) [2]) (.nm 4))
  (dSeq (dFor (dSeqI (dVar 1)) (.tp [(.nm 5), (.nm 6), (.nm 7)]) (dIf (dOr (dTestB (dOp dIsR (dOp dIxR (dOp dIxR (dVar 4) (dVar 5)) (dVar 6)) (dC .non))) (dTestB (dOp (dCmpR (fun i j => decide (i < j)) (fun a b => decide (a < b))) (dOp dIxR (dOp dIxR (dVar 4) (dVar 5)) (dVar 6)) (dVar 7)))) (dSub (dVar 7) (dOp dIxR (dVar 4) (dVar 5)) (dVar 6)) dNext))
  (dSeq (dFor (dRng1 (dVar 0)) (.nm 8) (dSeq (dFor (dRng1 (dVar 0)) (.nm 2) (dIf (dTestB (dOp dIsNR (dOp dIxR (dOp dIxR (dVar 4) (dVar 2)) (dVar 8)) (dC .non))) (dFor (dRng1 (dVar 0)) (.nm 3) (dIf (dAnd (dTestB (dOp dIsNR (dOp dIxR (dOp dIxR (dVar 4) (dVar 8)) (dVar 3)) (dC .non))) (dOr (dTestB (dOp dIsR (dOp dIxR (dOp dIxR (dVar 4) (dVar 2)) (dVar 3)) (dC .non))) (dTestB (dOp (dCmpR (fun i j => decide (i < j)) (fun a b => decide (a < b))) (dOp dIxR (dOp dIxR (dVar 4) (dVar 2)) (dVar 3)) (dOp dAddR (dOp dIxR (dOp dIxR (dVar 4) (dVar 2)) (dVar 8)) (dOp dIxR (dOp dIxR (dVar 4) (dVar 8)) (dVar 3))))))) (dSub (dOp dAddR (dOp dIxR (dOp dIxR (dVar 4) (dVar 2)) (dVar 8)) (dOp dIxR (dOp dIxR (dVar 4) (dVar 8)) (dVar 3))) (dOp dIxR (dVar 4) (dVar 2)) (dVar 3)) dNext)) dNext))
  (dIf (dTestB (dOp dNeQ (dLc false (dRng1 (dVar 0)) (.nm 2) (dTestB (dOp (dCmpR (fun i j => decide (j < i)) (fun a b => decide (b < a))) (dOp dIxR (dOp dIxR (dVar 4) (dVar 2)) (dVar 2)) (dC (.int 0)))) (dVar 2) [2]) (dLst dNil))) (dGhost K (dRet (dC .non))) dNext)))
  (dGhost K (dRet (dVar 4))))))
/-- need_marks: 0 many, 1 rules -/
def t_need_marks (sp_is_whole : DSp) (sp_need_rules : DSp) : DTS :=
  (dSeq (dIf (dNot (dTest (dCall sp_is_whole [] (dCons (dVar 0) (dCons (dC (.int 1)) (dCons (dC (.int 24)) dNil)))))) dNever dNext)
  (dDrop (dCall sp_need_rules [] (dCons (dVar 1) (dCons (dVar 0) dNil)))))
/-- follows: 0 many, 1 rules, 2 rule, 3 low, 4 high, 5 apart, 6 cells, 7 raised_by -/
def t_follows (sp_need_marks : DSp) (sp_is_rule : DSp) (sp_need_kept : DSp) (sp_raised_from : DSp) (sp_led_back : DSp) (sp_raised : DSp) : DTS :=
  (dSeq (dDrop (dCall sp_need_marks [] (dCons (dVar 0) (dCons (dVar 1) dNil))))
  (dSeq (dIf (dNot (dTest (dCall sp_is_rule [] (dCons (dVar 2) (dCons (dVar 0) dNil))))) dNever dNext)
  (dSeq (dDropX (dCallX sp_need_kept (dCons (dVar 0) (dCons (dVar 1) dNil))))
  (dSeq (dAsg (dVar 2) (.tp [(.nm 3), (.nm 4), (.nm 5)]))
  (dSeq (dAsg (dCall sp_raised_from [] (dCons (dVar 0) (dCons (dVar 1) (dCons (dVar 3) dNil)))) (.tp [(.nm 6), (.nm 7)]))
  (dSeq (dIf (dAnd (dTestB (dOp dIsNR (dOp dIxR (dVar 6) (dVar 4)) (dC .non))) (dTestB (dOp (dCmpR (fun i j => decide (j ≤ i)) (fun a b => !decide (a < b))) (dOp dIxR (dVar 6) (dVar 4)) (dVar 5)))) (dRet (dTup (dCons (dC (.str "follows")) (dCons (dCall sp_led_back [] (dCons (dVar 7) (dCons (dVar 1) (dCons (dVar 3) (dCons (dVar 4) dNil))))) dNil)))) dNext)
  (dRet (dTup (dCons (dC (.str "open")) (dCons (dOp dIxR (dCall sp_raised [] (dCons (dOp (dRepR false) (dLst (dCons (dC (.int 0)) dNil)) (dVar 0)) (dCons (dOp dAddR (dCB (dR1 (dListR false)) (dCons (dVar 1) dNil)) (dLst (dCons (dTup (dCons (dVar 4) (dCons (dVar 3) (dCons (dOp (dI0 fun i j => .int (i - j)) (dC (.int 1)) (dVar 5)) dNil)))) dNil))) dNil))) (dC (.int 0))) dNil))))))))))
/-- _law_thinned: 0 many, 1 rules, 2 left, 3 rule, 4 others, 5 far -/
def t_law_thinned (K : PySem.W.Frag) (sp_law_far : DSp) (sp_follows : DSp) : DTS :=
  (dSeq (dAsg (dCB (dR1 (dListR false)) (dCons (dVar 1) dNil)) (.nm 2))
  (dSeq (dFor (dSeqI (dVar 1)) (.nm 3) (dSeq (dAsg (dCB (dR1 (dListR true)) (dCons (dVar 2) dNil)) (.nm 4))
  (dSeq (dDrop (dMtL dRemove (dVar 4) (dCons (dVar 3) dNil)))
  (dSeq (dGhost K (dAsg (dCall sp_law_far [] (dCons (dVar 0) (dCons (dVar 4) dNil))) (.nm 5)))
  (dIf (dAnd (dTestB (dOp dIsNR (dOp dIxR (dOp dIxR (dVar 5) (dOp dIxR (dVar 3) (dC (.int 0)))) (dOp dIxR (dVar 3) (dC (.int 1)))) (dC .non))) (dTestB (dOp (dCmpR (fun i j => decide (j ≤ i)) (fun a b => !decide (a < b))) (dOp dIxR (dOp dIxR (dVar 5) (dOp dIxR (dVar 3) (dC (.int 0)))) (dOp dIxR (dVar 3) (dC (.int 1)))) (dOp dIxR (dVar 3) (dC (.int 2)))))) (dSeq (dIf (dTestB (dOp dNeQ (dOp dIxR (dCall sp_follows [] (dCons (dVar 0) (dCons (dCB (dR1 (dListR false)) (dCons (dVar 4) dNil)) (dCons (dVar 3) dNil)))) (dC (.int 0))) (dC (.str "follows")))) (dRet (dC .non)) dNext)
  (dAsg (dVar 4) (.nm 2))) (dIf (dTestB (dOp dNeQ (dOp dIxR (dCall sp_follows [] (dCons (dVar 0) (dCons (dCB (dR1 (dListR false)) (dCons (dVar 4) dNil)) (dCons (dVar 3) dNil)))) (dC (.int 0))) (dC (.str "open")))) (dRet (dC .non)) dNext))))))
  (dRet (dVar 2))))
/-- _law_all_implied: 0 far, 1 many, 2 found, 3 k, 4 rule, 5 j -/
def t_law_all_implied : DTS :=
  (dSeq (dAsg (dCB (dR1 dLenR) (dCons (dVar 0) dNil)) (.nm 1))
  (dSeq (dAsg (dLst dNil) (.nm 2))
  (dSeq (dFor (dRng1 (dVar 1)) (.nm 3) (dAsg (dOp dAddR (dVar 2) (dLc false (dRng1 (dVar 1)) (.nm 5) (dAnd (dTestB (dOp dNeQ (dVar 3) (dVar 5))) (dTestB (dOp dIsNR (dOp dIxR (dOp dIxR (dVar 0) (dVar 3)) (dVar 5)) (dC .non)))) (dTup (dCons (dVar 3) (dCons (dVar 5) (dCons (dOp dIxR (dOp dIxR (dVar 0) (dVar 3)) (dVar 5)) dNil)))) [5])) (.nm 2)))
  (dRet (dLc false (dSeqI (dVar 2)) (.nm 4) (dTestB (dChain (dCmpR (fun i j => decide (i ≤ j)) (fun a b => !decide (b < a))) (dCmpR (fun i j => decide (i ≤ j)) (fun a b => !decide (b < a))) (dUn dNeg (dC (.int 400))) (dOp dIxR (dVar 4) (dC (.int 2))) (dC (.int 400)))) (dVar 4) [4])))))
/-- implied_cells: 0 many, 1 rules, 2 low, 3 high, 4 cells, 5 raised_by -/
def t_implied_cells (sp_raised_from : DSp) : DTS :=
  (dSeq (dAsg (dCall sp_raised_from [] (dCons (dVar 0) (dCons (dVar 1) (dCons (dVar 2) dNil)))) (.tp [(.nm 4), (.nm 5)]))
  (dRet (dOp dIxR (dVar 4) (dVar 3))))
/-- apart_by: 0 many, 1 rules, 2 low, 3 high -/
def t_apart_by (sp_need_marks : DSp) (sp_is_rule : DSp) (sp_need_kept : DSp) (sp_implied_cells : DSp) : DTS :=
  (dSeq (dDrop (dCall sp_need_marks [] (dCons (dVar 0) (dCons (dVar 1) dNil))))
  (dSeq (dIf (dNot (dTest (dCall sp_is_rule [] (dCons (dTup (dCons (dVar 2) (dCons (dVar 3) (dCons (dC (.int 0)) dNil)))) (dCons (dVar 0) dNil))))) dNever dNext)
  (dSeq (dDropX (dCallX sp_need_kept (dCons (dVar 0) (dCons (dVar 1) dNil))))
  (dRet (dCall sp_implied_cells [] (dCons (dVar 0) (dCons (dVar 1) (dCons (dVar 2) (dCons (dVar 3) dNil)))))))))
/-- _law_more_right: 0 box, 1 places, 2 rules, 3 told, 4 movement, 5 many, 6 low, 7 high, 8 gap, 9 rule, 10 far, 11 other, 12 due, 13 ahead, 14 behind -/
def t_law_more_right (sp_law_take : DSp) (sp_law_far : DSp) (sp_law_fit : DSp) (sp_law_least_movement : DSp) (sp_law_same : DSp) (sp_law_cells_due : DSp) (sp_law_num : DSp) (sp_law_less : DSp) (sp_apart_by : DSp) : DTS :=
  (dSeq (dAsg (dCB (dR1 dLenR) (dCons (dVar 1) dNil)) (.nm 5))
  (dSeq (dAsg (dCall sp_law_take [] (dCons (dVar 0) (dCons (dVar 5) dNil))) (.nm 6))
  (dSeq (dAsg (dOp (dI (fun _ j => 0 < j) fun i j => .int (i % j)) (dCB (dR1 dIntR) (dCons (dOp dAddR (dOp dAddR (dVar 6) (dC (.int 1))) (dCall sp_law_take [] (dCons (dVar 0) (dCons (dOp (dI0 fun i j => .int (i - j)) (dVar 5) (dC (.int 1))) dNil)))) dNil)) (dVar 5)) (.nm 7))
  (dSeq (dAsg (dOp (dI0 fun i j => .int (i - j)) (dOp dIxR (dOp dIxR (dVar 3) (dC (.int 1))) (dVar 7)) (dOp dIxR (dOp dIxR (dVar 3) (dC (.int 1))) (dVar 6))) (.nm 8))
  (dSeq (dAsg (dTup (dCons (dVar 6) (dCons (dVar 7) (dCons (dCB (dR2 dMax2R) (dCons (dUn dNeg (dC (.int 400))) (dCons (dCB (dR2 dMin2R) (dCons (dC (.int 400)) (dCons (dOp (dI0 fun i j => .int (i - j)) (dOp dAddR (dVar 8) (dCall sp_law_take [] (dCons (dVar 0) (dCons (dC (.int 5)) dNil)))) (dC (.int 2))) dNil))) dNil))) dNil)))) (.nm 9))
  (dSeq (dAsg (dCall sp_law_far [] (dCons (dVar 5) (dCons (dOp dAddR (dVar 2) (dLst (dCons (dVar 9) dNil))) dNil))) (.nm 10))
  (dSeq (dIf (dTestB (dOp dIsR (dVar 10) (dC .non))) (dRet (dC (.bl true))) dNext)
  (dSeq (dAsg (dCall sp_law_fit [] (dCons (dVar 1) (dCons (dOp dAddR (dVar 2) (dLst (dCons (dVar 9) dNil))) dNil))) (.nm 11))
  (dSeq (dAsg (dCall sp_law_least_movement [] (dCons (dVar 1) (dCons (dVar 10) dNil))) (.nm 12))
  (dSeq (dIf (dOr (dTestB (dOp dIsR (dVar 11) (dC .non))) (dNot (dTest (dCall sp_law_same [] (dCons (dVar 11) (dCons (dLst (dCons (dCall sp_law_num [] (dCons (dVar 12) dNil)) (dCons (dCall sp_law_cells_due [] (dCons (dVar 1) (dCons (dVar 10) (dCons (dVar 12) dNil)))) dNil))) dNil)))))) (dRet (dC (.bl false))) dNext)
  (dSeq (dIf (dOr (dAnd (dTestB (dOp (dCmpR (fun i j => decide (i ≤ j)) (fun a b => !decide (b < a))) (dOp dIxR (dVar 9) (dC (.int 2))) (dVar 8))) (dNot (dTest (dCall sp_law_same [] (dCons (dVar 11) (dCons (dVar 3) dNil)))))) (dTest (dCall sp_law_less [] (dCons (dVar 12) (dCons (dVar 4) dNil))))) (dRet (dC (.bl false))) dNext)
  (dSeq (dPar 13 14 (dCons (dCall sp_apart_by [] (dCons (dVar 5) (dCons (dVar 2) (dCons (dVar 6) (dCons (dVar 7) dNil))))) (dCons (dCall sp_apart_by [] (dCons (dVar 5) (dCons (dOp dAddR (dVar 2) (dLst (dCons (dVar 9) dNil))) (dCons (dVar 6) (dCons (dVar 7) dNil))))) dNil)))
  (dRet (dAndV (dOp dIsNR (dVar 14) (dC .non)) (dAndV (dOp (dCmpR (fun i j => decide (j ≤ i)) (fun a b => !decide (a < b))) (dVar 14) (dOp dIxR (dVar 9) (dC (.int 2)))) (dOrV (dOp dIsR (dVar 13) (dC .non)) (dOp (dCmpR (fun i j => decide (j ≤ i)) (fun a b => !decide (a < b))) (dVar 14) (dVar 13))))))))))))))))))
/-- _law_right: 0 box, 1 places, 2 rules, 3 far, 4 many, 5 movement, 6 due, 7 told, 8 thinned, 9 others, 10 by, 11 moved, 12 order, 13 turned, 14 place, 15 low, 16 high, 17 apart, 18 cell, 19 k -/
def t_law_right (sp_law_least_movement : DSp) (sp_law_cells_due : DSp) (sp_law_num : DSp) (sp_law_fit : DSp) (sp_law_same : DSp) (sp_law_thinned : DSp) (sp_law_all_implied : DSp) (sp_law_mixed : DSp) (sp_law_take : DSp) (sp_law_plus : DSp) (sp_law_more_right : DSp) : DTS :=
  (dSeq (dAsg (dCB (dR1 dLenR) (dCons (dVar 1) dNil)) (.nm 4))
  (dSeq (dAsg (dCall sp_law_least_movement [] (dCons (dVar 1) (dCons (dVar 3) dNil))) (.nm 5))
  (dSeq (dAsg (dLst (dCons (dCall sp_law_num [] (dCons (dVar 5) dNil)) (dCons (dCall sp_law_cells_due [] (dCons (dVar 1) (dCons (dVar 3) (dCons (dVar 5) dNil)))) dNil))) (.nm 6))
  (dSeq (dAsg (dCall sp_law_fit [] (dCons (dVar 1) (dCons (dCB (dR1 (dListR false)) (dCons (dVar 2) dNil)) dNil))) (.nm 7))
  (dSeq (dIf (dOr (dTestB (dOp dIsR (dVar 7) (dC .non))) (dNot (dTest (dCall sp_law_same [] (dCons (dVar 7) (dCons (dVar 6) dNil)))))) (dRet (dC (.bl false))) dNext)
  (dSeq (dAsg (dCall sp_law_thinned [] (dCons (dVar 4) (dCons (dVar 2) dNil))) (.nm 8))
  (dSeq (dIf (dTestB (dOp dIsR (dVar 8) (dC .non))) (dRet (dC (.bl false))) dNext)
  (dSeq (dFor (dSeqI (dLst (dCons (dCall sp_law_mixed [] (dCons (dVar 0) (dCons (dVar 2) dNil))) (dCons (dOp dAddR (dVar 2) (dVar 2)) (dCons (dSl (dSlR false) (dOp dAddR (dVar 2) (dCall sp_law_all_implied [] (dCons (dVar 3) dNil))) dNoPart (dPart (dC (.int 100)))) (dCons (dVar 8) dNil)))))) (.nm 9) (dIf (dNot (dTest (dCall sp_law_same [] (dCons (dCall sp_law_fit [] (dCons (dVar 1) (dCons (dVar 9) dNil))) (dCons (dVar 6) dNil))))) (dRet (dC (.bl false))) dNext))
  (dSeq (dAsg (dOp (dI0 fun i j => .int (i - j)) (dCall sp_law_take [] (dCons (dVar 0) (dCons (dC (.int 41)) dNil))) (dC (.int 20))) (.nm 10))
  (dSeq (dAsg (dLc false (dSeqI (dVar 1)) (.nm 14) dYes (dCall sp_law_plus [] (dCons (dVar 14) (dCons (dTup (dCons (dOp (dI MulOk fun i j => .int (i * j)) (dC (.int 64)) (dVar 10)) (dCons (dC (.int 1)) dNil))) dNil))) [14]) (.nm 11))
  (dSeq (dIf (dNot (dTest (dCall sp_law_same [] (dCons (dCall sp_law_fit [] (dCons (dVar 11) (dCons (dVar 2) dNil))) (dCons (dLst (dCons (dOp dIxR (dVar 6) (dC (.int 0))) (dCons (dLc false (dSeqI (dOp dIxR (dVar 6) (dC (.int 1)))) (.nm 18) dYes (dOp dAddR (dVar 18) (dVar 10)) [18]) dNil))) dNil))))) (dRet (dC (.bl false))) dNext)
  (dSeq (dAsg (dCall sp_law_mixed [] (dCons (dVar 0) (dCons (dListRg1 false (dVar 4)) dNil))) (.nm 12))
  (dSeq (dAsg (dLc false (dSeqI (dVar 2)) (.tp [(.nm 15), (.nm 16), (.nm 17)]) dYes (dTup (dCons (dMtL dIndex (dVar 12) (dCons (dVar 15) dNil)) (dCons (dMtL dIndex (dVar 12) (dCons (dVar 16) dNil)) (dCons (dVar 17) dNil)))) [15, 16, 17]) (.nm 13))
  (dSeq (dIf (dNot (dTest (dCall sp_law_same [] (dCons (dCall sp_law_fit [] (dCons (dLc false (dSeqI (dVar 12)) (.nm 19) dYes (dOp dIxR (dVar 1) (dVar 19)) [19]) (dCons (dVar 13) dNil))) (dCons (dLst (dCons (dOp dIxR (dVar 6) (dC (.int 0))) (dCons (dLc false (dSeqI (dVar 12)) (.nm 19) dYes (dOp dIxR (dOp dIxR (dVar 6) (dC (.int 1))) (dVar 19)) [19]) dNil))) dNil))))) (dRet (dC (.bl false))) dNext)
  (dRet (dOrV (dOp dEqQ (dVar 4) (dC (.int 1))) (dCall sp_law_more_right [] (dCons (dVar 0) (dCons (dVar 1) (dCons (dVar 2) (dCons (dVar 7) (dCons (dVar 5) dNil))))))))))))))))))))))
/-- law: 0 script, 1 k, 2 box, 3 many, 4 hidden, 5 rules, 6 places, 7 rule -/
def t_law (K : PySem.W.Frag) (sp_law_box : DSp) (sp_law_cell : DSp) (sp_law_take : DSp) (sp_law_drawn_rules : DSp) (sp_law_places : DSp) (sp_law_right : DSp) (sp_law_far : DSp) : DTS :=
  (dSeq (dFor (dRng1 (dCB (dR2 dMax2R) (dCons (dC (.int 2)) (dCons (dCB (dR2 dMin2R) (dCons (dC (.int 4)) (dCons (dCB (dR1 dLenR) (dCons (dVar 0) dNil)) dNil))) dNil)))) (.nm 1) (dSeq (dAsg (dCall sp_law_box [] (dCons (dCall sp_law_cell [] (dCons (dVar 0) (dCons (dVar 1) dNil))) dNil)) (.nm 2))
  (dSeq (dAsg (dOp dAddR (dC (.int 1)) (dCall sp_law_take [] (dCons (dVar 2) (dCons (dC (.int 6)) dNil)))) (.nm 3))
  (dSeq (dAsg (dCall sp_law_drawn_rules [] (dCons (dVar 2) (dCons (dVar 3) (dCons (dCall sp_law_take [] (dCons (dVar 2) (dCons (dC (.int 11)) dNil))) dNil)))) (.tp [(.nm 4), (.nm 5)]))
  (dSeq (dAsg (dLc false (dSeqI (dVar 5)) (.nm 7) (dTestB (dOp (dCmpR (fun i j => decide (j ≤ i)) (fun a b => !decide (a < b))) (dOp dIxR (dVar 4) (dOp dIxR (dVar 7) (dC (.int 1)))) (dOp dAddR (dOp dIxR (dVar 4) (dOp dIxR (dVar 7) (dC (.int 0)))) (dOp dIxR (dVar 7) (dC (.int 2)))))) (dVar 7) [7]) (.nm 5))
  (dSeq (dAsg (dCall sp_law_places [] (dCons (dVar 2) (dCons (dVar 4) dNil))) (.nm 6))
  (dIf (dNot (dTest (dCall sp_law_right [] (dCons (dVar 2) (dCons (dVar 6) (dCons (dVar 5) (dCons (dCall sp_law_far [] (dCons (dVar 3) (dCons (dVar 5) dNil))) dNil))))))) (dRet (dC (.bl false))) dNext)))))))
  (dGhost K (dRet (dC (.bl true)))))
end K69
set_option linter.all false
set_option maxRecDepth 100000
namespace K69
open PySem PySem.Spec L2 DL
abbrev sp_law_low := NUM.sp_law_low
def rd_law_low := @NUM.rd_law_low
abbrev sp_law_less := NUM.sp_law_less
def rd_law_less := @NUM.rd_law_less
abbrev sp_law_most := NUM.sp_law_most
def rd_law_most := @NUM.rd_law_most
abbrev sp_law_floor := NUM.sp_law_floor
def rd_law_floor := @NUM.rd_law_floor
abbrev sp_law_over := NUM.sp_law_over
def rd_law_over := @NUM.rd_law_over
abbrev sp_law_plus := NUM.sp_law_plus
def rd_law_plus := @NUM.rd_law_plus
abbrev sp_law_minus := NUM.sp_law_minus
def rd_law_minus := @NUM.rd_law_minus
abbrev sp_law_num := NUM.sp_law_num
def rd_law_num := @NUM.rd_law_num
abbrev sp_is_plain := NUM.sp_is_plain
def rd_is_plain := @NUM.rd_is_plain
abbrev sp_common_part := NUM.sp_common_part
def rd_common_part := @NUM.rd_common_part
abbrev sp_is_part := NUM.sp_is_part
def rd_is_part := @NUM.rd_is_part
abbrev sp_is_number := NUM.sp_is_number
def rd_is_number := @NUM.rd_is_number
abbrev sp_pair_of := NUM.sp_pair_of
def rd_pair_of := @NUM.rd_pair_of
abbrev sp_is_whole := NUM.sp_is_whole
def rd_is_whole := @NUM.rd_is_whole
abbrev sp_reckoned := NUM.sp_reckoned
def rd_reckoned := @NUM.rd_reckoned
abbrev sp_times := NUM.sp_times
def rd_times := @NUM.rd_times
abbrev sp_floor_of := NUM.sp_floor_of
def rd_floor_of := @NUM.rd_floor_of
abbrev sp_over := NUM.sp_over
def rd_over := @NUM.rd_over
abbrev sp_minus := NUM.sp_minus
def rd_minus := @NUM.rd_minus
abbrev sp_plus := NUM.sp_plus
def rd_plus := @NUM.rd_plus
abbrev sp_less := NUM.sp_less
def rd_less := @NUM.rd_less
abbrev sp_law_box := FIT.sp_law_box
def rd_law_box := @FIT.rd_law_box
abbrev sp_law_take := FIT.sp_law_take
def rd_law_take := @FIT.rd_law_take
abbrev sp_law_mixed := FIT.sp_law_mixed
def rd_law_mixed := @FIT.rd_law_mixed
abbrev sp_law_round_rules := FIT.sp_law_round_rules
def rd_law_round_rules := @FIT.rd_law_round_rules
abbrev sp_law_drawn_rules := FIT.sp_law_drawn_rules
def rd_law_drawn_rules := @FIT.rd_law_drawn_rules
abbrev sp_is_list := FIT.sp_is_list
def rd_is_list := @FIT.rd_is_list
abbrev sp_is_rule := FIT.sp_is_rule
def rd_is_rule := @FIT.rd_is_rule
abbrev sp_need_rules := FIT.sp_need_rules
def rd_need_rules := @FIT.rd_need_rules
abbrev sp_raised := FIT.sp_raised
def rd_raised := @FIT.rd_raised
abbrev sp_led_back := FIT.sp_led_back
def rd_led_back := @FIT.rd_led_back
abbrev sp_found_cycle := FIT.sp_found_cycle
def rd_found_cycle := @FIT.rd_found_cycle
abbrev sp_need_kept := FIT.sp_need_kept
def rd_need_kept := @FIT.rd_need_kept
abbrev sp_raised_from := FIT.sp_raised_from
def rd_raised_from := @FIT.rd_raised_from
abbrev sp_law_same_n := FIT.sp_law_same_n
abbrev sp_law_same := FIT.sp_law_same
def no_law_same := @FIT.no_law_same
def rd_law_same := @FIT.rd_law_same
abbrev sp_law_far := FIT.sp_law_far
def rd_law_far := @FIT.rd_law_far
abbrev sp_need_marks := FIT.sp_need_marks
def rd_need_marks := @FIT.rd_need_marks
abbrev sp_follows := FIT.sp_follows
def rd_follows := @FIT.rd_follows
abbrev sp_implied_cells := FIT.sp_implied_cells
def rd_implied_cells := @FIT.rd_implied_cells
abbrev sp_apart_by := FIT.sp_apart_by
def rd_apart_by := @FIT.rd_apart_by
abbrev sp_law_needed := K68.sp_law_needed
def rd_law_needed := @K68.rd_law_needed
abbrev sp_law_least_movement := K68.sp_law_least_movement
def rd_law_least_movement := @K68.rd_law_least_movement
abbrev sp_law_cells_due := K68.sp_law_cells_due
def rd_law_cells_due := @K68.rd_law_cells_due
abbrev sp_is_short := K68.sp_is_short
def rd_is_short := @K68.rd_is_short
abbrev sp_need_mark_places := K68.sp_need_mark_places
def rd_need_mark_places := @K68.rd_need_mark_places
abbrev sp_needed_for := K68.sp_needed_for
def rd_needed_for := @K68.rd_needed_for
abbrev sp_tight_chain := K68.sp_tight_chain
def rd_tight_chain := @K68.rd_tight_chain
abbrev sp_nearest_fit := K68.sp_nearest_fit
def rd_nearest_fit := @K68.rd_nearest_fit
end K69
set_option linter.all false
set_option maxRecDepth 100000
set_option maxHeartbeats 1000000
namespace K69
open PySem PySem.Spec L2 DL
open FIT NUM Rat K68
abbrev sp_law_cell : DSp := spCell
theorem rd_law_cell : ∀ x m G Q (E : DXK), (∃ (ns : List Int) (k : Int), x = .scr (ns.map .int) ∧ m = .int k ∧ 0 ≤ k ∧ k < 2 ^ 40 ∧ ∀ z : Int, Q (.int z) G) → DRun (t_law_cell ) [some x, some m] G Q := by
  rintro x m G Q E ⟨ns, k, rfl, rfl, h0, h1, h⟩
  conv => whnf
  refine ⟨fun e => ?_, fun e => ?_⟩
  · have e : k < (ns.map D.int).length := of_decide_eq_true e
    conv => whnf
    refine atD_of h0 e fun d hd => ?_
    obtain ⟨z, _, rfl⟩ := List.mem_map.mp hd
    exact h z
  · conv => whnf
    refine ⟨mul_small (.inl (by omega)), ?_⟩
    conv => whnf
    exact h _
theorem szSh {q : Rat} (h : Sz 60 q) : Sh q := ⟨Nat.lt_trans h.1 (by decide), Nat.lt_trans h.2 (by decide)⟩
theorem szFrac {t d : Int} (ht : t.natAbs < 2 ^ 20) (hd : d.natAbs < 2 ^ 20) (h0 : d ≠ 0) : Sz 20 (t /. d) := ⟨Nat.lt_of_le_of_lt (frac_le h0).1 ht, Nat.lt_of_le_of_lt (frac_le h0).2 hd⟩
def IsP (d : D) : Prop := ∃ q, d = prD q ∧ Sz 20 q
theorem IsP.int {i : Int} (h : i.natAbs < 2 ^ 20) : IsP (.tup [.int i, .int 1]) := ⟨i, (prD_int i).symm, szI h (by decide)⟩
def pr_places (x y : D) (G : GHp) (Q : DK) : Prop := ∃ (G0 : GHp) (p : Addr) (k : Nat) (hid : List Int), x = .ref p ∧ Bk G0 p k G ∧ k ≤ 100000 ∧ y = lsI hid ∧ hid.length ≤ 24 ∧ (∀ h ∈ hid, -60 ≤ h ∧ h ≤ 60) ∧
  ∀ (ps : List Rat) G', ps.length = hid.length → (∀ q ∈ ps, Sz 20 q) → Bk G0 p (k + 300) G' → Q (.lst (ps.map prD)) G'
def sp_law_places : DSp := sp2 fun x y G Q _ => pr_places x y G Q
theorem rd_law_places {K : PySem.W.Frag} : ∀ x y G Q (E : DXK), pr_places x y G Q → DRun (t_law_places K sp_law_low spTake) [some x, some y, none, none, none] G Q := by
  intro x y G Q E h
  have key : ∀ sp : DSp, (∀ ds G Q E, spTake ds G Q E → sp ds G Q E) → DRun (t_law_places K sp_law_low sp) [some x, some y, none, none, none] G Q := by
    intro sp hsp
    obtain ⟨G0, p, k, hid, rfl, B, hk, rfl, hl, hb, h⟩ := h
    conv => whnf
    refine ⟨smallL (by simp), fun q hq => ?_⟩
    have hqp : q ≠ p := B.ne hq
    have hq0 : G0 q = none := by rw [← B.2 q hqp]; exact hq
    have B := B.new (o := .lst []) hqp
    conv => whnf
    refine for_ind (enc := D.int) (fun r δ G' => ∃ (ps : List Rat) (o3 o4 : Option D), ps.length + r.length = hid.length ∧ (∀ w ∈ r, -60 ≤ w ∧ w ≤ 60) ∧ (∀ s ∈ ps, Sz 20 s) ∧
        δ = [some (.ref p), some (lsI hid), some (.ref q), o3, o4] ∧ Bk (gupd G0 q (.lst (ps.map prD))) p (k + 8 * ps.length) G') ?_ ?_ hid _ _ ⟨[], _, _, by simp, hb, by simp, rfl, B⟩
    · rintro δ G ⟨ps, o3, o4, hpl, _, hps, rfl, B⟩
      refine ⟨trivial, ?_⟩
      have hat := B.at_ hqp
      obtain ⟨⟨s, hs1, hs2⟩, hs3⟩ := B
      conv => whnf
      refine ⟨[none, none, some (.lst (ps.map prD)), none, none], gupd G0 p s.go, View.tree (fun b => b = q) (fun b e => by rw [e, gupd_ne hqp]; exact hq0) (fun b o e => .inl ?_)
        (.cons (.no _) (.cons (.no _) (.cons (.so (.ref rfl hat (.same _))) (.cons (.no _) (.cons (.no _) .nil))))), ?_⟩
      · by_cases z : b = p
        · subst z; rw [gupd_same] at e; rw [hs1, e]
        · rw [gupd_ne z] at e
          rw [hs3 b z, gupd_ne fun z2 => by rw [z2, hq0] at e; cases e]; exact e
      simp at hpl
      exact h ps _ hpl hps ⟨⟨s, gupd_same, hs2.mono (by omega)⟩, fun b hb => gupd_ne hb⟩
    · rintro w r δ G ⟨ps, o3, o4, hpl, hr, hps, rfl, B⟩
      rw [List.length_cons] at hpl
      have hw := hr w List.mem_cons_self
      refine ⟨trivial, _, rfl, fun N hN => ?_⟩
      conv => whnf
      refine ⟨mul_small (.inl (by omega)), ?_⟩
      conv => whnf
      refine ⟨mul_small (.inr (by omega)), ?_⟩
      conv => whnf
      refine tk hsp B (by omega) (by omega) (by omega) fun v1 G v1_0 v1_1 B => ?_
      conv => whnf
      refine ⟨_, _, rfl, rfl, by decide, pow_le (a := 60) (by omega) (by decide), pow_le (a := 60) (by decide) (by decide), ?_⟩
      have near : IsP (prD ((64 * w * 3 + v1 - 150) /. 3)) := ⟨_, rfl, szFrac (by omega) (by decide) (by decide)⟩
      have hat := B.at_ hqp
      conv => whnf
      rw [lsOf_ref hat]
      conv => whnf
      refine ⟨mul_small (.inl (by omega)), ?_⟩
      conv => whnf
      refine tk hsp B (by omega) (by omega) (by omega) fun v2 G v2_0 v2_1 B => ?_
      conv => whnf
      have far : IsP (.tup [.int (64 * w + v2 - 500), .int 1]) := .int (by omega)
      refine ⟨smallL (by simp), ?_⟩
      conv => whnf
      refine ⟨mul_small (.inl (by omega)), ?_⟩
      conv => whnf
      refine ⟨smallL (by simp), ?_⟩
      have amid : IsP (.tup [.int (64 * w + 32), .int 1]) := .int (by omega)
      conv => whnf
      refine ⟨smallL (by simp), ?_⟩
      conv => whnf
      refine tk hsp B (by omega) (by omega) (by omega) fun v3 G v3_0 v3_1 B => ?_
      conv => whnf
      refine atD_of (by omega) (by simpa using by omega) fun d hd => ?_
      have hd : IsP d := by
        simp only [List.mem_cons, List.not_mem_nil, or_false] at hd
        rcases hd with rfl | rfl | rfl
        · exact near
        · exact far
        · exact amid
      obtain ⟨qq, rfl, hqq⟩ := hd
      have hat := B.at_ hqp
      conv => whnf
      rw [hat]
      conv => whnf
      refine ⟨smallLt (by rw [List.length_map]; omega), ?_⟩
      conv => whnf
      refine hN _ _ ⟨ps ++ [qq], _, _, by rw [List.length_append]; simp; omega, fun w hw => hr w (List.mem_cons_of_mem _ hw), fun s hs => ?_, rfl, ?_⟩
      · rcases List.mem_append.mp hs with hs | hs
        · exact hps s hs
        · simp at hs; subst hs; exact hqq
      · rw [List.map_append]
        exact (B.put hqp).mono (by rw [List.length_append]; simp; omega)
  exact key _ fun _ _ _ _ h => h
/-- the movement and the cells told -/
def fitD (n : Nat) (M : Rat) (c : Nat → Int) : D := .lst [numD M, lsC n c]
def pr_fit (x y : D) (G : GHp) (Q : DK) : Prop := ∃ (n : Nat) (rs : List Rl) (p : Nat → Rat) (F : Fm), x = plP n p ∧ y = .lst (rs.map rlD) ∧ 1 ≤ n ∧ n ≤ 24 ∧ Vr n rs ∧ rs.length ≤ 100 ∧ (∀ i, i < n → Sh (p i)) ∧ Tb n rs F ∧
  ∀ M c, Mv n F p M → LF n F (fun k => low M (p k)) c → Q (fitD n M c) G
def sp_law_fit : DSp := sp2 fun x y G Q _ => pr_fit x y G Q
theorem rd_law_fit {K : PySem.W.Frag} : ∀ x y G Q (E : DXK), pr_fit x y G Q → DRun (t_law_fit (sp_nearest_fit K) sp_law_num) [some x, some y, none, none] G Q := by
  rintro x y G Q E ⟨n, rs, p, F, rfl, rfl, h1, h2, hV, hl, hS, hF, h⟩
  conv => whnf
  refine lc_map (enc := fun (i : Nat) => prD (p i)) (keep := fun _ => true) (f := fun i => numD (p i)) (xs := List.range n) (smallL (by rw [List.length_range]; omega)) trivial (fun _ _ R h => h) (fun i hi _ R hR => ?_) ?_
  · conv => whnf
    refine ⟨p i, rfl, ?_⟩
    exact hR
  rw [filter_yes]
  have e1 : (List.range n).map (fun i => numD (p i)) = plD n p := rfl
  rw [e1]
  conv => whnf
  refine ⟨n, rs, p, .inl rfl, .inl rfl, h1, h2, hV, hl, hS, .inl ⟨F, hF, fun M c f l ch hM hc hP => ?_⟩, fun pp s l t => (hF.cl.no t).elim⟩
  conv => whnf
  refine ⟨fun _ => ?_, fun e => tf e⟩
  conv => whnf
  refine ⟨fun _ => ?_, fun e => tf e⟩
  conv => whnf
  refine ⟨smallL (by simp), ?_⟩
  exact h M c hM hc
end K69
set_option linter.all false
set_option maxRecDepth 100000
set_option maxHeartbeats 1000000
namespace K69
open PySem PySem.Spec L2 DL
open FIT NUM Rat K68
/-! what follows, and what can be left out -/
def ImOk (n : Nat) (F : Fm) (r : Rl) : Prop := r.1 < n ∧ r.2.1 < n ∧ r.1 ≠ r.2.1 ∧ F r.1 r.2.1 = some r.2.2
def pr_implied_all (x : D) (G : GHp) (Q : DK) : Prop := ∃ (n : Nat) (F : Fm), x = tbD n F ∧ n ≤ 24 ∧ ∀ rs : List Rl, (∀ r ∈ rs, ImOk n F r ∧ -400 ≤ r.2.2 ∧ r.2.2 ≤ 400) → rs.length ≤ 1000 → Q (.lst (rs.map rlD)) G
def sp_law_all_implied : DSp := sp1 fun x G Q _ => pr_implied_all x G Q
theorem filter_map {α β : Type} {p : α → Bool} {f : α → β} {g : α → β} : ∀ {l : List α}, (∀ x ∈ l, p x = true → f x = g x) → (l.filter p).map f = (l.filter p).map g
  | l, h => List.map_congr_left fun x hx => by
    obtain ⟨h1, h2⟩ := List.mem_filter.mp hx
    exact h x h1 h2
theorem rd_law_all_implied : ∀ x G Q (E : DXK), pr_implied_all x G Q → DRun t_law_all_implied [some x, none, none, none, none, none] G Q := by
  rintro x G Q E ⟨n, F, rfl, h2, h⟩
  have hL : (tab n fun k => D.lst (tab n fun j => encF (F k j))).length = n := tab_len n _
  conv => whnf
  refine ⟨smallL (by simp), ?_⟩
  conv => whnf
  rw [hL]
  refine ⟨by unfold RgB; omega, ?_⟩
  rw [Int.toNat_natCast]
  refine for_rng (enc := fun (i : Nat) => D.int (0 + i)) (fun i δ G' => G' = G ∧ ∃ (L : List Rl) (o3 o4 o5 : Option D), δ = [some (tbD n F), some (.int n), some (.lst (L.map rlD)), o3, o4, o5] ∧ (∀ r ∈ L, ImOk n F r) ∧ L.length ≤ 24 * i) n ?_ ?_ _ _ ⟨rfl, [], _, _, _, rfl, by simp, by simp⟩
  rotate_left
  · rintro i hi δ G ⟨rfl, L, o3, o4, o5, rfl, hLk, hLl⟩
    refine ⟨trivial, _, rfl, fun N hN => ?_⟩
    conv => whnf
    refine ⟨by unfold RgB; omega, ?_⟩
    refine lc_map (enc := fun (j : Nat) => D.int (0 + j)) (keep := fun j => !decide (i = j) && (F i j).isSome) (f := fun j => .tup [.int (0 + i), .int (0 + j), .int ((F i j).getD 0)]) (smallL (by rw [List.length_range]; omega)) trivial (fun j hj R hR => ?_) (fun j hj hs R hR => ?_) ?_
    · have hj : j < n := by have := List.mem_range.mp hj; omega
      have e1 : decide ((0 : Int) + i = 0 + j) = decide (i = j) := decide_eq_decide.mpr (by omega)
      conv => whnf
      refine ⟨fun e => ?_, fun e => ?_⟩
      · have e : (!decide ((0 : Int) + i = 0 + j)) = true := e
        rw [e1] at e
        rw [e, Bool.true_and] at hR
        conv => whnf
        refine tab_at0 (f := fun k => D.lst (tab n fun j => encF (F k j))) hi ?_
        conv => whnf
        refine tab_at0 (f := fun k => encF (F i k)) hj ?_
        cases hf : F i j with
        | none => rw [hf] at hR; exact hR
        | some a => rw [hf] at hR; exact hR
      · have e : (!decide ((0 : Int) + i = 0 + j)) = false := e
        rw [e1] at e
        rw [e, Bool.false_and] at hR
        exact hR
    · have hj : j < n := by have := List.mem_range.mp hj; omega
      conv => whnf
      refine tab_at0 (f := fun k => D.lst (tab n fun j => encF (F k j))) hi ?_
      conv => whnf
      refine tab_at0 (f := fun k => encF (F i k)) hj ?_
      cases hf : F i j with
      | none => rw [hf, Option.isSome_none, Bool.and_false] at hs; cases hs
      | some a =>
        rw [hf] at hR
        conv => whnf
        exact ⟨smallL (by simp), hR⟩
    rw [Int.toNat_natCast]
    let keep : Nat → Bool := fun j => !decide (i = j) && (F i j).isSome
    let g : Nat → Rl := fun j => (i, j, (F i j).getD 0)
    have e2 : ((List.range n).filter keep).map (fun (j : Nat) => D.tup [.int (0 + i), .int (0 + j), .int ((F i j).getD 0)]) = (((List.range n).filter keep).map g).map rlD := by
      rw [List.map_map]
      refine List.map_congr_left fun j _ => ?_
      show D.tup [.int (0 + i), .int (0 + j), .int ((F i j).getD 0)] = D.tup [.int i, .int j, .int ((F i j).getD 0)]
      rw [Int.zero_add, Int.zero_add]
    show _
    rw [e2]
    have hlen : (((List.range n).filter keep).map g).length ≤ 24 := by
      rw [List.length_map]
      exact Nat.le_trans (List.length_filter_le _ _) (by rw [List.length_range]; omega)
    conv => whnf
    refine ⟨smallL (by rw [List.length_map, List.length_map]; omega), ?_⟩
    refine hN _ _ ⟨rfl, L ++ ((List.range n).filter keep).map g, _, _, _, by rw [List.map_append]; rfl, fun r hr => ?_, by rw [List.length_append]; omega⟩
    rcases List.mem_append.mp hr with hr | hr
    · exact hLk r hr
    · obtain ⟨j, hj, rfl⟩ := List.mem_map.mp hr
      obtain ⟨hj, hk⟩ := List.mem_filter.mp hj
      have hj := List.mem_range.mp hj
      have hk : (!decide (i = j) && (F i j).isSome) = true := hk
      rw [Bool.and_eq_true] at hk
      refine ⟨hi, hj, by simpa using hk.1, ?_⟩
      show F i j = some ((F i j).getD 0)
      cases hf : F i j with
      | none => rw [hf] at hk; cases hk.2
      | some a => rfl
  rintro δ G ⟨rfl, L, o3, o4, o5, rfl, hLk, hLl⟩
  refine ⟨trivial, ?_⟩
  conv => whnf
  refine lc_map (enc := rlD) (keep := fun r => decide (-400 ≤ r.2.2) && decide (r.2.2 ≤ 400)) (f := rlD) (smallL (by omega)) trivial (fun r hr R hR => ?_) (fun r hr hs R hR => hR) ?_
  · conv => whnf
    refine ⟨fun e => ?_, fun e => ?_⟩
    · have e : decide (-400 ≤ r.2.2) = true := e
      rw [e, Bool.true_and] at hR
      exact hR
    · have e : decide (-400 ≤ r.2.2) = false := e
      rw [e, Bool.false_and] at hR
      exact hR
  conv => whnf
  exact h _ (fun r hr => by
    obtain ⟨h1, h2⟩ := List.mem_filter.mp hr
    have h2 : (decide (-400 ≤ r.2.2) && decide (r.2.2 ≤ 400)) = true := h2
    rw [Bool.and_eq_true] at h2
    exact ⟨hLk r h1, of_decide_eq_true h2.1, of_decide_eq_true h2.2⟩) (Nat.le_trans (List.length_filter_le _ _) (by omega))
def rlP (r : Rl) : PyData := .tuple [.int r.1, .int r.2.1, .int r.2.2]
theorem DD_rl {G : GHp} (r : Rl) : DD G (rlD r) (rlP r) := .tup (.cons (.int _) (.cons (.int _) (.cons (.int _) .nil)))
theorem DDs_rl {G : GHp} : ∀ rs : List Rl, DDs G (rs.map rlD) (rs.map rlP)
  | [] => .nil
  | r :: t => .cons (DD_rl r) (DDs_rl t)
theorem Shp_rl (n : Nat) (r : Rl) : Shp (n + 1) (rlP r) := (Shps.cons (.int _) (.cons (.int _) (.cons (.int _) .nil)) : Shps n _).tuple
theorem Shps_rl (n : Nat) (rs : List Rl) : Shps (n + 1) (rs.map rlP) := Shps.of fun p hp => by
  obtain ⟨r, _, rfl⟩ := List.mem_map.mp hp
  exact Shp_rl n r
theorem eqv_rl (z r : Rl) : PyData.eqv (rlP z) (rlP r) = decide (z = r) := by
  obtain ⟨a, b, c⟩ := z
  obtain ⟨a', b', c'⟩ := r
  unfold rlP
  simp only [PyData.eqv, PyData.eqvAll, Bool.and_true]
  by_cases h : (a, b, c) = (a', b', c')
  · rw [decide_eq_true h]; cases h; simp
  · rw [decide_eq_false h]
    by_cases h1 : a = a'
    · by_cases h2 : b = b'
      · by_cases h3 : c = c'
        · exact absurd (by rw [h1, h2, h3]) h
        · simp [h3]
      · have : ¬ (b : Int) = b' := by omega
        simp [this]
    · have : ¬ (a : Int) = a' := by omega
      simp [this]
theorem erase_at {l : List Rl} {r : Rl} (h : r ∈ l) : ∃ j, FstAt (l.map rlP) (rlP r) j ∧ (l.map rlD).eraseIdx j = (l.erase r).map rlD := by
  obtain ⟨j, h1, h2, h3⟩ := fst_at h
  refine ⟨j, ⟨rlP r, by rw [List.getElem?_map, h1]; rfl, by rw [eqv_rl]; exact decide_eq_true rfl, fun m z hm hz => ?_⟩, ?_⟩
  · rw [List.getElem?_map] at hz
    cases e : l[m]? with
    | none => rw [e] at hz; cases hz
    | some w =>
      rw [e] at hz; cases hz
      rw [eqv_rl]
      exact decide_eq_false (h2 m w hm e)
  · rw [← h3]
    have : ∀ (l : List Rl) (j : Nat), (l.map rlD).eraseIdx j = (l.eraseIdx j).map rlD := by
      intro l
      induction l with
      | nil => intro j; rfl
      | cons a t ih =>
        intro j
        cases j with
        | zero => rfl
        | succ j =>
          show rlD a :: (t.map rlD).eraseIdx j = rlD a :: (t.eraseIdx j).map rlD
          rw [ih]
    exact this l j
def pr_thinned (x y : D) (G : GHp) (Q : DK) : Prop := ∃ (n : Nat) (rs : List Rl) (F : Fm), x = .int n ∧ y = .lst (rs.map rlD) ∧ 1 ≤ n ∧ n ≤ 24 ∧ Vr n rs ∧ rs.length ≤ 100 ∧ (∃ c, Pot rs c) ∧ Tb n rs F ∧
  ∀ rs' : List Rl, Vr n rs' → rs'.length ≤ 100 → Tb n rs' F → Q (.lst (rs'.map rlD)) G
def sp_law_thinned : DSp := sp2 fun x y G Q _ => pr_thinned x y G Q
theorem rd_law_thinned {K : PySem.W.Frag} : ∀ x y G Q (E : DXK), pr_thinned x y G Q → DRun (t_law_thinned K sp_law_far (sp_follows K)) [some x, some y, none, none, none, none] G Q := by
  rintro x y G Q E ⟨n, rs, F, rfl, rfl, h1, h2, hV, hl, ⟨c0, hc0⟩, hF, h⟩
  have hml : (rs.map rlD).length = rs.length := List.length_map ..
  conv => whnf
  refine for_ind (enc := rlD) (fun r δ G' => G' = G ∧ ∃ (left : List Rl) (o3 o4 o5 : Option D), δ = [some (.int n), some (.lst (rs.map rlD)), some (.lst (left.map rlD)), o3, o4, o5] ∧ left.length ≤ 100 ∧ Tb n left F ∧ (∀ x, r.count x ≤ left.count x) ∧ (∀ x ∈ left, x ∈ rs) ∧ ∀ x ∈ r, x ∈ rs) ?_ ?_ rs _ _
    ⟨rfl, rs, _, _, _, rfl, hl, hF, fun _ => Nat.le_refl _, fun _ h => h, fun _ h => h⟩
  · rintro δ G ⟨rfl, left, o3, o4, o5, rfl, hll, hT, _, hs, _⟩
    refine ⟨trivial, ?_⟩
    conv => whnf
    exact h left (fun r hr => hV r (hs r hr)) hll hT
  · rintro ρ r δ G ⟨rfl, left, o3, o4, o5, rfl, hll, hT, hcn, hs, hr⟩
    have hρ : ρ ∈ rs := hr ρ List.mem_cons_self
    have hρl : ρ ∈ left := by
      have := hcn ρ
      rw [List.count_cons_self] at this
      exact List.count_pos_iff.mp (by omega)
    obtain ⟨v1, v2, v3, v4, v5⟩ := hV ρ hρ
    refine ⟨trivial, _, rfl, fun N hN => ?_⟩
    conv => whnf
    intro q hq
    have hat : gupd G q (.lst (left.map rlD)) q = some (.lst (left.map rlD)) := gupd_same
    conv => whnf
    rw [lsOf_ref hat]
    conv => whnf
    rw [hat]
    conv => whnf
    obtain ⟨j, f1, f2⟩ := erase_at hρl
    refine ⟨rlP ρ, left.map rlP, j, DD_rl ρ, DDs_rl left, (Shps_rl 2 left).list.ok (by decide), (Shp_rl 2 ρ).ok (by decide), f1, ?_⟩
    rw [f2]
    generalize ho : left.erase ρ = others
    have hos : ∀ x ∈ others, x ∈ left := fun x hx => List.mem_of_mem_erase (by rw [ho]; exact hx)
    have hol : others.length ≤ 100 := by rw [← ho]; exact Nat.le_trans List.length_erase_le hll
    have hoc : ∀ x ∈ left, x = ρ ∨ x ∈ others := fun x hx => by
      by_cases e : x = ρ
      · exact .inl e
      · exact .inr (by rw [← ho]; exact (List.mem_erase_of_ne e).mpr hx)
    have hat2 : gupd (gupd G q (.lst (left.map rlD))) q (.lst (others.map rlD)) q = some (.lst (others.map rlD)) := gupd_same
    conv => whnf
    refine ⟨[some (.int n), some (.lst (rs.map rlD)), some (.lst (left.map rlD)), some (rlD ρ), some (.lst (others.map rlD)), none], G, View.tree (fun a => a = q) (fun a e => by rw [e]; exact hq) (fun a o e => .inl (by rw [gupd_ne fun e2 => (by rw [e2, hq] at e; cases e), gupd_ne fun e2 => (by rw [e2, hq] at e; cases e)]; exact e))
      (.cons (.so (.same _)) (.cons (.so (.same _)) (.cons (.so (.same _)) (.cons (.so (.same _)) (.cons (.so (.ref rfl hat2 (.same _))) (.cons (.no _) .nil)))))), ?_⟩
    conv => whnf
    have hVo : Vr n others := fun x hx => hV x (hs x (hos x hx))
    refine ⟨n, others, rfl, rfl, h1, h2, hVo, fun hno => absurd (fun x hx => hc0 x (hs x (hos x hx))) (hno c0), fun Fo hFo => ?_⟩
    conv => whnf
    refine tab_at (f := fun k => D.lst (tab n fun j => encF (Fo k j))) v1 ?_
    conv => whnf
    refine tab_at (f := fun k => encF (Fo ρ.1 k)) v2 ?_
    have hcn2 : ∀ x, r.count x ≤ left.count x := fun x => by
      have := hcn x
      rw [List.count_cons] at this
      omega
    have hcn3 : ∀ x, r.count x ≤ others.count x := fun x => by
      have := hcn x
      rw [← ho, List.count_erase]
      rw [List.count_cons] at this
      split <;> split at this <;> simp_all
      all_goals omega
    have op : (∀ a, Fo ρ.1 ρ.2.1 = some a → a < ρ.2.2) → N [some (.int n), some (.lst (rs.map rlD)), some (.lst (left.map rlD)), some (rlD ρ), some (.lst (others.map rlD)), some (tbD n Fo)] G := fun _ => hN _ _ ⟨rfl, left, _, _, _, rfl, hll, hT, hcn2, hs, fun x hx => hr x (List.mem_cons_of_mem _ hx)⟩
    cases hf : Fo ρ.1 ρ.2.1 with
    | none =>
      conv => whnf
      refine ⟨fun e => ft e, fun _ => ?_⟩
      conv => whnf
      refine ⟨fun e => ft e, fun _ => ?_⟩
      conv => whnf
      refine ⟨n, others, ρ, rfl, .inl rfl, rfl, v1, v2, v3, v4, v5, h2, hVo, hol, .inl ⟨Fo, hFo, fun a p l e1 => ?_, fun c e1 e2 e3 => ?_⟩, fun p s l t => (hFo.cl.no t).elim⟩
      · rw [hf] at e1; cases e1
      · conv => whnf
        refine ⟨fun e => ft e, fun _ => ?_⟩
        conv => whnf
        exact op e1
    | some a =>
      conv => whnf
      refine ⟨fun _ => ?_, fun e => tf e⟩
      conv => whnf
      refine tab_at (f := fun k => D.lst (tab n fun j => encF (Fo k j))) v1 ?_
      conv => whnf
      refine tab_at (f := fun k => encF (Fo ρ.1 k)) v2 ?_
      rw [hf]
      conv => whnf
      refine ⟨fun e => ?_, fun e => ?_⟩
      · have e : ρ.2.2 ≤ a := of_decide_eq_true e
        conv => whnf
        refine ⟨n, others, ρ, rfl, .inl rfl, rfl, v1, v2, v3, v4, v5, h2, hVo, hol, .inl ⟨Fo, hFo, fun a' p l e1 e2 e3 e4 => ?_, fun c e1 e2 e3 => ?_⟩, fun p s l t => (hFo.cl.no t).elim⟩
        · conv => whnf
          refine ⟨fun e => ft e, fun _ => ?_⟩
          conv => whnf
          refine hN _ _ ⟨rfl, others, _, _, _, rfl, hol, ?_, hcn3, fun x hx => hs x (hos x hx), fun x hx => hr x (List.mem_cons_of_mem _ hx)⟩
          refine Tb.sub (Vr.w fun x hx => hV x (hs x hx)) hVo.w hT hFo (fun x hx => ?_) fun x hx => hT.cl.rl x (hos x hx)
          rcases hoc x hx with rfl | hx
          · exact ⟨a, hf, e⟩
          · exact hFo.cl.rl x hx
        · have := e1 a hf
          omega
      · have e : ¬ ρ.2.2 ≤ a := of_decide_eq_false e
        conv => whnf
        refine ⟨n, others, ρ, rfl, .inl rfl, rfl, v1, v2, v3, v4, v5, h2, hVo, hol, .inl ⟨Fo, hFo, fun a' p l e1 e2 e3 e4 => ?_, fun c e1 e2 e3 => ?_⟩, fun p s l t => (hFo.cl.no t).elim⟩
        · rw [hf] at e1; cases e1
          exact absurd e2 e
        · conv => whnf
          refine ⟨fun e => ft e, fun _ => ?_⟩
          conv => whnf
          exact op e1
end K69
set_option linter.all false
set_option maxRecDepth 100000
set_option maxHeartbeats 1000000
namespace K69
open PySem PySem.Spec L2 DL
open FIT NUM Rat K68
/-! one more rule -/
theorem fit_eq {n : Nat} {F : Fm} {p : Nat → Rat} {M M' : Rat} {c c' : Nat → Int} (hM : Mv n F p M) (hc : LF n F (fun k => low M (p k)) c) (hM' : Mv n F p M') (hc' : LF n F (fun k => low M' (p k)) c') : fitD n M' c' = fitD n M c := by
  have e := hM'.uniq hM
  subst e
  have ec : lsC n c' = lsC n c := congrArg D.lst (tab_congr fun i hi => by rw [hc'.uniq hc hi])
  unfold fitD
  rw [ec]
theorem fz_fit {n : Nat} (m : Nat) (M : Rat) (c : Nat → Int) (h : n ≤ 1000) : fz (m + 3) (fitD n M c) = true := by
  show (decide ([numD M, lsC n c].length ≤ 1000) && [numD M, lsC n c].all (fz (m + 2))) = true
  have h1 := fz_num m M
  have h2 := fz_tab (m := m) (f := c) h
  simp only [List.length_cons, List.length_nil, List.all_cons, List.all_nil, Bool.and_true, Bool.and_eq_true]
  exact ⟨decide_eq_true (by omega), h1, h2⟩
def pr_more (x y z u v : D) (G : GHp) (Q : DK) : Prop := ∃ (G0 : GHp) (p : Addr) (k n : Nat) (rs : List Rl) (pl : Nat → Rat) (F : Fm) (M : Rat) (c : Nat → Int), x = .ref p ∧ Bk G0 p k G ∧ k ≤ 100000 ∧ y = plP n pl ∧ z = .lst (rs.map rlD) ∧ u = fitD n M c ∧ v = prD M ∧
  2 ≤ n ∧ n ≤ 24 ∧ Vr n rs ∧ rs.length ≤ 50 ∧ (∀ i, i < n → Sh (pl i)) ∧ Tb n rs F ∧ Mv n F pl M ∧ LF n F (fun k => low M (pl k)) c ∧ ∀ G', Bk G0 p (k + 10) G' → Q (.bl true) G'
def sp_law_more_right : DSp := sp5 fun x y z u v G Q _ => pr_more x y z u v G Q
theorem rd_law_more_right {K : PySem.W.Frag} : ∀ x y z u v G Q (E : DXK), pr_more x y z u v G Q → DRun (t_law_more_right spTake sp_law_far sp_law_fit sp_law_least_movement sp_law_same sp_law_cells_due sp_law_num sp_law_less (sp_apart_by K)) [some x, some y, some z, some u, some v, none, none, none, none, none, none, none, none, none, none] G Q := by
  intro x y z u v G Q E h
  have key : ∀ sp : DSp, (∀ ds G Q E, spTake ds G Q E → sp ds G Q E) → DRun (t_law_more_right sp sp_law_far sp_law_fit sp_law_least_movement sp_law_same sp_law_cells_due sp_law_num sp_law_less (sp_apart_by K)) [some x, some y, some z, some u, some v, none, none, none, none, none, none, none, none, none, none] G Q := by
    intro sp hsp
    obtain ⟨G0, p, k, n, rs, pl, F, M, c, rfl, B, hk, rfl, rfl, rfl, rfl, h1, h2, hV, hl, hS, hF, hM, hc, h⟩ := h
    have hL : (tab n fun i => prD (pl i)).length = n := tab_len n _
    have hml : (rs.map rlD).length = rs.length := List.length_map ..
    conv => whnf
    rw [hL]
    refine tk hsp B (by omega) (by omega) (by omega) fun v1 G v1_0 v1_1 B => ?_
    conv => whnf
    refine tk hsp B (by omega) (by omega) (by omega) fun v2 G v2_0 v2_1 B => ?_
    conv => whnf
    refine ⟨by omega, ?_⟩
    have hm0 := Int.emod_nonneg (v1 + 1 + v2) (show (n : Int) ≠ 0 by omega)
    have hm1 := Int.emod_lt_of_pos (v1 + 1 + v2) (show (0 : Int) < n by omega)
    have hm2 : (v1 + 1 + v2) % (n : Int) ≠ v1 := by
      by_cases q : v1 + 1 + v2 < n
      · rw [Int.emod_eq_of_lt (by omega) q]; omega
      · rw [show v1 + 1 + v2 = (v1 + 1 + v2 - n) + n by omega, Int.add_emod_right, Int.emod_eq_of_lt (by omega) (by omega)]; omega
    obtain ⟨lo, rfl⟩ := Int.eq_ofNat_of_zero_le v1_0
    obtain ⟨hi, ehi⟩ := Int.eq_ofNat_of_zero_le hm0
    have ehi : ((lo : Int) + 1 + v2) % (n : Int) = (hi : Nat) := ehi
    rw [ehi] at hm1 hm2
    have ed : (fun i j : Int => D.int (i % j)) ((lo : Int) + 1 + v2) (n : Int) = .int (hi : Nat) := congrArg D.int ehi
    rw [ed]
    have hlo : lo < n := by omega
    have hhi : hi < n := by omega
    have hne : lo ≠ hi := by omega
    conv => whnf
    refine tab_at (f := fun i => D.int (c i)) hhi ?_
    conv => whnf
    refine tab_at (f := fun i => D.int (c i)) hlo ?_
    conv => whnf
    refine tk hsp B (by omega) (by omega) (by omega) fun v3 G v3_0 v3_1 B => ?_
    conv => whnf
    refine ⟨smallL (by simp), ?_⟩
    obtain ⟨w, hw⟩ : ∃ w : Int, w = max (-400) (min 400 (c hi - c lo + v3 - 2)) := ⟨_, rfl⟩
    have e9 : D.tup [.int lo, .int hi, .int (max (-400) (min 400 (c hi - c lo + v3 - 2)))] = rlD (lo, hi, w) := by rw [hw]
    rw [e9]
    have hw1 : -400 ≤ w := by omega
    have hw2 : w ≤ 400 := by omega
    have ea : rs.map rlD ++ [rlD (lo, hi, w)] = (rs ++ [(lo, hi, w)]).map rlD := by rw [List.map_append]; rfl
    have hV1 : Vr n (rs ++ [(lo, hi, w)]) := fun r hr => by
      rcases List.mem_append.mp hr with hr | hr
      · exact hV r hr
      · simp at hr; subst hr; exact ⟨hlo, hhi, hne, hw1, hw2⟩
    have hl1 : (rs ++ [(lo, hi, w)]).length ≤ 100 := by rw [List.length_append, List.length_singleton]; omega
    have hB : Bk G0 p (k + 10) G := B.mono (by omega)
    conv => whnf
    refine ⟨smallL (by simp), ?_⟩
    conv => whnf
    refine ⟨smallL (by simp; omega), ?_⟩
    rw [ea]
    conv => whnf
    refine ⟨n, rs ++ [(lo, hi, w)], rfl, rfl, by omega, h2, hV1, fun hno => ?_, fun F1 hF1 => ?_⟩
    · conv => whnf
      refine ⟨fun _ => ?_, fun e => tf e⟩
      conv => whnf
      exact h G hB
    conv => whnf
    refine ⟨fun e => ft e, fun _ => ?_⟩
    conv => whnf
    refine ⟨smallL (by simp), ?_⟩
    conv => whnf
    refine ⟨smallL (by simp; omega), ?_⟩
    rw [ea]
    conv => whnf
    refine ⟨n, rs ++ [(lo, hi, w)], pl, F1, rfl, rfl, by omega, h2, hV1, hl1, hS, hF1, fun M1 c1 hM1 hc1 => ?_⟩
    conv => whnf
    refine ⟨n, rs ++ [(lo, hi, w)], pl, F1, rfl, rfl, by omega, h2, hF1, hS, fun M2 hM2 => ?_⟩
    have e2 := hM2.uniq hM1
    subst e2
    have hMs := hM.sz hF h2 hS
    have hMs1 := hM2.sz hF1 h2 hS
    conv => whnf
    refine ⟨fun e => ft e, fun _ => ?_⟩
    conv => whnf
    refine ⟨M2, rfl, ?_⟩
    conv => whnf
    refine ⟨n, rs ++ [(lo, hi, w)], pl, F1, M2, rfl, rfl, rfl, by omega, h2, hF1, hS, hMs1.mono (by decide), fun c2 hc2 => ?_⟩
    have ec : lsC n c2 = lsC n c1 := congrArg D.lst (tab_congr fun i hi => by rw [hc2.uniq hc1 hi])
    rw [ec]
    conv => whnf
    refine ⟨smallL (by simp), ?_⟩
    refine ⟨fun _ => False, .same _, fz_fit 4 M2 c1 (by omega), ?_⟩
    conv => whnf
    refine ⟨fun e => ft e, fun _ => ?_⟩
    conv => whnf
    have hle : ∀ i j a, i < n → j < n → F i j = some a → Fle F1 i j a := fun i j a hi hj e => hF.fle hV.w hF1 (fun r hr => hF1.cl.rl r (List.mem_append_left _ hr)) hi hj e
    have hmo := hM.more hM2 hle
    obtain ⟨b, eb, hb⟩ := hF1.cl.rl (lo, hi, w) (by simp)
    have eb : F1 lo hi = some b := eb
    have hb : w ≤ b := hb
    have e3 : decide (M2 < M) = false := decide_eq_false (by grind)
    have hge : ∀ a, F lo hi = some a → a ≤ b := fun a e => by
      obtain ⟨b', eb', hb'⟩ := hle lo hi a hlo hhi e
      rw [eb] at eb'; cases eb'
      exact hb'
    refine ⟨fun e => ?_, fun e => ?_⟩
    have e : decide (w ≤ c hi - c lo) = true := e
    have hpot : Pot (rs ++ [(lo, hi, w)]) c := fun r hr => by
      rcases List.mem_append.mp hr with hr | hr
      · exact hc.pot hV.w hF.cl r hr
      · simp at hr; subst hr
        have := of_decide_eq_true e
        show c lo + w ≤ c hi
        omega
    have e4 : M2 = M := by
      have := hM.kept hM2 hF hF1 hc hpot
      grind
    have e5 : fitD n M2 c1 = fitD n M c := by
      have hk := hc.kept hF hF1 hpot hle
      subst e4
      have ec : lsC n c1 = lsC n c := congrArg D.lst (tab_congr fun i hi => by rw [hc1.uniq hk hi])
      unfold fitD
      rw [ec]
    rw [e5]
    conv => whnf
    refine ⟨fun _ => False, .same _, fz_fit 4 M c (by omega), ?_⟩
    conv => whnf
    all_goals conv => whnf
    all_goals refine ⟨fun e => ft e, fun _ => ?_⟩
    all_goals conv => whnf
    all_goals refine ⟨M2, M, rfl, rfl, hMs1.mono (by decide), hMs.mono (by decide), trivial, ?_⟩
    all_goals conv => whnf
    all_goals refine ⟨fun e => absurd (show decide (M2 < M) = true from e) (by rw [e3]; decide), fun _ => ?_⟩
    all_goals conv => whnf
    all_goals refine ⟨n, rs, lo, hi, rfl, .inl rfl, rfl, rfl, hlo, hhi, hne, h2, hV, by omega, .inl ⟨F, hF, ?_⟩, fun p s l t => (hF.cl.no t).elim⟩
    all_goals conv => whnf
    all_goals refine ⟨smallL (by simp), ?_⟩
    all_goals conv => whnf
    all_goals refine ⟨smallL (by simp; omega), ?_⟩
    all_goals rw [ea]
    all_goals conv => whnf
    all_goals refine ⟨n, rs ++ [(lo, hi, w)], lo, hi, rfl, .inl rfl, rfl, rfl, hlo, hhi, hne, h2, hV1, hl1, .inl ⟨F1, hF1, ?_⟩, fun p s l t => (hF1.cl.no t).elim⟩
    all_goals dsimp only
    all_goals rw [eb]
    all_goals cases hf : F lo hi with
      | none =>
        conv => whnf
        refine ⟨fun _ => ?_, fun e => tf e⟩
        conv => whnf
        refine ⟨fun _ => ?_, fun e => absurd (show decide (w ≤ b) = false from e) (by rw [decide_eq_true hb]; decide)⟩
        conv => whnf
        refine ⟨fun _ => ?_, fun e => tf e⟩
        exact h G hB
      | some a =>
        have hab : a ≤ b := hge a hf
        conv => whnf
        refine ⟨fun _ => ?_, fun e => tf e⟩
        conv => whnf
        refine ⟨fun _ => ?_, fun e => absurd (show decide (w ≤ b) = false from e) (by rw [decide_eq_true hb]; decide)⟩
        conv => whnf
        refine ⟨fun e => ft e, fun _ => ?_⟩
        have e9 : decide (a ≤ b) = true := decide_eq_true hab
        have hq := h G hB
        rw [← e9] at hq
        exact hq
  exact key _ fun _ _ _ _ h => h
end K69
set_option linter.all false
set_option maxRecDepth 100000
set_option maxHeartbeats 1000000
namespace K69
open PySem PySem.Spec L2 DL
open FIT NUM Rat K68
/-! the fit, turned about -/
theorem idx_first : ∀ {l : List Nat} {x : Nat}, x ∈ l → l[l.idxOf x]? = some x ∧ ∀ m z, m < l.idxOf x → l[m]? = some z → z ≠ x
  | [], _, h => absurd h (by simp)
  | a :: t, x, h => by
    rw [List.idxOf_cons]
    by_cases e : a = x
    · have : (a == x) = true := by simpa using e
      rw [this]
      exact ⟨by rw [← e]; rfl, fun m z hm => absurd hm (Nat.not_lt_zero _)⟩
    · have : (a == x) = false := by simpa using e
      rw [this]
      have hx : x ∈ t := by
        rcases List.mem_cons.mp h with z | z
        · exact absurd z.symm e
        · exact z
      obtain ⟨h1, h2⟩ := idx_first hx
      refine ⟨h1, fun m z hm hz => ?_⟩
      cases m with
      | zero => cases hz; exact e
      | succ m => exact h2 m z (Nat.lt_of_succ_lt_succ hm) hz
theorem map_ord {os : List Nat} {n : Nat} (h : os.length = n) (f : Nat → D) : os.map f = tab n fun i => f (os[i]?.getD 0) := by
  subst h
  refine List.ext_getElem? fun i => ?_
  unfold tab
  rw [List.getElem?_map, List.getElem?_map]
  by_cases h : i < os.length
  · rw [List.getElem?_range h, List.getElem?_eq_getElem h]; simp [h]
  · rw [List.getElem?_eq_none (by omega), List.getElem?_eq_none (by simp; omega)]; rfl
structure Ord (n : Nat) (os : List Nat) (o σ : Nat → Nat) : Prop where
  len : os.length = n
  lo_ : ∀ i, i < n → o i < n
  ls : ∀ i, i < n → σ i < n
  lso : ∀ i, i < n → σ (o i) = i
  los : ∀ i, i < n → o (σ i) = i
  at_ : ∀ x, x < n → os[σ x]? = some x ∧ ∀ m z, m < σ x → os[m]? = some z → z ≠ x
theorem Ord.of {n : Nat} {os : List Nat} (h : os.Perm (List.range n)) : Ord n os (fun i => os[i]?.getD 0) fun x => os.idxOf x := by
  have hl : os.length = n := by have := h.length_eq; simpa using this
  have hm : ∀ x, x ∈ os ↔ x < n := fun x => by rw [h.mem_iff]; exact List.mem_range
  have hd : os.Nodup := h.nodup_iff.mpr List.nodup_range
  have at_ : ∀ x, x < n → os[os.idxOf x]? = some x ∧ ∀ m z, m < os.idxOf x → os[m]? = some z → z ≠ x := fun x hx => idx_first ((hm x).mpr hx)
  have lt : ∀ x, x < n → os.idxOf x < n := fun x hx => by
    have := (at_ x hx).1
    obtain ⟨h1, _⟩ := List.getElem?_eq_some_iff.mp this
    omega
  have ge : ∀ i (hi : i < n), os[i]? = some (os[i]'(by omega)) := fun i hi => List.getElem?_eq_getElem (by omega)
  have oo : ∀ i (hi : i < n), os[i]?.getD 0 = os[i]'(by omega) := fun i hi => by rw [ge i hi]; rfl
  refine ⟨hl, fun i hi => ?_, lt, fun i hi => ?_, fun i hi => ?_, at_⟩
  · show os[i]?.getD 0 < n
    rw [oo i hi]; exact (hm _).mp (List.getElem_mem _)
  · show os.idxOf (os[i]?.getD 0) = i
    have hx : os[i]?.getD 0 < n := by rw [oo i hi]; exact (hm _).mp (List.getElem_mem _)
    obtain ⟨h1, h2⟩ := at_ _ hx
    rcases Nat.lt_trichotomy (os.idxOf (os[i]?.getD 0)) i with q | q | q
    · exfalso
      have hj := lt _ hx
      rw [ge _ hj] at h1
      have h1 := Option.some.inj h1
      have e2 := oo i hi
      have := (List.nodup_iff_pairwise_ne.mp hd)
      have := List.pairwise_iff_getElem.mp this _ _ (by omega) (by omega) q
      exact this (h1.trans e2)
    · exact q
    · exact absurd (oo i hi).symm (h2 i _ q (ge i hi))
  · show os[os.idxOf i]?.getD 0 = i
    rw [(at_ i hi).1]; rfl
theorem ord_ns {n : Nat} {os : List Nat} {o σ : Nat → Nat} (h : Ord n os o σ) {x : Nat} (hx : x < n) : (os.map fun (i : Nat) => D.int (0 + i)) = (os.map fun (i : Nat) => (0 : Int) + i).map .int ∧ (os.map fun (i : Nat) => (0 : Int) + i)[σ x]? = some (x : Int) ∧ ∀ m z, m < σ x → (os.map fun (i : Nat) => (0 : Int) + i)[m]? = some z → z ≠ (x : Int) := by
  obtain ⟨h1, h2⟩ := h.at_ x hx
  refine ⟨by rw [List.map_map]; rfl, by rw [List.getElem?_map, h1]; show some ((0 : Int) + x) = _; rw [Int.zero_add], fun m z hm hz => ?_⟩
  rw [List.getElem?_map] at hz
  cases e : os[m]? with
  | none => rw [e] at hz; cases hz
  | some w =>
    rw [e] at hz
    have hz : (0 : Int) + w = z := Option.some.inj hz
    have := h2 m w hm e
    omega
theorem lst_map {α : Type} {xs : List α} {f : α → D} : (xs.map f).length = xs.length := List.length_map ..
def pr_right (x y z u : D) (G : GHp) (Q : DK) : Prop := ∃ (G0 : GHp) (p : Addr) (k n : Nat) (rs : List Rl) (pl : Nat → Rat) (F : Fm), x = .ref p ∧ Bk G0 p k G ∧ k ≤ 50000 ∧ y = plP n pl ∧ z = .lst (rs.map rlD) ∧ u = tbD n F ∧ 1 ≤ n ∧ n ≤ 24 ∧ Vr n rs ∧ rs.length ≤ 40 ∧ (∃ c, Pot rs c) ∧
  (∀ i, i < n → Sz 20 (pl i)) ∧ Tb n rs F ∧ ∀ G', Bk G0 p (k + 1000) G' → Q (.bl true) G'
def sp_law_right : DSp := sp4 fun x y z u G Q _ => pr_right x y z u G Q
theorem rd_law_right : ∀ x y z u G Q (E : DXK), pr_right x y z u G Q → DRun (t_law_right sp_law_least_movement sp_law_cells_due sp_law_num sp_law_fit sp_law_same sp_law_thinned sp_law_all_implied sp_law_mixed spTake sp_law_plus sp_law_more_right)
    [some x, some y, some z, some u, none, none, none, none, none, none, none, none, none, none, none, none, none, none, none, none] G Q := by
  intro x y z u G Q E h
  have key : ∀ sp : DSp, (∀ ds G Q E, spTake ds G Q E → sp ds G Q E) → DRun (t_law_right sp_law_least_movement sp_law_cells_due sp_law_num sp_law_fit sp_law_same sp_law_thinned sp_law_all_implied sp_law_mixed sp sp_law_plus sp_law_more_right)
    [some x, some y, some z, some u, none, none, none, none, none, none, none, none, none, none, none, none, none, none, none, none] G Q := by
    intro sp hsp
    obtain ⟨G0, p, k, n, rs, pl, F, rfl, B, hk, rfl, rfl, rfl, h1, h2, hV, hl, hpot, hz, hF, h⟩ := h
    have hS : ∀ i, i < n → Sh (pl i) := fun i hi => szSh ((hz i hi).mono (by decide))
    have hL : (tab n fun i => prD (pl i)).length = n := tab_len n _
    have hml : (rs.map rlD).length = rs.length := List.length_map ..
    conv => whnf
    rw [hL]
    refine ⟨n, rs, pl, F, rfl, rfl, h1, h2, hF, hS, fun M hM => ?_⟩
    have hMs := hM.sz hF h2 hS
    conv => whnf
    refine ⟨M, rfl, ?_⟩
    conv => whnf
    refine ⟨n, rs, pl, F, M, rfl, rfl, rfl, h1, h2, hF, hS, hMs.mono (by decide), fun c hc => ?_⟩
    conv => whnf
    refine ⟨smallL (by simp), ?_⟩
    conv => whnf
    refine ⟨n, rs, pl, F, rfl, rfl, h1, h2, hV, by omega, hS, hF, fun M' c' hM' hc' => ?_⟩
    rw [fit_eq hM hc hM' hc']
    clear hM' hc' M' c'
    conv => whnf
    refine ⟨fun e => ft e, fun _ => ?_⟩
    conv => whnf
    refine ⟨fun _ => False, .same _, fz_fit 4 M c (by omega), ?_⟩
    conv => whnf
    refine ⟨fun e => ft e, fun _ => ?_⟩
    conv => whnf
    refine ⟨n, rs, F, rfl, rfl, h1, h2, hV, by omega, hpot, hF, fun rs3 hV3 hl3 hF3 => ?_⟩
    conv => whnf
    refine ⟨fun e => ft e, fun _ => ?_⟩
    conv => whnf
    refine ⟨G0, p, k, rs.map rlD, rfl, B, by omega, rfl, by omega, fun d hd => ?_, fun es G hp B => ?_⟩
    · obtain ⟨r, _, rfl⟩ := List.mem_map.mp hd
      exact .rl r
    obtain ⟨rs1, rfl, hp1⟩ := perm_map hp
    conv => whnf
    refine ⟨smallL (by simp; omega), ?_⟩
    conv => whnf
    refine ⟨n, F, rfl, h2, fun rs2 hrs2 hl2 => ?_⟩
    conv => whnf
    refine ⟨smallL (by simp; omega), ?_⟩
    conv => whnf
    have e3 : [D.lst (rs1.map rlD), D.lst (rs.map rlD ++ rs.map rlD), D.lst (cutD (rs.map rlD ++ rs2.map rlD) none (some 100)), D.lst (rs3.map rlD)] = [rs1, rs ++ rs, (rs ++ rs2).take 100, rs3].map fun L => D.lst (L.map rlD) := by
      rw [show (100 : Int) = ((100 : Nat) : Int) from rfl, cut_take]
      simp only [List.map_cons, List.map_nil, List.map_append, List.map_take]
    refine ⟨smallL (by simp), ?_⟩
    rw [e3]
    have hsup : ∀ L : List Rl, (∀ r ∈ rs, r ∈ L) → (∀ r ∈ L, r ∈ rs ∨ r ∈ rs2) → L.length ≤ 100 → Vr n L ∧ L.length ≤ 100 ∧ Tb n L F := fun L q1 q2 q3 => by
      refine ⟨fun r hr => ?_, q3, hF.sup q1 fun r hr => ?_⟩
      · rcases q2 r hr with hr | hr
        · exact hV r hr
        · obtain ⟨⟨i1, i2, i3, _⟩, i5, i6⟩ := hrs2 r hr
          exact ⟨i1, i2, i3, i5, i6⟩
      · rcases q2 r hr with hr | hr
        · exact hF.cl.rl r hr
        · obtain ⟨⟨i1, i2, i3, i4⟩, _⟩ := hrs2 r hr
          exact ⟨_, i4, Int.le_refl _⟩
    refine for_ind (enc := fun (L : List Rl) => D.lst (L.map rlD)) (fun r δ G' => G' = G ∧ (∀ L ∈ r, Vr n L ∧ L.length ≤ 100 ∧ Tb n L F) ∧ ∃ o9, δ = [some (.ref p), some (plP n pl), some (.lst (rs.map rlD)), some (tbD n F), some (.int n), some (prD M), some (fitD n M c), some (fitD n M c), some (.lst (rs3.map rlD)), o9, none, none, none, none, none, none, none, none, none, none]) ?_ ?_ [rs1, rs ++ rs, (rs ++ rs2).take 100, rs3] _ _ ⟨rfl, fun L hL => ?_, _, rfl⟩
    rotate_left
    · rintro L r δ G ⟨rfl, hr, o9, rfl⟩
      obtain ⟨q1, q2, q3⟩ := hr L List.mem_cons_self
      refine ⟨trivial, _, rfl, fun N hN => ?_⟩
      conv => whnf
      refine ⟨n, L, pl, F, rfl, rfl, h1, h2, q1, q2, hS, q3, fun M' c' hM' hc' => ?_⟩
      rw [fit_eq hM hc hM' hc']
      conv => whnf
      refine ⟨fun _ => False, .same _, fz_fit 4 M c (by omega), ?_⟩
      conv => whnf
      refine ⟨fun e => ft e, fun _ => ?_⟩
      conv => whnf
      exact hN _ _ ⟨rfl, fun L hL => hr L (List.mem_cons_of_mem _ hL), _, rfl⟩
    · simp only [List.mem_cons, List.not_mem_nil, or_false] at hL
      rcases hL with rfl | rfl | rfl | rfl
      · exact hsup _ (fun r hr => hp1.mem_iff.mpr hr) (fun r hr => .inl (hp1.mem_iff.mp hr)) (by rw [hp1.length_eq]; omega)
      · exact hsup _ (fun r hr => List.mem_append_left _ hr) (fun r hr => .inl (by simpa using hr)) (by rw [List.length_append]; omega)
      · refine hsup _ (fun r hr => ?_) (fun r hr => List.mem_append.mp (List.mem_of_mem_take hr)) (by rw [List.length_take]; omega)
        rw [List.take_append]
        refine List.mem_append_left _ ?_
        rw [List.take_of_length_le (by omega)]
        exact hr
      · exact ⟨hV3, hl3, hF3⟩
    rintro δ G ⟨rfl, _, o9, rfl⟩
    refine ⟨trivial, ?_⟩
    conv => whnf
    refine tk hsp B (by omega) (by omega) (by omega) fun v G v_0 v_1 B => ?_
    conv => whnf
    conv => whnf
    let pm : Nat → Rat := fun i => pl i + ((64 * (v - 20) : Int) : Rat)
    have hpm : pm = fun i => pl i + 64 * ((v - 20 : Int) : Rat) := funext fun i => by show pl i + ((64 * (v - 20) : Int) : Rat) = _; rw [i64]
    have szb : Sz 20 ((64 * (v - 20) : Int) : Rat) := szI (by omega) (by decide)
    have hzm : ∀ i, i < n → Sh (pm i) := fun i hi => szSh (((hz i hi).add szb).mono (by decide))
    refine lc_map (enc := fun (i : Nat) => prD (pl i)) (keep := fun _ => true) (f := fun i => prD (pm i)) (xs := List.range n) (smallL (by rw [List.length_range]; omega)) trivial (fun _ _ R h => h) (fun i hi _ R hR => ?_) ?_
    · have hi := List.mem_range.mp hi
      conv => whnf
      refine ⟨mul_small (.inl (by omega)), ?_⟩
      conv => whnf
      refine ⟨smallL (by simp), ?_⟩
      conv => whnf
      refine ⟨pl i, ((64 * (v - 20) : Int) : Rat), rfl, (prD_int _).symm, (hz i hi).mono (by decide), szb.mono (by decide), trivial, ?_⟩
      exact hR
    rw [filter_yes]
    have e4 : (List.range n).map (fun i => prD (pm i)) = tab n fun i => prD (pm i) := rfl
    rw [e4]
    conv => whnf
    refine ⟨n, rs, pm, F, rfl, rfl, h1, h2, hV, by omega, hzm, hF, fun M' c' hM' hc' => ?_⟩
    have hMm := hM.mv (v - 20)
    have hcm := hc.mv (v - 20)
    rw [← hpm] at hMm
    have hcm : LF n F (fun k => low M (pm k)) fun k => c k + (v - 20) := by rw [hpm]; exact hcm
    rw [fit_eq hMm hcm hM' hc']
    clear hM' hc' M' c'
    conv => whnf
    refine lc_map (enc := fun (i : Nat) => D.int (c i)) (keep := fun _ => true) (f := fun i => D.int (c i + (v - 20))) (xs := List.range n) (smallL (by rw [List.length_range]; omega)) trivial (fun _ _ R h => h) (fun i hi _ R hR => hR) ?_
    rw [filter_yes]
    have e5 : (List.range n).map (fun i => D.int (c i + (v - 20))) = tab n fun i => .int (c i + (v - 20)) := rfl
    rw [e5]
    conv => whnf
    refine ⟨smallL (by simp), ?_⟩
    refine ⟨fun _ => False, .same _, fz_fit 4 M (fun i => c i + (v - 20)) (by omega), ?_⟩
    conv => whnf
    refine ⟨fun e => ft e, fun _ => ?_⟩
    conv => whnf
    refine ⟨RgOk.of_le (by omega) (by omega) (by omega) (by omega), ?_⟩
    conv => whnf
    refine ⟨G0, p, _, rngD 0 (n : Int).toNat, rfl, B, by omega, rfl, by unfold rngD; rw [List.length_map, List.length_range]; omega, fun d hd => ?_, fun es G hp B => ?_⟩
    · obtain ⟨i, _, rfl⟩ := List.mem_map.mp hd
      exact .int _
    obtain ⟨os, rfl, hos⟩ := perm_map hp
    rw [Int.toNat_natCast] at hos
    obtain ⟨o, σ, hO, hmo⟩ : ∃ o σ, Ord n os o σ ∧ ∀ f : Nat → D, os.map f = tab n fun i => f (o i) := ⟨_, _, Ord.of hos, map_ord (Ord.of hos).len⟩
    have hol : os.length = n := hO.len
    have hom : ∀ x ∈ os, x < n := fun x hx => List.mem_range.mp (hos.mem_iff.mp hx)
    conv => whnf
    refine lc_mapG (enc := rlD) (keep := fun _ => true) (f := fun r => rlD (σ r.1, σ r.2.1, r.2.2)) (fun r => [some (.ref p), some (plP n pl), some (.lst (rs.map rlD)), some (tbD n F), some (.int n), some (prD M), some (fitD n M c), some (fitD n M c), some (.lst (rs3.map rlD)), o9, some (.int (v - 20)), some (plP n pm), some (.lst (os.map fun (i : Nat) => D.int (0 + i))), none, none, some (.int r.1), some (.int r.2.1), some (.int r.2.2), none, none]) (smallL (by omega)) trivial (fun r hr => rfl) (fun r hr R h => h) (fun r hr _ R hR => ?_) ?_
    · obtain ⟨v1, v2, _⟩ := hV r hr
      obtain ⟨a1, a2, a3⟩ := ord_ns hO v1
      obtain ⟨b1, b2, b3⟩ := ord_ns hO v2
      conv => whnf
      refine ⟨_, σ r.1, a1, a2, a3, ?_⟩
      conv => whnf
      refine ⟨_, σ r.2.1, b1, b2, b3, ?_⟩
      conv => whnf
      refine ⟨smallL (by simp), ?_⟩
      exact hR
    rw [filter_yes]
    have e6 : rs.map (fun r => rlD (σ r.1, σ r.2.1, r.2.2)) = (rs.map fun r => (σ r.1, σ r.2.1, r.2.2)).map rlD := by rw [List.map_map]; rfl
    rw [e6]
    conv => whnf
    refine lc_map (enc := fun (i : Nat) => D.int (0 + i)) (keep := fun _ => true) (f := fun i => prD (pl i)) (xs := os) (smallL (by omega)) trivial (fun _ _ R h => h) (fun i hi _ R hR => ?_) ?_
    · conv => whnf
      refine tab_at0 (f := fun i => prD (pl i)) (hom i hi) ?_
      exact hR
    rw [filter_yes, hmo]
    conv => whnf
    have hVt : Vr n (rs.map fun r => (σ r.1, σ r.2.1, r.2.2)) := fun r hr => by
      obtain ⟨q, hq, rfl⟩ := List.mem_map.mp hr
      obtain ⟨v1, v2, v3, v4, v5⟩ := hV q hq
      refine ⟨hO.ls _ v1, hO.ls _ v2, fun e => v3 ?_, v4, v5⟩
      rw [← hO.los _ v1, ← hO.los _ v2]
      exact congrArg o e
    refine ⟨n, rs.map fun r => (σ r.1, σ r.2.1, r.2.2), fun i => pl (o i), fun i j => F (o i) (o j), rfl, rfl, h1, h2, hVt, by rw [List.length_map]; omega, fun i hi => hS _ (hO.lo_ i hi), hF.turn hV.w hO.lo_ hO.lso hO.los, fun M' c' hM' hc' => ?_⟩
    rw [fit_eq (p := fun i => pl (o i)) (hM.turn hO.lo_ hO.ls hO.los) (hc.turn hO.lo_ hO.ls hO.los) hM' hc']
    clear hM' hc' M' c'
    conv => whnf
    refine lc_map (enc := fun (i : Nat) => D.int (0 + i)) (keep := fun _ => true) (f := fun i => D.int (c i)) (xs := os) (smallL (by omega)) trivial (fun _ _ R h => h) (fun i hi _ R hR => ?_) ?_
    · conv => whnf
      refine tab_at0 (f := fun i => D.int (c i)) (hom i hi) ?_
      exact hR
    rw [filter_yes, hmo]
    conv => whnf
    refine ⟨smallL (by simp), ?_⟩
    refine ⟨fun _ => False, .same _, fz_fit 4 M (fun i => c (o i)) (by omega), ?_⟩
    conv => whnf
    refine ⟨fun e => ft e, fun _ => ?_⟩
    conv => whnf
    refine ⟨fun e => ?_, fun e => ?_⟩
    · have e : decide ((n : Int) = 1) = true := e
      show Q (.bl (decide ((n : Int) = 1))) _
      rw [e]
      exact h _ (B.mono (by omega))
    · have e : decide ((n : Int) = 1) = false := e
      have e := of_decide_eq_false e
      refine ⟨G0, p, _, n, rs, pl, F, M, c, rfl, B, by omega, rfl, rfl, rfl, rfl, by omega, h2, hV, by omega, hS, hF, hM, hc, fun G' B => h G' (B.mono (by omega))⟩
  exact key _ fun _ _ _ _ h => h
end K69
set_option linter.all false
set_option maxRecDepth 100000
set_option maxHeartbeats 1000000
namespace K69
open PySem PySem.Spec L2 DL
open FIT NUM Rat K68
abbrev sp_law : DSp := spLaw 63
theorem map_tabR {ps : List Rat} {n : Nat} (h : ps.length = n) : ps.map prD = tab n fun i => prD (ps[i]?.getD 0) := by
  subst h
  refine List.ext_getElem? fun i => ?_
  unfold tab
  rw [List.getElem?_map, List.getElem?_map]
  by_cases h : i < ps.length
  · rw [List.getElem?_range h, List.getElem?_eq_getElem h]; simp [h]
  · rw [List.getElem?_eq_none (by omega), List.getElem?_eq_none (by simp; omega)]; rfl
theorem rd_law {K : PySem.W.Frag} : ∀ a G Q (E : DXK), (∃ ns : List Int, a = D.scr (ns.map .int) ∧ ns.length ≤ 63 ∧ (∀ z ∈ ns, Builtin.Int.intBits z ≤ 1048576) ∧ (∀ a, G a = none) ∧ Q (.bl true) G) →
    DRun (t_law K sp_law_box sp_law_cell sp_law_take sp_law_drawn_rules sp_law_places sp_law_right sp_law_far) [some a, none, none, none, none, none, none, none] G Q := by
  intro a G Q E h
  have key : ∀ sp : DSp, (∀ ds G Q E, spTake ds G Q E → sp ds G Q E) → DRun (t_law K sp_law_box sp_law_cell sp sp_law_drawn_rules sp_law_places sp_law_right sp_law_far) [some a, none, none, none, none, none, none, none] G Q := by
    intro sp hsp
    obtain ⟨sc, rfl, hsl, _, hG, h⟩ := h
    have hml : (sc.map D.int).length = sc.length := List.length_map ..
    conv => whnf
    refine ⟨by unfold RgB; omega, ?_⟩
    refine for_ind (enc := fun (i : Nat) => D.int (0 + i)) (fun r δ G' => ∃ i : Nat, i + r.length ≤ 100 ∧ (∀ j ∈ r, j ≤ 100) ∧ ∃ o1 o2 o3 o4 o5 o6 o7, δ = [some (.scr (sc.map .int)), o1, o2, o3, o4, o5, o6, o7]) ?_ ?_ (List.range _) _ _
      ⟨0, by rw [List.length_range]; omega, fun j hj => by have := List.mem_range.mp hj; omega, _, _, _, _, _, _, _, rfl⟩
    · rintro δ G' ⟨_, _, _, o1, o2, o3, o4, o5, o6, o7, rfl⟩
      refine ⟨trivial, ?_⟩
      conv => whnf
      refine ⟨_, G, View.tree (fun _ => True) (fun a _ => hG a) (fun a o e => by rw [hG] at e; cases e) (TreeSt.same _), ?_⟩
      exact h
    · rintro j r δ G' ⟨i, hi, hj, o1, o2, o3, o4, o5, o6, o7, rfl⟩
      have hj0 := hj j List.mem_cons_self
      rw [List.length_cons] at hi
      refine ⟨trivial, _, rfl, fun N hN => ?_⟩
      conv => whnf
      refine ⟨sc, 0 + j, rfl, rfl, by omega, by omega, fun z => ?_⟩
      conv => whnf
      refine ⟨z, rfl, fun p s hp hs => ?_⟩
      have B : Bk G' p 0 (gupd G' p s.go) := ⟨⟨s, gupd_same, hs⟩, fun b hb => gupd_ne hb⟩
      conv => whnf
      generalize gupd G' p s.go = G0 at B ⊢
      refine tk hsp B (by omega) (by omega) (by omega) fun v1 G v1_0 v1_1 B => ?_
      conv => whnf
      conv => whnf
      refine tk hsp B (by omega) (by omega) (by omega) fun v2 G v2_0 v2_1 B => ?_
      conv => whnf
      obtain ⟨n, hn⟩ := Int.eq_ofNat_of_zero_le (show (0 : Int) ≤ 1 + v1 by omega)
      have hn : 1 + v1 = (n : Nat) := hn
      obtain ⟨cnt, rfl⟩ := Int.eq_ofNat_of_zero_le v2_0
      refine ⟨G', p, _, n, cnt, rfl, B, by omega, congrArg D.int hn, by omega, by omega, rfl, by omega, fun hid rs0 G0 hl hb hV0 hrl B => ?_⟩
      conv => whnf
      let keep : Rl → Bool := fun r => decide (gi hid r.1 + r.2.2 ≤ gi hid r.2.1)
      refine lc_map (enc := rlD) (keep := keep) (f := rlD) (smallL (by omega)) trivial (fun r hr R hR => ?_) (fun r hr hs R hR => hR) ?_
      · obtain ⟨v1, v2, _⟩ := hV0 r hr
        have eh : hid.map D.int = tab n fun i => .int (gi hid i) := map_tab hl
        conv => whnf
        rw [eh]
        refine tab_at (f := fun i => D.int (gi hid i)) v2 ?_
        conv => whnf
        rw [eh]
        refine tab_at (f := fun i => D.int (gi hid i)) v1 ?_
        exact hR
      obtain ⟨rs, hrs⟩ : ∃ rs, rs = rs0.filter keep := ⟨_, rfl⟩
      rw [← hrs]
      have hmem : ∀ r ∈ rs, r ∈ rs0 ∧ gi hid r.1 + r.2.2 ≤ gi hid r.2.1 := fun r hr => by
        rw [hrs] at hr
        obtain ⟨q1, q2⟩ := List.mem_filter.mp hr
        exact ⟨q1, of_decide_eq_true q2⟩
      have hV : Vr n rs := fun r hr => hV0 r (hmem r hr).1
      have hpot : Pot rs (gi hid) := fun r hr => (hmem r hr).2
      have hlr : rs.length ≤ 40 := by
        rw [hrs]
        exact Nat.le_trans (List.length_filter_le _ _) (by omega)
      conv => whnf
      refine ⟨G', p, _, hid, rfl, B, by omega, rfl, by omega, hb, fun ps G1 hpl hps B => ?_⟩
      rw [map_tabR (hpl.trans hl)]
      obtain ⟨pl, hpe⟩ : ∃ pl : Nat → Rat, pl = fun i => ps[i]?.getD 0 := ⟨_, rfl⟩
      have hz : ∀ i, i < n → Sz 20 (pl i) := fun i hi => by
        rw [hpe]
        show Sz 20 (ps[i]?.getD 0)
        rw [List.getElem?_eq_getElem (by omega)]
        exact hps _ (List.getElem_mem _)
      have e0 : (tab n fun i => prD (ps[i]?.getD 0)) = tab n fun i => prD (pl i) := by rw [hpe]
      rw [e0]
      conv => whnf
      refine ⟨n, rs, congrArg D.int hn, rfl, by omega, by omega, hV, fun hno => absurd hpot (hno _), fun F hF => ?_⟩
      conv => whnf
      refine ⟨G', p, _, n, rs, pl, F, rfl, B, by omega, rfl, rfl, rfl, by omega, by omega, hV, hlr, ⟨_, hpot⟩, hz, hF, fun G2 B => ?_⟩
      conv => whnf
      refine ⟨fun e => ft e, fun _ => ?_⟩
      conv => whnf
      exact hN _ _ ⟨i + 1, by omega, fun j' hj' => hj j' (List.mem_cons_of_mem _ hj'), _, _, _, _, _, _, _, rfl⟩
  exact key _ fun _ _ _ _ h => h
end K69
set_option Elab.async false
set_option linter.all false
set_option maxRecDepth 100000
set_option maxHeartbeats 4000000
namespace K69
open PySem PySem.Spec L2 DL
def topS (i : Nat) : Stmt := PySem.Challenge.pw_hintscribe_k69_whole_fits_turned_about.main.body.getD i (.Pass ⟨0, 0, 0, 0⟩)
abbrev s_law_box : Stmt := topS 49
abbrev N_law_box : List Str := ["cell"]
abbrev P_law_box : List Str := ["cell"]
theorem sc_law_box : FnScope N_law_box P_law_box (defScope s_law_box) := ⟨rfl, rfl, rfl, by decide +kernel, rfl, by decide +kernel, by decide +kernel⟩
abbrev s_law_cell : Stmt := topS 48
abbrev N_law_cell : List Str := ["script", "k"]
abbrev P_law_cell : List Str := ["script", "k"]
theorem sc_law_cell : FnScope N_law_cell P_law_cell (defScope s_law_cell) := ⟨rfl, rfl, rfl, by decide +kernel, rfl, by decide +kernel, by decide +kernel⟩
abbrev s_law_take : Stmt := topS 50
abbrev N_law_take : List Str := ["box", "many", "digit", "one", "other"]
abbrev P_law_take : List Str := ["box", "many"]
theorem sc_law_take : FnScope N_law_take P_law_take (defScope s_law_take) := ⟨rfl, rfl, rfl, by decide +kernel, rfl, by decide +kernel, by decide +kernel⟩
abbrev s_law_mixed : Stmt := topS 60
abbrev N_law_mixed : List Str := ["box", "items", "left", "found"]
abbrev P_law_mixed : List Str := ["box", "items"]
theorem sc_law_mixed : FnScope N_law_mixed P_law_mixed (defScope s_law_mixed) := ⟨rfl, rfl, rfl, by decide +kernel, rfl, by decide +kernel, by decide +kernel⟩
abbrev s_law_round_rules : Stmt := topS 61
abbrev N_law_round_rules : List Str := ["box", "many", "marks", "apart", "k"]
abbrev P_law_round_rules : List Str := ["box", "many"]
theorem sc_law_round_rules : FnScope N_law_round_rules P_law_round_rules (defScope s_law_round_rules) := ⟨rfl, rfl, rfl, by decide +kernel, rfl, by decide +kernel, by decide +kernel⟩
abbrev s_law_drawn_rules : Stmt := topS 62
abbrev N_law_drawn_rules : List Str := ["box", "many", "count", "k", "hidden", "rules", "harder", "low", "high", "slack"]
abbrev P_law_drawn_rules : List Str := ["box", "many", "count"]
theorem sc_law_drawn_rules : FnScope N_law_drawn_rules P_law_drawn_rules (defScope s_law_drawn_rules) := ⟨rfl, rfl, rfl, by decide +kernel, rfl, by decide +kernel, by decide +kernel⟩
abbrev s_law_low : Stmt := topS 52
abbrev N_law_low : List Str := ["top", "bottom", "one", "other", "sign"]
abbrev P_law_low : List Str := ["top", "bottom"]
theorem sc_law_low : FnScope N_law_low P_law_low (defScope s_law_low) := ⟨rfl, rfl, rfl, by decide +kernel, rfl, by decide +kernel, by decide +kernel⟩
abbrev s_law_places : Stmt := topS 71
abbrev N_law_places : List Str := ["box", "hidden", "found", "cell", "near"]
abbrev P_law_places : List Str := ["box", "hidden"]
theorem sc_law_places : FnScope N_law_places P_law_places (defScope s_law_places) := ⟨rfl, rfl, rfl, by decide +kernel, rfl, by decide +kernel, by decide +kernel⟩
abbrev s_law_less : Stmt := topS 59
abbrev N_law_less : List Str := ["one", "other"]
abbrev P_law_less : List Str := ["one", "other"]
theorem sc_law_less : FnScope N_law_less P_law_less (defScope s_law_less) := ⟨rfl, rfl, rfl, by decide +kernel, rfl, by decide +kernel, by decide +kernel⟩
abbrev s_law_most : Stmt := topS 67
abbrev N_law_most : List Str := ["one", "other"]
abbrev P_law_most : List Str := ["one", "other"]
theorem sc_law_most : FnScope N_law_most P_law_most (defScope s_law_most) := ⟨rfl, rfl, rfl, by decide +kernel, rfl, by decide +kernel, by decide +kernel⟩
abbrev s_law_floor : Stmt := topS 66
abbrev N_law_floor : List Str := ["pair"]
abbrev P_law_floor : List Str := ["pair"]
theorem sc_law_floor : FnScope N_law_floor P_law_floor (defScope s_law_floor) := ⟨rfl, rfl, rfl, by decide +kernel, rfl, by decide +kernel, by decide +kernel⟩
abbrev s_law_over : Stmt := topS 58
abbrev N_law_over : List Str := ["one", "other"]
abbrev P_law_over : List Str := ["one", "other"]
theorem sc_law_over : FnScope N_law_over P_law_over (defScope s_law_over) := ⟨rfl, rfl, rfl, by decide +kernel, rfl, by decide +kernel, by decide +kernel⟩
abbrev s_law_plus : Stmt := topS 55
abbrev N_law_plus : List Str := ["one", "other"]
abbrev P_law_plus : List Str := ["one", "other"]
theorem sc_law_plus : FnScope N_law_plus P_law_plus (defScope s_law_plus) := ⟨rfl, rfl, rfl, by decide +kernel, rfl, by decide +kernel, by decide +kernel⟩
abbrev s_law_minus : Stmt := topS 56
abbrev N_law_minus : List Str := ["one", "other"]
abbrev P_law_minus : List Str := ["one", "other"]
theorem sc_law_minus : FnScope N_law_minus P_law_minus (defScope s_law_minus) := ⟨rfl, rfl, rfl, by decide +kernel, rfl, by decide +kernel, by decide +kernel⟩
abbrev s_law_needed : Stmt := topS 68
abbrev N_law_needed : List Str := ["first", "apart", "last", "middle", "best", "cell", "below", "need"]
abbrev P_law_needed : List Str := ["first", "apart", "last"]
theorem sc_law_needed : FnScope N_law_needed P_law_needed (defScope s_law_needed) := ⟨rfl, rfl, rfl, by decide +kernel, rfl, by decide +kernel, by decide +kernel⟩
abbrev s_law_least_movement : Stmt := topS 69
abbrev N_law_least_movement : List Str := ["places", "far", "best", "k", "j"]
abbrev P_law_least_movement : List Str := ["places", "far"]
theorem sc_law_least_movement : FnScope N_law_least_movement P_law_least_movement (defScope s_law_least_movement) := ⟨rfl, rfl, rfl, by decide +kernel, rfl, by decide +kernel, by decide +kernel⟩
abbrev s_law_cells_due : Stmt := topS 70
abbrev N_law_cells_due : List Str := ["places", "far", "movement", "many", "lows", "due", "k", "place", "j"]
abbrev P_law_cells_due : List Str := ["places", "far", "movement"]
theorem sc_law_cells_due : FnScope N_law_cells_due P_law_cells_due (defScope s_law_cells_due) := ⟨rfl, rfl, rfl, by decide +kernel, rfl, by decide +kernel, by decide +kernel⟩
abbrev s_law_num : Stmt := topS 54
abbrev N_law_num : List Str := ["pair"]
abbrev P_law_num : List Str := ["pair"]
theorem sc_law_num : FnScope N_law_num P_law_num (defScope s_law_num) := ⟨rfl, rfl, rfl, by decide +kernel, rfl, by decide +kernel, by decide +kernel⟩
abbrev s_is_list : Stmt := topS 23
abbrev N_is_list : List Str := ["thing", "low", "high"]
abbrev P_is_list : List Str := ["thing", "low", "high"]
theorem sc_is_list : FnScope N_is_list P_is_list (defScope s_is_list) := ⟨rfl, rfl, rfl, by decide +kernel, rfl, by decide +kernel, by decide +kernel⟩
abbrev s_is_plain : Stmt := topS 9
abbrev N_is_plain : List Str := ["thing"]
abbrev P_is_plain : List Str := ["thing"]
theorem sc_is_plain : FnScope N_is_plain P_is_plain (defScope s_is_plain) := ⟨rfl, rfl, rfl, by decide +kernel, rfl, by decide +kernel, by decide +kernel⟩
abbrev s_common_part : Stmt := topS 11
abbrev N_common_part : List Str := ["one", "other"]
abbrev P_common_part : List Str := ["one", "other"]
theorem sc_common_part : FnScope N_common_part P_common_part (defScope s_common_part) := ⟨rfl, rfl, rfl, by decide +kernel, rfl, by decide +kernel, by decide +kernel⟩
abbrev s_is_part : Stmt := topS 12
abbrev N_is_part : List Str := ["thing", "top", "base"]
abbrev P_is_part : List Str := ["thing"]
theorem sc_is_part : FnScope N_is_part P_is_part (defScope s_is_part) := ⟨rfl, rfl, rfl, by decide +kernel, rfl, by decide +kernel, by decide +kernel⟩
abbrev s_is_number : Stmt := topS 13
abbrev N_is_number : List Str := ["thing"]
abbrev P_is_number : List Str := ["thing"]
theorem sc_is_number : FnScope N_is_number P_is_number (defScope s_is_number) := ⟨rfl, rfl, rfl, by decide +kernel, rfl, by decide +kernel, by decide +kernel⟩
abbrev s_pair_of : Stmt := topS 15
abbrev N_pair_of : List Str := ["number"]
abbrev P_pair_of : List Str := ["number"]
theorem sc_pair_of : FnScope N_pair_of P_pair_of (defScope s_pair_of) := ⟨rfl, rfl, rfl, by decide +kernel, rfl, by decide +kernel, by decide +kernel⟩
abbrev s_is_short : Stmt := topS 26
abbrev N_is_short : List Str := ["thing", "part"]
abbrev P_is_short : List Str := ["thing"]
theorem sc_is_short : FnScope N_is_short P_is_short (defScope s_is_short) := ⟨rfl, rfl, rfl, by decide +kernel, rfl, by decide +kernel, by decide +kernel⟩
abbrev s_need_mark_places : Stmt := topS 44
abbrev N_need_mark_places : List Str := ["places", "place"]
abbrev P_need_mark_places : List Str := ["places"]
theorem sc_need_mark_places : FnScope N_need_mark_places P_need_mark_places (defScope s_need_mark_places) := ⟨rfl, rfl, rfl, by decide +kernel, rfl, by decide +kernel, by decide +kernel⟩
abbrev s_is_whole : Stmt := topS 10
abbrev N_is_whole : List Str := ["thing", "low", "high"]
abbrev P_is_whole : List Str := ["thing", "low", "high"]
theorem sc_is_whole : FnScope N_is_whole P_is_whole (defScope s_is_whole) := ⟨rfl, rfl, rfl, by decide +kernel, rfl, by decide +kernel, by decide +kernel⟩
abbrev s_is_rule : Stmt := topS 32
abbrev N_is_rule : List Str := ["thing", "many", "low", "high", "apart"]
abbrev P_is_rule : List Str := ["thing", "many"]
theorem sc_is_rule : FnScope N_is_rule P_is_rule (defScope s_is_rule) := ⟨rfl, rfl, rfl, by decide +kernel, rfl, by decide +kernel, by decide +kernel⟩
abbrev s_need_rules : Stmt := topS 33
abbrev N_need_rules : List Str := ["rules", "many", "rule"]
abbrev P_need_rules : List Str := ["rules", "many"]
theorem sc_need_rules : FnScope N_need_rules P_need_rules (defScope s_need_rules) := ⟨rfl, rfl, rfl, by decide +kernel, rfl, by decide +kernel, by decide +kernel⟩
abbrev s_raised : Stmt := topS 35
abbrev N_raised : List Str := ["lows", "rules", "cells", "raised_by", "rising_mark", "turn", "number", "low", "high", "apart"]
abbrev P_raised : List Str := ["lows", "rules"]
theorem sc_raised : FnScope N_raised P_raised (defScope s_raised) := ⟨rfl, rfl, rfl, by decide +kernel, rfl, by decide +kernel, by decide +kernel⟩
abbrev s_led_back : Stmt := topS 36
abbrev N_led_back : List Str := ["raised_by", "rules", "begin", "end", "found"]
abbrev P_led_back : List Str := ["raised_by", "rules", "begin", "end"]
theorem sc_led_back : FnScope N_led_back P_led_back (defScope s_led_back) := ⟨rfl, rfl, rfl, by decide +kernel, rfl, by decide +kernel, by decide +kernel⟩
abbrev s_found_cycle : Stmt := topS 37
abbrev N_found_cycle : List Str := ["many", "rules", "cells", "raised_by", "mark", "turn"]
abbrev P_found_cycle : List Str := ["many", "rules"]
theorem sc_found_cycle : FnScope N_found_cycle P_found_cycle (defScope s_found_cycle) := ⟨rfl, rfl, rfl, by decide +kernel, rfl, by decide +kernel, by decide +kernel⟩
abbrev s_need_kept : Stmt := topS 38
abbrev N_need_kept : List Str := ["many", "rules", "cycle"]
abbrev P_need_kept : List Str := ["many", "rules"]
theorem sc_need_kept : FnScope N_need_kept P_need_kept (defScope s_need_kept) := ⟨rfl, rfl, rfl, by decide +kernel, rfl, by decide +kernel, by decide +kernel⟩
abbrev s_raised_from : Stmt := topS 39
abbrev N_raised_from : List Str := ["many", "rules", "mark", "cells", "raised_by", "still", "other"]
abbrev P_raised_from : List Str := ["many", "rules", "mark"]
theorem sc_raised_from : FnScope N_raised_from P_raised_from (defScope s_raised_from) := ⟨rfl, rfl, rfl, by decide +kernel, rfl, by decide +kernel, by decide +kernel⟩
abbrev s_reckoned : Stmt := topS 14
abbrev N_reckoned : List Str := ["top", "base", "part"]
abbrev P_reckoned : List Str := ["top", "base"]
theorem sc_reckoned : FnScope N_reckoned P_reckoned (defScope s_reckoned) := ⟨rfl, rfl, rfl, by decide +kernel, rfl, by decide +kernel, by decide +kernel⟩
abbrev s_times : Stmt := topS 18
abbrev N_times : List Str := ["one", "other", "top", "base", "more", "under"]
abbrev P_times : List Str := ["one", "other"]
theorem sc_times : FnScope N_times P_times (defScope s_times) := ⟨rfl, rfl, rfl, by decide +kernel, rfl, by decide +kernel, by decide +kernel⟩
abbrev s_floor_of : Stmt := topS 21
abbrev N_floor_of : List Str := ["number", "step", "top", "base", "more", "under"]
abbrev P_floor_of : List Str := ["number", "step"]
theorem sc_floor_of : FnScope N_floor_of P_floor_of (defScope s_floor_of) := ⟨rfl, rfl, rfl, by decide +kernel, rfl, by decide +kernel, by decide +kernel⟩
abbrev s_over : Stmt := topS 19
abbrev N_over : List Str := ["one", "other", "top", "base", "more", "under"]
abbrev P_over : List Str := ["one", "other"]
theorem sc_over : FnScope N_over P_over (defScope s_over) := ⟨rfl, rfl, rfl, by decide +kernel, rfl, by decide +kernel, by decide +kernel⟩
abbrev s_minus : Stmt := topS 17
abbrev N_minus : List Str := ["one", "other", "top", "base", "more", "under"]
abbrev P_minus : List Str := ["one", "other"]
theorem sc_minus : FnScope N_minus P_minus (defScope s_minus) := ⟨rfl, rfl, rfl, by decide +kernel, rfl, by decide +kernel, by decide +kernel⟩
abbrev s_plus : Stmt := topS 16
abbrev N_plus : List Str := ["one", "other", "top", "base", "more", "under"]
abbrev P_plus : List Str := ["one", "other"]
theorem sc_plus : FnScope N_plus P_plus (defScope s_plus) := ⟨rfl, rfl, rfl, by decide +kernel, rfl, by decide +kernel, by decide +kernel⟩
abbrev s_less : Stmt := topS 20
abbrev N_less : List Str := ["one", "other", "top", "base", "more", "under"]
abbrev P_less : List Str := ["one", "other"]
theorem sc_less : FnScope N_less P_less (defScope s_less) := ⟨rfl, rfl, rfl, by decide +kernel, rfl, by decide +kernel, by decide +kernel⟩
abbrev s_needed_for : Stmt := topS 43
abbrev N_needed_for : List Str := ["first", "apart", "last", "cell", "below", "above"]
abbrev P_needed_for : List Str := ["first", "apart", "last"]
theorem sc_needed_for : FnScope N_needed_for P_needed_for (defScope s_needed_for) := ⟨rfl, rfl, rfl, by decide +kernel, rfl, by decide +kernel, by decide +kernel⟩
abbrev s_tight_chain : Stmt := topS 45
abbrev N_tight_chain : List Str := ["places", "rules", "best", "first", "place", "cells", "raised_by", "last", "apart", "needed", "chain"]
abbrev P_tight_chain : List Str := ["places", "rules"]
theorem sc_tight_chain : FnScope N_tight_chain P_tight_chain (defScope s_tight_chain) := ⟨rfl, rfl, rfl, by decide +kernel, rfl, by decide +kernel, by decide +kernel⟩
abbrev s_nearest_fit : Stmt := topS 46
abbrev N_nearest_fit : List Str := ["places", "rules", "movement", "first", "chain", "last", "lows", "place"]
abbrev P_nearest_fit : List Str := ["places", "rules"]
theorem sc_nearest_fit : FnScope N_nearest_fit P_nearest_fit (defScope s_nearest_fit) := ⟨rfl, rfl, rfl, by decide +kernel, rfl, by decide +kernel, by decide +kernel⟩
abbrev s_law_fit : Stmt := topS 72
abbrev N_law_fit : List Str := ["places", "rules", "told", "place"]
abbrev P_law_fit : List Str := ["places", "rules"]
theorem sc_law_fit : FnScope N_law_fit P_law_fit (defScope s_law_fit) := ⟨rfl, rfl, rfl, by decide +kernel, rfl, by decide +kernel, by decide +kernel⟩
abbrev s_law_same : Stmt := topS 51
abbrev N_law_same : List Str := ["given", "due", "k"]
abbrev P_law_same : List Str := ["given", "due"]
theorem sc_law_same : FnScope N_law_same P_law_same (defScope s_law_same) := ⟨rfl, rfl, rfl, by decide +kernel, rfl, by decide +kernel, by decide +kernel⟩
abbrev s_law_far : Stmt := topS 63
abbrev N_law_far : List Str := ["many", "rules", "k", "j", "far", "low", "high", "apart", "mid"]
abbrev P_law_far : List Str := ["many", "rules"]
theorem sc_law_far : FnScope N_law_far P_law_far (defScope s_law_far) := ⟨rfl, rfl, rfl, by decide +kernel, rfl, by decide +kernel, by decide +kernel⟩
abbrev s_need_marks : Stmt := topS 34
abbrev N_need_marks : List Str := ["many", "rules"]
abbrev P_need_marks : List Str := ["many", "rules"]
theorem sc_need_marks : FnScope N_need_marks P_need_marks (defScope s_need_marks) := ⟨rfl, rfl, rfl, by decide +kernel, rfl, by decide +kernel, by decide +kernel⟩
abbrev s_follows : Stmt := topS 40
abbrev N_follows : List Str := ["many", "rules", "rule", "low", "high", "apart", "cells", "raised_by"]
abbrev P_follows : List Str := ["many", "rules", "rule"]
theorem sc_follows : FnScope N_follows P_follows (defScope s_follows) := ⟨rfl, rfl, rfl, by decide +kernel, rfl, by decide +kernel, by decide +kernel⟩
abbrev s_law_thinned : Stmt := topS 74
abbrev N_law_thinned : List Str := ["many", "rules", "left", "rule", "others", "far"]
abbrev P_law_thinned : List Str := ["many", "rules"]
theorem sc_law_thinned : FnScope N_law_thinned P_law_thinned (defScope s_law_thinned) := ⟨rfl, rfl, rfl, by decide +kernel, rfl, by decide +kernel, by decide +kernel⟩
abbrev s_law_all_implied : Stmt := topS 73
abbrev N_law_all_implied : List Str := ["far", "many", "found", "k", "rule", "j"]
abbrev P_law_all_implied : List Str := ["far"]
theorem sc_law_all_implied : FnScope N_law_all_implied P_law_all_implied (defScope s_law_all_implied) := ⟨rfl, rfl, rfl, by decide +kernel, rfl, by decide +kernel, by decide +kernel⟩
abbrev s_implied_cells : Stmt := topS 41
abbrev N_implied_cells : List Str := ["many", "rules", "low", "high", "cells", "raised_by"]
abbrev P_implied_cells : List Str := ["many", "rules", "low", "high"]
theorem sc_implied_cells : FnScope N_implied_cells P_implied_cells (defScope s_implied_cells) := ⟨rfl, rfl, rfl, by decide +kernel, rfl, by decide +kernel, by decide +kernel⟩
abbrev s_apart_by : Stmt := topS 42
abbrev N_apart_by : List Str := ["many", "rules", "low", "high"]
abbrev P_apart_by : List Str := ["many", "rules", "low", "high"]
theorem sc_apart_by : FnScope N_apart_by P_apart_by (defScope s_apart_by) := ⟨rfl, rfl, rfl, by decide +kernel, rfl, by decide +kernel, by decide +kernel⟩
abbrev s_law_more_right : Stmt := topS 75
abbrev N_law_more_right : List Str := ["box", "places", "rules", "told", "movement", "many", "low", "high", "gap", "rule", "far", "other", "due", "ahead", "behind"]
abbrev P_law_more_right : List Str := ["box", "places", "rules", "told", "movement"]
theorem sc_law_more_right : FnScope N_law_more_right P_law_more_right (defScope s_law_more_right) := ⟨rfl, rfl, rfl, by decide +kernel, rfl, by decide +kernel, by decide +kernel⟩
abbrev s_law_right : Stmt := topS 76
abbrev N_law_right : List Str := ["box", "places", "rules", "far", "many", "movement", "due", "told", "thinned", "others", "by", "moved", "order", "turned", "place", "low", "high", "apart", "cell", "k"]
abbrev P_law_right : List Str := ["box", "places", "rules", "far"]
theorem sc_law_right : FnScope N_law_right P_law_right (defScope s_law_right) := ⟨rfl, rfl, rfl, by decide +kernel, rfl, by decide +kernel, by decide +kernel⟩
abbrev s_law : Stmt := topS 77
abbrev N_law : List Str := ["script", "k", "box", "many", "hidden", "rules", "places", "rule"]
abbrev P_law : List Str := ["script"]
theorem sc_law : FnScope N_law P_law (defScope s_law) := ⟨rfl, rfl, rfl, by decide +kernel, rfl, by decide +kernel, by decide +kernel⟩
def clsS (st : Stmt) (j : Nat) : Stmt := match st with
  | .ClassDef _ _ _ body _ _ _ _ _ _ _ => body.getD j (.Pass ⟨0, 0, 0, 0⟩)
  | s => s
abbrev si_NoFit : Stmt := clsS (topS 6) 0
abbrev Pi_NoFit : List Str := ["self", "cycle"]
theorem sci_NoFit : FnScope Pi_NoFit Pi_NoFit (defScope si_NoFit) := ⟨rfl, rfl, rfl, by decide +kernel, rfl, by decide +kernel, by decide +kernel⟩
/-- what the top has left -/
structure Tx (K : PySem.W.Frag) (mg : Str → Option Value) where
  law_box : FnT K mg "_law_box" s_law_box P_law_box
  law_cell : FnT K mg "_law_cell" s_law_cell P_law_cell
  law_take : FnT K mg "_law_take" s_law_take P_law_take
  law_mixed : FnT K mg "_law_mixed" s_law_mixed P_law_mixed
  law_round_rules : FnT K mg "_law_round_rules" s_law_round_rules P_law_round_rules
  law_drawn_rules : FnT K mg "_law_drawn_rules" s_law_drawn_rules P_law_drawn_rules
  law_low : FnT K mg "_law_low" s_law_low P_law_low
  law_places : FnT K mg "_law_places" s_law_places P_law_places
  law_less : FnT K mg "_law_less" s_law_less P_law_less
  law_most : FnT K mg "_law_most" s_law_most P_law_most
  law_floor : FnT K mg "_law_floor" s_law_floor P_law_floor
  law_over : FnT K mg "_law_over" s_law_over P_law_over
  law_plus : FnT K mg "_law_plus" s_law_plus P_law_plus
  law_minus : FnT K mg "_law_minus" s_law_minus P_law_minus
  law_needed : FnT K mg "_law_needed" s_law_needed P_law_needed
  law_least_movement : FnT K mg "_law_least_movement" s_law_least_movement P_law_least_movement
  law_cells_due : FnT K mg "_law_cells_due" s_law_cells_due P_law_cells_due
  law_num : FnT K mg "_law_num" s_law_num P_law_num
  is_list : FnT K mg "is_list" s_is_list P_is_list
  is_plain : FnT K mg "is_plain" s_is_plain P_is_plain
  common_part : FnT K mg "common_part" s_common_part P_common_part
  is_part : FnT K mg "is_part" s_is_part P_is_part
  is_number : FnT K mg "is_number" s_is_number P_is_number
  pair_of : FnT K mg "pair_of" s_pair_of P_pair_of
  is_short : FnT K mg "is_short" s_is_short P_is_short
  need_mark_places : FnT K mg "need_mark_places" s_need_mark_places P_need_mark_places
  is_whole : FnT K mg "is_whole" s_is_whole P_is_whole
  is_rule : FnT K mg "is_rule" s_is_rule P_is_rule
  need_rules : FnT K mg "need_rules" s_need_rules P_need_rules
  raised : FnT K mg "raised" s_raised P_raised
  led_back : FnT K mg "led_back" s_led_back P_led_back
  found_cycle : FnT K mg "found_cycle" s_found_cycle P_found_cycle
  need_kept : FnT K mg "need_kept" s_need_kept P_need_kept
  raised_from : FnT K mg "raised_from" s_raised_from P_raised_from
  reckoned : FnT K mg "reckoned" s_reckoned P_reckoned
  times : FnT K mg "times" s_times P_times
  floor_of : FnK K mg "floor_of" s_floor_of [("step", .int 1)]
  floor_of_kb0 : KBk K floor_of.fd P_floor_of 1 [] [0, 1] [.int 1]
  over : FnT K mg "over" s_over P_over
  minus : FnT K mg "minus" s_minus P_minus
  plus : FnT K mg "plus" s_plus P_plus
  less : FnT K mg "less" s_less P_less
  needed_for : FnT K mg "needed_for" s_needed_for P_needed_for
  tight_chain : FnT K mg "tight_chain" s_tight_chain P_tight_chain
  nearest_fit : FnT K mg "nearest_fit" s_nearest_fit P_nearest_fit
  law_fit : FnT K mg "_law_fit" s_law_fit P_law_fit
  law_same : FnT K mg "_law_same" s_law_same P_law_same
  law_far : FnT K mg "_law_far" s_law_far P_law_far
  need_marks : FnT K mg "need_marks" s_need_marks P_need_marks
  follows : FnT K mg "follows" s_follows P_follows
  law_thinned : FnT K mg "_law_thinned" s_law_thinned P_law_thinned
  law_all_implied : FnT K mg "_law_all_implied" s_law_all_implied P_law_all_implied
  implied_cells : FnT K mg "implied_cells" s_implied_cells P_implied_cells
  apart_by : FnT K mg "apart_by" s_apart_by P_apart_by
  law_more_right : FnT K mg "_law_more_right" s_law_more_right P_law_more_right
  law_right : FnT K mg "_law_right" s_law_right P_law_right
  n_abs : mg "abs" = none
  n_all : mg "all" = none
  n_bool : mg "bool" = none
  n_enumerate : mg "enumerate" = none
  n_int : mg "int" = none
  n_isinstance : mg "isinstance" = none
  n_len : mg "len" = none
  n_list : mg "list" = none
  n_max : mg "max" = none
  n_min : mg "min" = none
  n_range : mg "range" = none
  n_str : mg "str" = none
  n_sum : mg "sum" = none
  n_tuple : mg "tuple" = none
  t_CELL : Tok
  c_CELL : mg "CELL" = some (.int 64 t_CELL)
  t_MOST_APART : Tok
  c_MOST_APART : mg "MOST_APART" = some (.int 400 t_MOST_APART)
  t_MOST_MARKS : Tok
  c_MOST_MARKS : mg "MOST_MARKS" = some (.int 24 t_MOST_MARKS)
  t_MOST_RULES : Tok
  c_MOST_RULES : mg "MOST_RULES" = some (.int 100 t_MOST_RULES)
  t_SHORT : Tok
  c_SHORT : mg "SHORT" = some (.int 100000000000000000000 t_SHORT)
  x_NoFit : XC1 K mg "NoFit" "FontError" "cycle"
  i_NoFit_fd : FuncData
  i_NoFit_F : FunD K "__init__" "NoFit.__init__" (defArgs si_NoFit) (defBody si_NoFit) (defScope si_NoFit) [] [] (He.fAd K ("NoFit", some "__init__")) i_NoFit_fd
  i_NoFit_b : Binds K i_NoFit_fd Pi_NoFit []
section
variable {P : Program} {w : World} {K : PySem.W.Frag} {mg : Str → Option Value} {base : Heap}
theorem ok_i_NoFit (T : Tx K mg) : FnOk P w K mg base CX0 1 (He.fAd K ("NoFit", some "__init__")) T.i_NoFit_fd Pi_NoFit (spI (He.ga K "NoFit") "cycle") :=
  ok_init1 (k := 0) (m := "no cells keep all rules") T.x_NoFit.o T.x_NoFit.no T.i_NoFit_F sci_NoFit fun cdv A outer s H E => pss_cons (ps_expr (pe_bsinit T.x_NoFit.bs rfl T.x_NoFit.bm (pa_cons (pe_var rfl (.inl rfl)) (pa_cons pe_str pa_nil)))) (pss_one (ps_ost (pe_var rfl (.inl rfl)) (pe_var rfl (.inl rfl))))
theorem ok_law_box (T : Tx K mg) : FnOk P w K mg base CX0 1 T.law_box.f T.law_box.fd P_law_box (cSp K sp_law_box) :=
  DFun.ok1 T.law_box.F sc_law_box rfl rfl (k := 0) (t := t_law_box) (fun cdv A outer s H E hr => 
    (dss_one (ds_ret (de_lstM (da_cons (de_callB (dcall_max2 rfl) (by rfl) T.n_max (by decide +kernel) (da_cons de_int (da_cons (de_op dop_sub (de_var (pv 0)) (de_op dop_pow de_int de_int)) da_nil))) (da_cons (de_op dop_mod (de_callTy dcall_int (by rfl) T.n_int (by decide +kernel) (da_cons (de_var (pv 0)) da_nil)) de_int) (da_cons de_int da_nil))))))) rd_law_box
theorem ok_law_cell (T : Tx K mg) : FnOk P w K mg base CX0 1 T.law_cell.f T.law_cell.fd P_law_cell (cSp K sp_law_cell) :=
  DFun.ok2 T.law_cell.F sc_law_cell rfl rfl (k := 0) (t := t_law_cell) (fun cdv A outer s H E hr => 
    (dss_cons (ds_if (dt_cmp dop_lt (de_var (pv 1)) (de_callB dcall_len (by rfl) T.n_len (by decide +kernel) (da_cons (de_var (pv 0)) da_nil)) (nomark _)) (dss_one (ds_ret (de_ix dix_seq (de_var (pv 0)) (de_var (pv 1)) (fun _ _ => rfl)))) dss_nil)
      (dss_one (ds_ret (de_op dop_add (de_op dop_mul de_int (de_var (pv 1))) de_int))))) rd_law_cell
theorem ok_law_take (T : Tx K mg) : FnOk P w K mg base CX0 1 T.law_take.f T.law_take.fd P_law_take (cSp K sp_law_take) :=
  DFun.ok2 T.law_take.F sc_law_take rfl rfl (k := 0) (t := t_law_take) (fun cdv A outer s H E hr => 
    (dss_cons (ds_if (dt_cmp dop_gt (de_ix dix_seq (de_var (pv 0)) de_int (fun _ _ => rfl)) de_int (nomark _)) (dss_cons (ds_set (i := 2) sc_law_take.nd rfl (by first | exact Or.inl rfl | exact Or.inr rfl) (de_op dop_mod (de_callTy dcall_int (by rfl) T.n_int (by decide +kernel) (da_cons (de_ix dix_seq (de_var (pv 0)) de_int (fun _ _ => rfl)) da_nil)) (de_var (pv 1))))
      (dss_cons (ds_sub (de_op dop_fdiv (de_ix dix_seq (de_var (pv 0)) de_int (fun _ _ => rfl)) (de_var (pv 1))) (de_var (pv 0)) de_int)
      (dss_one (ds_ret (de_var (pv 2)))))) dss_nil)
      (dss_cons (ds_sub (de_op dop_add (de_ix dix_seq (de_var (pv 0)) de_int (fun _ _ => rfl)) de_int) (de_var (pv 0)) de_int)
      (dss_cons (ds_set (i := 3) sc_law_take.nd rfl (by first | exact Or.inl rfl | exact Or.inr rfl) (de_op dop_mod (de_callTy dcall_int (by rfl) T.n_int (by decide +kernel) (da_cons (de_op dop_pow (de_op dop_add (de_op dop_add (de_ix dix_seq (de_var (pv 0)) de_int (fun _ _ => rfl)) (de_op dop_mul de_int (de_ix dix_seq (de_var (pv 0)) de_int (fun _ _ => rfl)))) de_int) de_int) da_nil)) de_int))
      (dss_cons (ds_set (i := 4) sc_law_take.nd rfl (by first | exact Or.inl rfl | exact Or.inr rfl) (de_op dop_mod (de_callTy dcall_int (by rfl) T.n_int (by decide +kernel) (da_cons (de_op dop_pow (de_op dop_add (de_op dop_mul (de_ix dix_seq (de_var (pv 0)) de_int (fun _ _ => rfl)) (de_ix dix_seq (de_var (pv 0)) de_int (fun _ _ => rfl))) de_int) de_int) da_nil)) de_int))
      (dss_one (ds_ret (de_op dop_mod (de_op dop_fdiv (de_op dop_add (de_op dop_mul (de_var (pv 3)) de_int) (de_var (pv 4))) de_int) (de_var (pv 1)))))))))) rd_law_take
theorem ok_law_mixed (T : Tx K mg) : FnOk P w K mg base CX0 2 T.law_mixed.f T.law_mixed.fd P_law_mixed (cSp K sp_law_mixed) :=
  DFun.ok2 T.law_mixed.F sc_law_mixed rfl rfl (k := 1) (t := t_law_mixed K sp_law_take) (fun cdv A outer s H E hr => 
    (dss_cons (ds_par (i := 2) (j := 3) rfl sc_law_mixed.nd rfl rfl (by decide) rfl rfl (da_cons (de_callTy (dcall_list true) (by rfl) T.n_list (by decide +kernel) (da_cons (de_var (pv 1)) da_nil)) (da_cons (de_lstM da_nil) da_nil)) (by rfl))
      (dss_cons (ds_while PassesOwn.never (dt_cmp (dop_neQ hr.units) (de_var (pv 2)) (de_lst da_nil) (nomark _)) (dss_one (ds_expr (de_mtL PySem.F.slot_list_append PySem.F.type_list_append dmt_append (de_var (pv 3)) (da_cons (de_mtL PySem.F.slot_list_pop PySem.F.type_list_pop dmt_pop (de_var (pv 2)) (da_cons (de_call (ok_law_take T) (hr.mono (by decide)) rfl T.law_take.m T.law_take.F.kp T.law_take.b .nil (fun _ => .nil) pass0 (da_cons (de_var (pv 0)) (da_cons (de_callB dcall_len (by rfl) T.n_len (by decide +kernel) (da_cons (de_var (pv 2)) da_nil)) da_nil))) da_nil)) da_nil)))))
      (dss_one (ds_ghost (ds_ret (de_var (pv 3)))))))) rd_law_mixed
theorem ok_law_round_rules (T : Tx K mg) : FnOk P w K mg base CX0 3 T.law_round_rules.f T.law_round_rules.fd P_law_round_rules (cSp K sp_law_round_rules) :=
  DFun.ok2 T.law_round_rules.F sc_law_round_rules rfl rfl (k := 2) (t := t_law_round_rules K sp_law_mixed sp_law_take) (fun cdv A outer s H E hr => 
    (dss_cons (ds_set (i := 2) sc_law_round_rules.nd rfl (by first | exact Or.inl rfl | exact Or.inr rfl) (de_slice false (de_call (ok_law_mixed T) (hr.mono (by decide)) rfl T.law_mixed.m T.law_mixed.F.kp T.law_mixed.b .nil (fun _ => .nil) pass0 (da_cons (de_var (pv 0)) (da_cons (de_listRg1 false rfl (by rfl) T.n_list (by rfl) T.n_range (de_var (pv 1))) da_nil))) do_none (do_some (de_op dop_add de_int (de_call (ok_law_take T) (hr.mono (by decide)) rfl T.law_take.m T.law_take.F.kp T.law_take.b .nil (fun _ => .nil) pass0 (da_cons (de_var (pv 0)) (da_cons de_int da_nil)))))))
      (dss_cons (ds_set (i := 3) sc_law_round_rules.nd rfl (by first | exact Or.inl rfl | exact Or.inr rfl) (de_lc true (own := [("k", 4)]) (g := (.nm 4)) rfl sc_law_round_rules.nd (di_range1 (by rfl) T.n_range (de_op dop_sub (de_callB dcall_len (by rfl) T.n_len (by decide +kernel) (da_cons (de_var (pv 2)) da_nil)) de_int)) (blkOk_by (N := N_law_round_rules) (sc := defScope s_law_round_rules) (own := [("k", 4)]) (by decide +kernel)) (fun _ _ _ _ _ => (pg_nm (pg_name (i := 4) sc_law_round_rules.nd rfl (by first | exact Or.inl rfl | exact Or.inr rfl)))) (fun _ _ _ _ _ => dts_nil) (fun _ _ _ _ _ => (de_op dop_sub (de_call (ok_law_take T) (hr.mono (by decide)) rfl T.law_take.m T.law_take.F.kp T.law_take.b .nil (fun _ => .nil) pass0 (da_cons (de_var (pv 0)) (da_cons de_int da_nil))) de_int)) (by decide)))
      (dss_cons (ds_expr (de_mtL PySem.F.slot_list_append PySem.F.type_list_append dmt_append (de_var (pv 3)) (da_cons (de_op dop_sub (de_op dop_sub (de_call (ok_law_take T) (hr.mono (by decide)) rfl T.law_take.m T.law_take.F.kp T.law_take.b .nil (fun _ => .nil) pass0 (da_cons (de_var (pv 0)) (da_cons de_int da_nil))) de_int) (de_callB (dcall_sum rfl) (by rfl) T.n_sum (by decide +kernel) (da_cons (de_var (pv 3)) da_nil))) da_nil)))
      (dss_one (ds_ghost (ds_ret (de_lc false (own := [("k", 4)]) (g := (.nm 4)) rfl sc_law_round_rules.nd (di_range1 (by rfl) T.n_range (de_callB dcall_len (by rfl) T.n_len (by decide +kernel) (da_cons (de_var (pv 2)) da_nil))) (blkOk_by (N := N_law_round_rules) (sc := defScope s_law_round_rules) (own := [("k", 4)]) (by decide +kernel)) (fun _ _ _ _ _ => (pg_nm (pg_name (i := 4) sc_law_round_rules.nd rfl (by first | exact Or.inl rfl | exact Or.inr rfl)))) (fun _ _ _ _ _ => dts_nil) (fun _ _ _ _ _ => (de_tup (da_cons (de_ix dix_seq (de_var (pv 2)) (de_var (pv 4)) (fun _ _ => rfl)) (da_cons (de_ix dix_seq (de_op dop_add (de_var (pv 2)) (de_slice false (de_var (pv 2)) do_none (do_some de_int))) (de_op dop_add (de_var (pv 4)) de_int) (fun _ _ => rfl)) (da_cons (de_ix dix_seq (de_var (pv 3)) (de_var (pv 4)) (fun _ _ => rfl)) da_nil))))) (by decide))))))))) rd_law_round_rules
theorem ok_law_drawn_rules (T : Tx K mg) : FnOk P w K mg base CX0 4 T.law_drawn_rules.f T.law_drawn_rules.fd P_law_drawn_rules (cSp K sp_law_drawn_rules) :=
  DFun.ok3 T.law_drawn_rules.F sc_law_drawn_rules rfl rfl (k := 3) (t := t_law_drawn_rules K sp_law_take sp_law_round_rules sp_law_mixed) (fun cdv A outer s H E hr => 
    (dss_cons (ds_setLc false (i := 4) (own := [("k", 3)]) (g := (.nm 3)) rfl sc_law_drawn_rules.nd rfl rfl (sw_true rfl rfl rfl (by decide +kernel)) (di_range1 (by rfl) T.n_range (de_var (pv 1))) (blkOk_by (N := N_law_drawn_rules) (sc := defScope s_law_drawn_rules) (own := [("k", 3)]) (by decide +kernel)) (fun _ _ _ _ _ => (pg_nm (pg_name (i := 3) sc_law_drawn_rules.nd rfl (by first | exact Or.inl rfl | exact Or.inr rfl)))) (fun _ _ _ _ _ => dts_nil) (fun _ _ _ _ _ => (de_op dop_sub (de_call (ok_law_take T) (hr.mono (by decide)) rfl T.law_take.m T.law_take.F.kp T.law_take.b .nil (fun _ => .nil) pass0 (da_cons (de_var (pv 0)) (da_cons de_int da_nil))) de_int)) (by decide))
      (dss_cons (ds_set (i := 5) sc_law_drawn_rules.nd rfl (by first | exact Or.inl rfl | exact Or.inr rfl) (de_lstM da_nil))
      (dss_cons (ds_if (dt_cmp (dop_eqQ hr.units) (de_var (pv 1)) de_int (nomark _)) (dss_one (ds_ghost (ds_ret (de_tup (da_cons (de_var (pv 4)) (da_cons (de_var (pv 5)) da_nil)))))) dss_nil)
      (dss_cons (ds_set (i := 6) sc_law_drawn_rules.nd rfl (by first | exact Or.inl rfl | exact Or.inr rfl) (de_cmp (dop_eqQ hr.units) (de_call (ok_law_take T) (hr.mono (by decide)) rfl T.law_take.m T.law_take.F.kp T.law_take.b .nil (fun _ => .nil) pass0 (da_cons (de_var (pv 0)) (da_cons de_int da_nil))) de_int (nomark _)))
      (dss_cons (ds_for (g := (.nm 3)) PassesOwn.never rfl (di_range1 (by rfl) T.n_range (de_var (pv 2))) (pg_nm (pg_name (i := 3) sc_law_drawn_rules.nd rfl (by first | exact Or.inl rfl | exact Or.inr rfl))) (dss_cons (ds_set (i := 7) sc_law_drawn_rules.nd rfl (by first | exact Or.inl rfl | exact Or.inr rfl) (de_call (ok_law_take T) (hr.mono (by decide)) rfl T.law_take.m T.law_take.F.kp T.law_take.b .nil (fun _ => .nil) pass0 (da_cons (de_var (pv 0)) (da_cons (de_var (pv 1)) da_nil))))
      (dss_cons (ds_set (i := 8) sc_law_drawn_rules.nd rfl (by first | exact Or.inl rfl | exact Or.inr rfl) (de_op dop_mod (de_callTy dcall_int (by rfl) T.n_int (by decide +kernel) (da_cons (de_op dop_add (de_op dop_add (de_var (pv 7)) de_int) (de_call (ok_law_take T) (hr.mono (by decide)) rfl T.law_take.m T.law_take.F.kp T.law_take.b .nil (fun _ => .nil) pass0 (da_cons (de_var (pv 0)) (da_cons (de_op dop_sub (de_var (pv 1)) de_int) da_nil)))) da_nil)) (de_var (pv 1))))
      (dss_cons (ds_set (i := 9) sc_law_drawn_rules.nd rfl (by first | exact Or.inl rfl | exact Or.inr rfl) (de_ix dix_seq (de_lst (da_cons de_int (da_cons (de_call (ok_law_take T) (hr.mono (by decide)) rfl T.law_take.m T.law_take.F.kp T.law_take.b .nil (fun _ => .nil) pass0 (da_cons (de_var (pv 0)) (da_cons de_int da_nil))) (da_cons (de_call (ok_law_take T) (hr.mono (by decide)) rfl T.law_take.m T.law_take.F.kp T.law_take.b .nil (fun _ => .nil) pass0 (da_cons (de_var (pv 0)) (da_cons de_int da_nil))) da_nil)))) (de_call (ok_law_take T) (hr.mono (by decide)) rfl T.law_take.m T.law_take.F.kp T.law_take.b .nil (fun _ => .nil) pass0 (da_cons (de_var (pv 0)) (da_cons de_int da_nil))) (fun _ _ => rfl)))
      (dss_cons (ds_if (dt_w (dw_and (dt_truth (de_var (pv 6))) (dw_and1 (dt_cmp (dop_eqQ hr.units) (de_call (ok_law_take T) (hr.mono (by decide)) rfl T.law_take.m T.law_take.F.kp T.law_take.b .nil (fun _ => .nil) pass0 (da_cons (de_var (pv 0)) (da_cons de_int da_nil))) de_int (nomark _))))) (dss_one (ds_set (i := 9) sc_law_drawn_rules.nd rfl (by first | exact Or.inl rfl | exact Or.inr rfl) (de_op dop_sub (de_op dop_sub de_int de_int) (de_call (ok_law_take T) (hr.mono (by decide)) rfl T.law_take.m T.law_take.F.kp T.law_take.b .nil (fun _ => .nil) pass0 (da_cons (de_var (pv 0)) (da_cons de_int da_nil)))))) dss_nil)
      (dss_one (ds_expr (de_mtL PySem.F.slot_list_append PySem.F.type_list_append dmt_append (de_var (pv 5)) (da_cons (de_tup (da_cons (de_var (pv 7)) (da_cons (de_var (pv 8)) (da_cons (de_op dop_sub (de_op dop_sub (de_ix dix_seq (de_var (pv 4)) (de_var (pv 8)) (fun _ _ => rfl)) (de_ix dix_seq (de_var (pv 4)) (de_var (pv 7)) (fun _ _ => rfl))) (de_var (pv 9))) da_nil)))) da_nil)))))))))
      (dss_cons (ds_if (dt_cmp (dop_eqQ hr.units) (de_call (ok_law_take T) (hr.mono (by decide)) rfl T.law_take.m T.law_take.F.kp T.law_take.b .nil (fun _ => .nil) pass0 (da_cons (de_var (pv 0)) (da_cons de_int da_nil))) de_int (nomark _)) (dss_one (ds_set (i := 5) sc_law_drawn_rules.nd rfl (by first | exact Or.inl rfl | exact Or.inr rfl) (de_op dop_catM (de_var (pv 5)) (de_call (ok_law_round_rules T) (hr.mono (by decide)) rfl T.law_round_rules.m T.law_round_rules.F.kp T.law_round_rules.b .nil (fun _ => .nil) pass0 (da_cons (de_var (pv 0)) (da_cons (de_var (pv 1)) da_nil)))))) dss_nil)
      (dss_one (ds_ghost (ds_ret (de_tup (da_cons (de_var (pv 4)) (da_cons (de_call (ok_law_mixed T) (hr.mono (by decide)) rfl T.law_mixed.m T.law_mixed.F.kp T.law_mixed.b .nil (fun _ => .nil) pass0 (da_cons (de_var (pv 0)) (da_cons (de_var (pv 5)) da_nil))) da_nil))))))))))))) rd_law_drawn_rules
theorem ok_law_low (T : Tx K mg) : FnOk P w K mg base CX0 1 T.law_low.f T.law_low.fd P_law_low (cSp K sp_law_low) :=
  DFun.ok2 T.law_low.F sc_law_low rfl rfl (k := 0) (t := t_law_low) (fun cdv A outer s H E hr => 
    (dss_cons (ds_par (i := 2) (j := 3) rfl sc_law_low.nd rfl rfl (by decide) rfl rfl (da_cons (de_callB dcall_abs (by rfl) T.n_abs (by decide +kernel) (da_cons (de_var (pv 0)) da_nil)) (da_cons (de_callB dcall_abs (by rfl) T.n_abs (by decide +kernel) (da_cons (de_var (pv 1)) da_nil)) da_nil)) (by rfl))
      (dss_cons (ds_while PassesOwn.never (dt_cmp dop_gt (de_var (pv 3)) de_int (nomark _)) (dss_one (ds_par (i := 2) (j := 3) rfl sc_law_low.nd rfl rfl (by decide) rfl rfl (da_cons (de_var (pv 3)) (da_cons (de_op dop_mod (de_callTy dcall_int (by rfl) T.n_int (by decide +kernel) (da_cons (de_var (pv 2)) da_nil)) (de_var (pv 3))) da_nil)) (by rfl))))
      (dss_cons (ds_set (i := 4) sc_law_low.nd rfl (by first | exact Or.inl rfl | exact Or.inr rfl) (de_ifExp (dt_cmp dop_gt (de_var (pv 1)) de_int (nomark _)) de_int (de_un dun_neg de_int)))
      (dss_one (ds_ret (de_tup (da_cons (de_op dop_fdiv (de_op dop_mul (de_var (pv 4)) (de_var (pv 0))) (de_var (pv 2))) (da_cons (de_op dop_fdiv (de_callB dcall_abs (by rfl) T.n_abs (by decide +kernel) (da_cons (de_var (pv 1)) da_nil)) (de_var (pv 2))) da_nil))))))))) rd_law_low
theorem ok_law_places (T : Tx K mg) : FnOk P w K mg base CX0 2 T.law_places.f T.law_places.fd P_law_places (cSp K sp_law_places) :=
  DFun.ok2 T.law_places.F sc_law_places rfl rfl (k := 1) (t := t_law_places K sp_law_low sp_law_take) (fun cdv A outer s H E hr => 
    (dss_cons (ds_set (i := 2) sc_law_places.nd rfl (by first | exact Or.inl rfl | exact Or.inr rfl) (de_lstM da_nil))
      (dss_cons (ds_for (g := (.nm 3)) PassesOwn.never rfl (di_seq (de_var (pv 1))) (pg_nm (pg_name (i := 3) sc_law_places.nd rfl (by first | exact Or.inl rfl | exact Or.inr rfl))) (dss_cons (ds_set (i := 4) sc_law_places.nd rfl (by first | exact Or.inl rfl | exact Or.inr rfl) (de_call (ok_law_low T) (hr.mono (by decide)) rfl T.law_low.m T.law_low.F.kp T.law_low.b .nil (fun _ => .nil) pass0 (da_cons (de_op dop_sub (de_op dop_add (de_op dop_mul (de_op dop_mul de_int (de_var (pv 3))) de_int) (de_call (ok_law_take T) (hr.mono (by decide)) rfl T.law_take.m T.law_take.F.kp T.law_take.b .nil (fun _ => .nil) pass0 (da_cons (de_var (pv 0)) (da_cons de_int da_nil)))) de_int) (da_cons de_int da_nil))))
      (dss_one (ds_expr (de_mtL PySem.F.slot_list_append PySem.F.type_list_append dmt_append (de_var (pv 2)) (da_cons (de_ix dix_seq (de_lst (da_cons (de_var (pv 4)) (da_cons (de_tup (da_cons (de_op dop_sub (de_op dop_add (de_op dop_mul de_int (de_var (pv 3))) (de_call (ok_law_take T) (hr.mono (by decide)) rfl T.law_take.m T.law_take.F.kp T.law_take.b .nil (fun _ => .nil) pass0 (da_cons (de_var (pv 0)) (da_cons de_int da_nil)))) de_int) (da_cons de_int da_nil))) (da_cons (de_tup (da_cons (de_op dop_add (de_op dop_mul de_int (de_var (pv 3))) de_int) (da_cons de_int da_nil))) da_nil)))) (de_call (ok_law_take T) (hr.mono (by decide)) rfl T.law_take.m T.law_take.F.kp T.law_take.b .nil (fun _ => .nil) pass0 (da_cons (de_var (pv 0)) (da_cons de_int da_nil))) (fun _ _ => rfl)) da_nil))))))
      (dss_one (ds_ghost (ds_ret (de_var (pv 2)))))))) rd_law_places
theorem ok_law_less (T : Tx K mg) : FnOk P w K mg base CX0 1 T.law_less.f T.law_less.fd P_law_less (cSp K sp_law_less) :=
  DFun.ok2 T.law_less.F sc_law_less rfl rfl (k := 0) (t := t_law_less) (fun cdv A outer s H E hr => 
    (dss_one (ds_ret (de_cmp dop_lt (de_op dop_mul (de_ix dix_seq (de_var (pv 0)) de_int (fun _ _ => rfl)) (de_ix dix_seq (de_var (pv 1)) de_int (fun _ _ => rfl))) (de_op dop_mul (de_ix dix_seq (de_var (pv 1)) de_int (fun _ _ => rfl)) (de_ix dix_seq (de_var (pv 0)) de_int (fun _ _ => rfl))) (nomark _))))) rd_law_less
theorem ok_law_most (T : Tx K mg) : FnOk P w K mg base CX0 2 T.law_most.f T.law_most.fd P_law_most (cSp K sp_law_most) :=
  DFun.ok2 T.law_most.F sc_law_most rfl rfl (k := 1) (t := t_law_most sp_law_less) (fun cdv A outer s H E hr => 
    (dss_one (ds_ret (de_ifExp (dt_truth (de_call (ok_law_less T) (hr.mono (by decide)) rfl T.law_less.m T.law_less.F.kp T.law_less.b .nil (fun _ => .nil) pass0 (da_cons (de_var (pv 0)) (da_cons (de_var (pv 1)) da_nil)))) (de_var (pv 1)) (de_var (pv 0)))))) rd_law_most
theorem ok_law_floor (T : Tx K mg) : FnOk P w K mg base CX0 1 T.law_floor.f T.law_floor.fd P_law_floor (cSp K sp_law_floor) :=
  DFun.ok1 T.law_floor.F sc_law_floor rfl rfl (k := 0) (t := t_law_floor) (fun cdv A outer s H E hr => 
    (dss_one (ds_ret (de_op dop_fdiv (de_ix dix_seq (de_var (pv 0)) de_int (fun _ _ => rfl)) (de_ix dix_seq (de_var (pv 0)) de_int (fun _ _ => rfl)))))) rd_law_floor
theorem ok_law_over (T : Tx K mg) : FnOk P w K mg base CX0 2 T.law_over.f T.law_over.fd P_law_over (cSp K sp_law_over) :=
  DFun.ok2 T.law_over.F sc_law_over rfl rfl (k := 1) (t := t_law_over sp_law_low) (fun cdv A outer s H E hr => 
    (dss_one (ds_ret (de_call (ok_law_low T) (hr.mono (by decide)) rfl T.law_low.m T.law_low.F.kp T.law_low.b .nil (fun _ => .nil) pass0 (da_cons (de_op dop_mul (de_ix dix_seq (de_var (pv 0)) de_int (fun _ _ => rfl)) (de_ix dix_seq (de_var (pv 1)) de_int (fun _ _ => rfl))) (da_cons (de_op dop_mul (de_ix dix_seq (de_var (pv 0)) de_int (fun _ _ => rfl)) (de_ix dix_seq (de_var (pv 1)) de_int (fun _ _ => rfl))) da_nil)))))) rd_law_over
theorem ok_law_plus (T : Tx K mg) : FnOk P w K mg base CX0 2 T.law_plus.f T.law_plus.fd P_law_plus (cSp K sp_law_plus) :=
  DFun.ok2 T.law_plus.F sc_law_plus rfl rfl (k := 1) (t := t_law_plus sp_law_low) (fun cdv A outer s H E hr => 
    (dss_one (ds_ret (de_call (ok_law_low T) (hr.mono (by decide)) rfl T.law_low.m T.law_low.F.kp T.law_low.b .nil (fun _ => .nil) pass0 (da_cons (de_op dop_add (de_op dop_mul (de_ix dix_seq (de_var (pv 0)) de_int (fun _ _ => rfl)) (de_ix dix_seq (de_var (pv 1)) de_int (fun _ _ => rfl))) (de_op dop_mul (de_ix dix_seq (de_var (pv 1)) de_int (fun _ _ => rfl)) (de_ix dix_seq (de_var (pv 0)) de_int (fun _ _ => rfl)))) (da_cons (de_op dop_mul (de_ix dix_seq (de_var (pv 0)) de_int (fun _ _ => rfl)) (de_ix dix_seq (de_var (pv 1)) de_int (fun _ _ => rfl))) da_nil)))))) rd_law_plus
theorem ok_law_minus (T : Tx K mg) : FnOk P w K mg base CX0 2 T.law_minus.f T.law_minus.fd P_law_minus (cSp K sp_law_minus) :=
  DFun.ok2 T.law_minus.F sc_law_minus rfl rfl (k := 1) (t := t_law_minus sp_law_low) (fun cdv A outer s H E hr => 
    (dss_one (ds_ret (de_call (ok_law_low T) (hr.mono (by decide)) rfl T.law_low.m T.law_low.F.kp T.law_low.b .nil (fun _ => .nil) pass0 (da_cons (de_op dop_sub (de_op dop_mul (de_ix dix_seq (de_var (pv 0)) de_int (fun _ _ => rfl)) (de_ix dix_seq (de_var (pv 1)) de_int (fun _ _ => rfl))) (de_op dop_mul (de_ix dix_seq (de_var (pv 1)) de_int (fun _ _ => rfl)) (de_ix dix_seq (de_var (pv 0)) de_int (fun _ _ => rfl)))) (da_cons (de_op dop_mul (de_ix dix_seq (de_var (pv 0)) de_int (fun _ _ => rfl)) (de_ix dix_seq (de_var (pv 1)) de_int (fun _ _ => rfl))) da_nil)))))) rd_law_minus
theorem ok_law_needed (T : Tx K mg) : FnOk P w K mg base CX0 3 T.law_needed.f T.law_needed.fd P_law_needed (cSp K sp_law_needed) :=
  DFun.ok3 T.law_needed.F sc_law_needed rfl rfl (k := 2) (t := t_law_needed sp_law_floor sp_law_over sp_law_plus sp_law_minus sp_law_most sp_law_less) (fun cdv A outer s H E hr => 
    (dss_cons (ds_set (i := 3) sc_law_needed.nd rfl (by first | exact Or.inl rfl | exact Or.inr rfl) (de_call (ok_law_floor T) (hr.mono (by decide)) rfl T.law_floor.m T.law_floor.F.kp T.law_floor.b .nil (fun _ => .nil) pass0 (da_cons (de_call (ok_law_over T) (hr.mono (by decide)) rfl T.law_over.m T.law_over.F.kp T.law_over.b .nil (fun _ => .nil) pass0 (da_cons (de_call (ok_law_plus T) (hr.mono (by decide)) rfl T.law_plus.m T.law_plus.F.kp T.law_plus.b .nil (fun _ => .nil) pass0 (da_cons (de_call (ok_law_plus T) (hr.mono (by decide)) rfl T.law_plus.m T.law_plus.F.kp T.law_plus.b .nil (fun _ => .nil) pass0 (da_cons (de_var (pv 0)) (da_cons (de_var (pv 2)) da_nil))) (da_cons (de_tup (da_cons (de_op dop_sub de_int (de_op dop_mul de_int (de_var (pv 1)))) (da_cons de_int da_nil))) da_nil))) (da_cons (de_tup (da_cons de_int (da_cons de_int da_nil))) da_nil))) da_nil)))
      (dss_cons (ds_set (i := 4) sc_law_needed.nd rfl (by first | exact Or.inl rfl | exact Or.inr rfl) de_non)
      (dss_cons (ds_for (g := (.nm 5)) PassesOwn.never rfl (di_range2 (by rfl) T.n_range (de_op dop_sub (de_var (pv 3)) de_int) (de_op dop_add (de_var (pv 3)) de_int)) (pg_nm (pg_name (i := 5) sc_law_needed.nd rfl (by first | exact Or.inl rfl | exact Or.inr rfl))) (dss_cons (ds_set (i := 6) sc_law_needed.nd rfl (by first | exact Or.inl rfl | exact Or.inr rfl) (de_call (ok_law_minus T) (hr.mono (by decide)) rfl T.law_minus.m T.law_minus.F.kp T.law_minus.b .nil (fun _ => .nil) pass0 (da_cons (de_var (pv 0)) (da_cons (de_tup (da_cons (de_op dop_mul de_int (de_var (pv 5))) (da_cons de_int da_nil))) da_nil))))
      (dss_cons (ds_set (i := 7) sc_law_needed.nd rfl (by first | exact Or.inl rfl | exact Or.inr rfl) (de_call (ok_law_most T) (hr.mono (by decide)) rfl T.law_most.m T.law_most.F.kp T.law_most.b .nil (fun _ => .nil) pass0 (da_cons (de_var (pv 6)) (da_cons (de_call (ok_law_minus T) (hr.mono (by decide)) rfl T.law_minus.m T.law_minus.F.kp T.law_minus.b .nil (fun _ => .nil) pass0 (da_cons (de_tup (da_cons (de_op dop_mul de_int (de_op dop_add (de_var (pv 5)) (de_var (pv 1)))) (da_cons de_int da_nil))) (da_cons (de_var (pv 2)) da_nil))) da_nil))))
      (dss_one (ds_if (dt_w (dw_or (dt_cmp dop_is (de_var (pv 4)) de_non (nomark _)) (dw_or1 (dt_truth (de_call (ok_law_less T) (hr.mono (by decide)) rfl T.law_less.m T.law_less.F.kp T.law_less.b .nil (fun _ => .nil) pass0 (da_cons (de_var (pv 7)) (da_cons (de_var (pv 4)) da_nil))))))) (dss_one (ds_set (i := 4) sc_law_needed.nd rfl (by first | exact Or.inl rfl | exact Or.inr rfl) (de_var (pv 7)))) dss_nil)))))
      (dss_one (ds_ret (de_var (pv 4)))))))) rd_law_needed
theorem ok_law_least_movement (T : Tx K mg) : FnOk P w K mg base CX0 4 T.law_least_movement.f T.law_least_movement.fd P_law_least_movement (cSp K sp_law_least_movement) :=
  DFun.ok2 T.law_least_movement.F sc_law_least_movement rfl rfl (k := 3) (t := t_law_least_movement sp_law_most sp_law_needed) (fun cdv A outer s H E hr => 
    (dss_cons (ds_set (i := 2) sc_law_least_movement.nd rfl (by first | exact Or.inl rfl | exact Or.inr rfl) (de_tup (da_cons de_int (da_cons de_int da_nil))))
      (dss_cons (ds_for (g := (.nm 3)) PassesOwn.never rfl (di_range1 (by rfl) T.n_range (de_callB dcall_len (by rfl) T.n_len (by decide +kernel) (da_cons (de_var (pv 0)) da_nil))) (pg_nm (pg_name (i := 3) sc_law_least_movement.nd rfl (by first | exact Or.inl rfl | exact Or.inr rfl))) (dss_one (ds_for (g := (.nm 4)) PassesOwn.never rfl (di_range1 (by rfl) T.n_range (de_callB dcall_len (by rfl) T.n_len (by decide +kernel) (da_cons (de_var (pv 0)) da_nil))) (pg_nm (pg_name (i := 4) sc_law_least_movement.nd rfl (by first | exact Or.inl rfl | exact Or.inr rfl))) (dss_one (ds_if (dt_cmp dop_isN (de_ix dix_seq (de_ix dix_seq (de_var (pv 1)) (de_var (pv 3)) (fun _ _ => rfl)) (de_var (pv 4)) (fun _ _ => rfl)) de_non (nomark _)) (dss_one (ds_set (i := 2) sc_law_least_movement.nd rfl (by first | exact Or.inl rfl | exact Or.inr rfl) (de_call (ok_law_most T) (hr.mono (by decide)) rfl T.law_most.m T.law_most.F.kp T.law_most.b .nil (fun _ => .nil) pass0 (da_cons (de_var (pv 2)) (da_cons (de_call (ok_law_needed T) (hr.mono (by decide)) rfl T.law_needed.m T.law_needed.F.kp T.law_needed.b .nil (fun _ => .nil) pass0 (da_cons (de_ix dix_seq (de_var (pv 0)) (de_var (pv 3)) (fun _ _ => rfl)) (da_cons (de_ix dix_seq (de_ix dix_seq (de_var (pv 1)) (de_var (pv 3)) (fun _ _ => rfl)) (de_var (pv 4)) (fun _ _ => rfl)) (da_cons (de_ix dix_seq (de_var (pv 0)) (de_var (pv 4)) (fun _ _ => rfl)) da_nil)))) da_nil))))) dss_nil)))))
      (dss_one (ds_ret (de_var (pv 2))))))) rd_law_least_movement
theorem ok_law_cells_due (T : Tx K mg) : FnOk P w K mg base CX0 3 T.law_cells_due.f T.law_cells_due.fd P_law_cells_due (cSp K sp_law_cells_due) :=
  DFun.ok3 T.law_cells_due.F sc_law_cells_due rfl rfl (k := 2) (t := t_law_cells_due K sp_law_floor sp_law_over sp_law_minus) (fun cdv A outer s H E hr => 
    (dss_cons (ds_set (i := 3) sc_law_cells_due.nd rfl (by first | exact Or.inl rfl | exact Or.inr rfl) (de_callB dcall_len (by rfl) T.n_len (by decide +kernel) (da_cons (de_var (pv 0)) da_nil)))
      (dss_cons (ds_set (i := 4) sc_law_cells_due.nd rfl (by first | exact Or.inl rfl | exact Or.inr rfl) (de_lc false (own := [("place", 7)]) (g := (.nm 7)) rfl sc_law_cells_due.nd (di_seq (de_var (pv 0))) (blkOk_by (N := N_law_cells_due) (sc := defScope s_law_cells_due) (own := [("place", 7)]) (by decide +kernel)) (fun _ _ _ _ _ => (pg_nm (pg_name (i := 7) sc_law_cells_due.nd rfl (by first | exact Or.inl rfl | exact Or.inr rfl)))) (fun _ _ _ _ _ => dts_nil) (fun _ _ _ _ _ => (de_op dop_sub de_int (de_call (ok_law_floor T) (hr.mono (by decide)) rfl T.law_floor.m T.law_floor.F.kp T.law_floor.b .nil (fun _ => .nil) pass0 (da_cons (de_call (ok_law_over T) (hr.mono (by decide)) rfl T.law_over.m T.law_over.F.kp T.law_over.b .nil (fun _ => .nil) pass0 (da_cons (de_call (ok_law_minus T) (hr.mono (by decide)) rfl T.law_minus.m T.law_minus.F.kp T.law_minus.b .nil (fun _ => .nil) pass0 (da_cons (de_var (pv 2)) (da_cons (de_var (pv 7)) da_nil))) (da_cons (de_tup (da_cons de_int (da_cons de_int da_nil))) da_nil))) da_nil)))) (by decide)))
      (dss_cons (ds_set (i := 5) sc_law_cells_due.nd rfl (by first | exact Or.inl rfl | exact Or.inr rfl) (de_lstM da_nil))
      (dss_cons (ds_for (g := (.nm 6)) PassesOwn.never rfl (di_range1 (by rfl) T.n_range (de_var (pv 3))) (pg_nm (pg_name (i := 6) sc_law_cells_due.nd rfl (by first | exact Or.inl rfl | exact Or.inr rfl))) (dss_one (ds_expr (de_mtL PySem.F.slot_list_append PySem.F.type_list_append dmt_append (de_var (pv 5)) (da_cons (de_callB (dcall_maxQ rfl) (by rfl) T.n_max (by decide +kernel) (da_cons (de_lc false (own := [("j", 8)]) (g := (.nm 8)) rfl sc_law_cells_due.nd (di_range1 (by rfl) T.n_range (de_var (pv 3))) (blkOk_by (N := N_law_cells_due) (sc := defScope s_law_cells_due) (own := [("j", 8)]) (by decide +kernel)) (fun _ _ _ _ _ => (pg_nm (pg_name (i := 8) sc_law_cells_due.nd rfl (by first | exact Or.inl rfl | exact Or.inr rfl)))) (fun _ _ _ _ _ => (dts_one (dt_cmp dop_isN (de_ix dix_seq (de_ix dix_seq (de_var (pv 1)) (de_var (pv 8)) (fun _ _ => rfl)) (de_var (pv 6)) (fun _ _ => rfl)) de_non (nomark _)))) (fun _ _ _ _ _ => (de_op dop_add (de_ix dix_seq (de_var (pv 4)) (de_var (pv 8)) (fun _ _ => rfl)) (de_ix dix_seq (de_ix dix_seq (de_var (pv 1)) (de_var (pv 8)) (fun _ _ => rfl)) (de_var (pv 6)) (fun _ _ => rfl)))) (by decide)) da_nil)) da_nil)))))
      (dss_one (ds_ghost (ds_ret (de_var (pv 5)))))))))) rd_law_cells_due
theorem ok_law_num (T : Tx K mg) : FnOk P w K mg base CX0 1 T.law_num.f T.law_num.fd P_law_num (cSp K sp_law_num) :=
  DFun.ok1 T.law_num.F sc_law_num rfl rfl (k := 0) (t := t_law_num) (fun cdv A outer s H E hr => 
    (dss_one (ds_ret (de_ifExp (dt_cmp (dop_eqQ hr.units) (de_ix dix_seq (de_var (pv 0)) de_int (fun _ _ => rfl)) de_int (nomark _)) (de_ix dix_seq (de_var (pv 0)) de_int (fun _ _ => rfl)) (de_var (pv 0)))))) rd_law_num
theorem ok_is_list (T : Tx K mg) : FnOk P w K mg base CX0 1 T.is_list.f T.is_list.fd P_is_list (cSp K sp_is_list) :=
  DFun.ok3 T.is_list.F sc_is_list rfl rfl (k := 0) (t := t_is_list) (fun cdv A outer s H E hr => 
    (dss_one (ds_ret (de_and (de_isiT (cs := [.lst, .tup]) (de_var (pv 0)) (pa_tys (pa_tyc (c := .lst) (pe_bltn (v := .ty "list") (by rfl) T.n_list (by decide +kernel) rfl) (pa_tyc (c := .tup) (pe_bltn (v := .ty "tuple") (by rfl) T.n_tuple (by decide +kernel) rfl) pa_ty0)) (by decide)) (by rfl) T.n_isinstance) (de_one (de_chain dop_le dop_le (de_var (pv 1)) (de_callB dcall_len (by rfl) T.n_len (by decide +kernel) (da_cons (de_var (pv 0)) da_nil)) (de_var (pv 2)))))))) rd_is_list
theorem ok_is_plain (T : Tx K mg) : FnOk P w K mg base CX0 1 T.is_plain.f T.is_plain.fd P_is_plain (cSp K sp_is_plain) :=
  DFun.ok1 T.is_plain.F sc_is_plain rfl rfl (k := 0) (t := t_is_plain) (fun cdv A outer s H E hr => 
    (dss_one (ds_ret (de_and (de_callB dcall_isi (by rfl) T.n_isinstance (by decide +kernel) (da_cons (de_var (pv 0)) (da_cons (de_c (pe_bltn (v := .ty "int") (by rfl) T.n_int (by decide +kernel) rfl) fun _ => .ty .int) da_nil))) (de_one (de_not (de_callB dcall_isi (by rfl) T.n_isinstance (by decide +kernel) (da_cons (de_var (pv 0)) (da_cons (de_c (pe_bltn (v := .ty "bool") (by rfl) T.n_bool (by decide +kernel) rfl) fun _ => .ty .bool) da_nil))))))))) rd_is_plain
theorem ok_common_part (T : Tx K mg) : FnOk P w K mg base CX0 1 T.common_part.f T.common_part.fd P_common_part (cSp K sp_common_part) :=
  DFun.ok2 T.common_part.F sc_common_part rfl rfl (k := 0) (t := t_common_part) (fun cdv A outer s H E hr => 
    (dss_cons (ds_par (i := 0) (j := 1) rfl sc_common_part.nd rfl rfl (by decide) rfl rfl (da_cons (de_callB dcall_abs (by rfl) T.n_abs (by decide +kernel) (da_cons (de_var (pv 0)) da_nil)) (da_cons (de_callB dcall_abs (by rfl) T.n_abs (by decide +kernel) (da_cons (de_var (pv 1)) da_nil)) da_nil)) (by rfl))
      (dss_cons (ds_while PassesOwn.never (dt_cmp (dop_neQ hr.units) (de_var (pv 1)) de_int (nomark _)) (dss_one (ds_par (i := 0) (j := 1) rfl sc_common_part.nd rfl rfl (by decide) rfl rfl (da_cons (de_var (pv 1)) (da_cons (de_op dop_mod (de_var (pv 0)) (de_var (pv 1))) da_nil)) (by rfl))))
      (dss_one (ds_ret (de_var (pv 0))))))) rd_common_part
theorem ok_is_part (T : Tx K mg) : FnOk P w K mg base CX0 2 T.is_part.f T.is_part.fd P_is_part (cSp K sp_is_part) :=
  DFun.ok1 T.is_part.F sc_is_part rfl rfl (k := 1) (t := t_is_part sp_is_plain sp_common_part) (fun cdv A outer s H E hr => 
    (dss_cons (ds_if (dt_w (dw_or (dt_not (dt_truth (de_callB dcall_isi (by rfl) T.n_isinstance (by decide +kernel) (da_cons (de_var (pv 0)) (da_cons (de_c (pe_bltn (v := .ty "tuple") (by rfl) T.n_tuple (by decide +kernel) rfl) fun _ => .ty .tup) da_nil))))) (dw_or1 (dt_cmp (dop_neQ hr.units) (de_callB dcall_len (by rfl) T.n_len (by decide +kernel) (da_cons (de_var (pv 0)) da_nil)) de_int (nomark _))))) (dss_one (ds_ret de_bl)) dss_nil)
      (dss_cons (ds_asg (g := (.tp [(.nm 1), (.nm 2)])) (de_var (pv 0)) (pg_tp rfl (pgs_c (pg_nm (pg_name (i := 1) sc_is_part.nd rfl (by first | exact Or.inl rfl | exact Or.inr rfl))) (pgs_c (pg_nm (pg_name (i := 2) sc_is_part.nd rfl (by first | exact Or.inl rfl | exact Or.inr rfl))) pgs_n))))
      (dss_one (ds_ret (de_and (de_call (ok_is_plain T) (hr.mono (by decide)) rfl T.is_plain.m T.is_plain.F.kp T.is_plain.b .nil (fun _ => .nil) pass0 (da_cons (de_var (pv 1)) da_nil)) (de_and (de_call (ok_is_plain T) (hr.mono (by decide)) rfl T.is_plain.m T.is_plain.F.kp T.is_plain.b .nil (fun _ => .nil) pass0 (da_cons (de_var (pv 2)) da_nil)) (de_and (de_cmp dop_gt (de_var (pv 2)) de_int (nomark _)) (de_one (de_cmp (dop_eqQ hr.units) (de_call (ok_common_part T) (hr.mono (by decide)) rfl T.common_part.m T.common_part.F.kp T.common_part.b .nil (fun _ => .nil) pass0 (da_cons (de_var (pv 1)) (da_cons (de_var (pv 2)) da_nil))) de_int (nomark _))))))))))) rd_is_part
theorem ok_is_number (T : Tx K mg) : FnOk P w K mg base CX0 3 T.is_number.f T.is_number.fd P_is_number (cSp K sp_is_number) :=
  DFun.ok1 T.is_number.F sc_is_number rfl rfl (k := 2) (t := t_is_number sp_is_plain sp_is_part) (fun cdv A outer s H E hr => 
    (dss_one (ds_ret (de_or (de_call (ok_is_plain T) (hr.mono (by decide)) rfl T.is_plain.m T.is_plain.F.kp T.is_plain.b .nil (fun _ => .nil) pass0 (da_cons (de_var (pv 0)) da_nil)) (de_one (de_call (ok_is_part T) (hr.mono (by decide)) rfl T.is_part.m T.is_part.F.kp T.is_part.b .nil (fun _ => .nil) pass0 (da_cons (de_var (pv 0)) da_nil))))))) rd_is_number
theorem ok_pair_of (T : Tx K mg) : FnOk P w K mg base CX0 3 T.pair_of.f T.pair_of.fd P_pair_of (cSp K sp_pair_of) :=
  DFun.ok1 T.pair_of.F sc_pair_of rfl rfl (k := 2) (t := t_pair_of sp_is_plain sp_is_part) (fun cdv A outer s H E hr => 
    (dss_cons (ds_if (dt_truth (de_call (ok_is_plain T) (hr.mono (by decide)) rfl T.is_plain.m T.is_plain.F.kp T.is_plain.b .nil (fun _ => .nil) pass0 (da_cons (de_var (pv 0)) da_nil))) (dss_one (ds_ret (de_tup (da_cons (de_var (pv 0)) (da_cons de_int da_nil))))) dss_nil)
      (dss_cons (ds_if (dt_not (dt_truth (de_call (ok_is_part T) (hr.mono (by decide)) rfl T.is_part.m T.is_part.F.kp T.is_part.b .nil (fun _ => .nil) pass0 (da_cons (de_var (pv 0)) da_nil)))) (dss_one ds_never) dss_nil)
      (dss_one (ds_ret (de_var (pv 0))))))) rd_pair_of
theorem ok_is_short (T : Tx K mg) : FnOk P w K mg base CX0 4 T.is_short.f T.is_short.fd P_is_short (cSp K sp_is_short) :=
  DFun.ok1 T.is_short.F sc_is_short rfl rfl (k := 3) (t := t_is_short sp_is_number sp_pair_of) (fun cdv A outer s H E hr => 
    (dss_one (ds_ret (de_and (de_call (ok_is_number T) (hr.mono (by decide)) rfl T.is_number.m T.is_number.F.kp T.is_number.b .nil (fun _ => .nil) pass0 (da_cons (de_var (pv 0)) da_nil)) (de_one (de_callB (dcall_all rfl) (by rfl) T.n_all (by decide +kernel) (da_cons (de_lc false (own := [("part", 1)]) (g := (.nm 1)) rfl sc_is_short.nd (di_seq (de_call (ok_pair_of T) (hr.mono (by decide)) rfl T.pair_of.m T.pair_of.F.kp T.pair_of.b .nil (fun _ => .nil) pass0 (da_cons (de_var (pv 0)) da_nil))) (blkOk_by (N := N_is_short) (sc := defScope s_is_short) (own := [("part", 1)]) (by decide +kernel)) (fun _ _ _ _ _ => (pg_nm (pg_name (i := 1) sc_is_short.nd rfl (by first | exact Or.inl rfl | exact Or.inr rfl)))) (fun _ _ _ _ _ => dts_nil) (fun _ _ _ _ _ => (de_cmp dop_lt (de_callB dcall_abs (by rfl) T.n_abs (by decide +kernel) (da_cons (de_var (pv 1)) da_nil)) (de_c (pe_glob (v := .int 100000000000000000000) rfl T.c_SHORT ⟨_, rfl⟩) fun _ => .int _) (nomark _))) (by decide)) da_nil))))))) rd_is_short
theorem ok_need_mark_places (T : Tx K mg) : FnOk P w K mg base CX0 5 T.need_mark_places.f T.need_mark_places.fd P_need_mark_places (cSp K sp_need_mark_places) :=
  DFun.ok1 T.need_mark_places.F sc_need_mark_places rfl rfl (k := 4) (t := t_need_mark_places sp_is_list sp_is_short) (fun cdv A outer s H E hr => 
    (dss_cons (ds_if (dt_not (dt_truth (de_call (ok_is_list T) (hr.mono (by decide)) rfl T.is_list.m T.is_list.F.kp T.is_list.b .nil (fun _ => .nil) pass0 (da_cons (de_var (pv 0)) (da_cons de_int (da_cons (de_c (pe_glob (v := .int 24) rfl T.c_MOST_MARKS ⟨_, rfl⟩) fun _ => .int _) da_nil)))))) (dss_one ds_never) dss_nil)
      (dss_one (ds_for (g := (.nm 1)) PassesOwn.never rfl (di_seq (de_var (pv 0))) (pg_nm (pg_name (i := 1) sc_need_mark_places.nd rfl (by first | exact Or.inl rfl | exact Or.inr rfl))) (dss_one (ds_if (dt_not (dt_truth (de_call (ok_is_short T) (hr.mono (by decide)) rfl T.is_short.m T.is_short.F.kp T.is_short.b .nil (fun _ => .nil) pass0 (da_cons (de_var (pv 1)) da_nil)))) (dss_one ds_never) dss_nil)))))) rd_need_mark_places
theorem ok_is_whole (T : Tx K mg) : FnOk P w K mg base CX0 2 T.is_whole.f T.is_whole.fd P_is_whole (cSp K sp_is_whole) :=
  DFun.ok3 T.is_whole.F sc_is_whole rfl rfl (k := 1) (t := t_is_whole sp_is_plain) (fun cdv A outer s H E hr => 
    (dss_one (ds_ret (de_and (de_call (ok_is_plain T) (hr.mono (by decide)) rfl T.is_plain.m T.is_plain.F.kp T.is_plain.b .nil (fun _ => .nil) pass0 (da_cons (de_var (pv 0)) da_nil)) (de_one (de_chain dop_le dop_le (de_var (pv 1)) (de_var (pv 0)) (de_var (pv 2)))))))) rd_is_whole
theorem ok_is_rule (T : Tx K mg) : FnOk P w K mg base CX0 3 T.is_rule.f T.is_rule.fd P_is_rule (cSp K sp_is_rule) :=
  DFun.ok2 T.is_rule.F sc_is_rule rfl rfl (k := 2) (t := t_is_rule sp_is_whole) (fun cdv A outer s H E hr => 
    (dss_cons (ds_if (dt_w (dw_or (dt_not (dt_truth (de_callB dcall_isi (by rfl) T.n_isinstance (by decide +kernel) (da_cons (de_var (pv 0)) (da_cons (de_c (pe_bltn (v := .ty "tuple") (by rfl) T.n_tuple (by decide +kernel) rfl) fun _ => .ty .tup) da_nil))))) (dw_or1 (dt_cmp (dop_neQ hr.units) (de_callB dcall_len (by rfl) T.n_len (by decide +kernel) (da_cons (de_var (pv 0)) da_nil)) de_int (nomark _))))) (dss_one (ds_ret de_bl)) dss_nil)
      (dss_cons (ds_asg (g := (.tp [(.nm 2), (.nm 3), (.nm 4)])) (de_var (pv 0)) (pg_tp rfl (pgs_c (pg_nm (pg_name (i := 2) sc_is_rule.nd rfl (by first | exact Or.inl rfl | exact Or.inr rfl))) (pgs_c (pg_nm (pg_name (i := 3) sc_is_rule.nd rfl (by first | exact Or.inl rfl | exact Or.inr rfl))) (pgs_c (pg_nm (pg_name (i := 4) sc_is_rule.nd rfl (by first | exact Or.inl rfl | exact Or.inr rfl))) pgs_n)))))
      (dss_cons (ds_if (dt_w (dw_or (dt_not (dt_truth (de_call (ok_is_whole T) (hr.mono (by decide)) rfl T.is_whole.m T.is_whole.F.kp T.is_whole.b .nil (fun _ => .nil) pass0 (da_cons (de_var (pv 2)) (da_cons de_int (da_cons (de_op dop_sub (de_var (pv 1)) de_int) da_nil)))))) (dw_or (dt_not (dt_truth (de_call (ok_is_whole T) (hr.mono (by decide)) rfl T.is_whole.m T.is_whole.F.kp T.is_whole.b .nil (fun _ => .nil) pass0 (da_cons (de_var (pv 3)) (da_cons de_int (da_cons (de_op dop_sub (de_var (pv 1)) de_int) da_nil)))))) (dw_or1 (dt_cmp (dop_eqQ hr.units) (de_var (pv 2)) (de_var (pv 3)) (nomark _)))))) (dss_one (ds_ret de_bl)) dss_nil)
      (dss_one (ds_ret (de_call (ok_is_whole T) (hr.mono (by decide)) rfl T.is_whole.m T.is_whole.F.kp T.is_whole.b .nil (fun _ => .nil) pass0 (da_cons (de_var (pv 4)) (da_cons (de_un dun_neg (de_c (pe_glob (v := .int 400) rfl T.c_MOST_APART ⟨_, rfl⟩) fun _ => .int _)) (da_cons (de_c (pe_glob (v := .int 400) rfl T.c_MOST_APART ⟨_, rfl⟩) fun _ => .int _) da_nil)))))))))) rd_is_rule
theorem ok_need_rules (T : Tx K mg) : FnOk P w K mg base CX0 4 T.need_rules.f T.need_rules.fd P_need_rules (cSp K sp_need_rules) :=
  DFun.ok2 T.need_rules.F sc_need_rules rfl rfl (k := 3) (t := t_need_rules sp_is_list sp_is_rule) (fun cdv A outer s H E hr => 
    (dss_cons (ds_if (dt_not (dt_truth (de_call (ok_is_list T) (hr.mono (by decide)) rfl T.is_list.m T.is_list.F.kp T.is_list.b .nil (fun _ => .nil) pass0 (da_cons (de_var (pv 0)) (da_cons de_int (da_cons (de_c (pe_glob (v := .int 100) rfl T.c_MOST_RULES ⟨_, rfl⟩) fun _ => .int _) da_nil)))))) (dss_one ds_never) dss_nil)
      (dss_one (ds_for (g := (.nm 2)) PassesOwn.never rfl (di_seq (de_var (pv 0))) (pg_nm (pg_name (i := 2) sc_need_rules.nd rfl (by first | exact Or.inl rfl | exact Or.inr rfl))) (dss_one (ds_if (dt_not (dt_truth (de_call (ok_is_rule T) (hr.mono (by decide)) rfl T.is_rule.m T.is_rule.F.kp T.is_rule.b .nil (fun _ => .nil) pass0 (da_cons (de_var (pv 2)) (da_cons (de_var (pv 1)) da_nil))))) (dss_one ds_never) dss_nil)))))) rd_need_rules
theorem ok_raised (T : Tx K mg) : FnOk P w K mg base CX0 1 T.raised.f T.raised.fd P_raised (cSp K sp_raised) :=
  DFun.ok2 T.raised.F sc_raised rfl rfl (k := 0) (t := t_raised K) (fun cdv A outer s H E hr => 
    (dss_cons (ds_par (i := 2) (j := 3) rfl sc_raised.nd rfl rfl (by decide) rfl rfl (da_cons (de_callTy (dcall_list true) (by rfl) T.n_list (by decide +kernel) (da_cons (de_var (pv 0)) da_nil)) (da_cons (de_op (dop_rep true) (de_lst (da_cons de_non da_nil)) (de_callB dcall_len (by rfl) T.n_len (by decide +kernel) (da_cons (de_var (pv 0)) da_nil))) da_nil)) (by rfl))
      (dss_cons (ds_set (i := 4) sc_raised.nd rfl (by first | exact Or.inl rfl | exact Or.inr rfl) de_non)
      (dss_cons (ds_for (g := (.nm 5)) PassesOwn.never rfl (di_range1 (by rfl) T.n_range (de_callB dcall_len (by rfl) T.n_len (by decide +kernel) (da_cons (de_var (pv 0)) da_nil))) (pg_nm (pg_name (i := 5) sc_raised.nd rfl (by first | exact Or.inl rfl | exact Or.inr rfl))) (dss_cons (ds_set (i := 4) sc_raised.nd rfl (by first | exact Or.inl rfl | exact Or.inr rfl) de_non)
      (dss_one (ds_for (g := (.tp [(.nm 6), (.tp [(.nm 7), (.nm 8), (.nm 9)])])) PassesOwn.never rfl (di_enumQ (by rfl) T.n_enumerate (de_var (pv 1))) (pg_tp rfl (pgs_c (pg_nm (pg_name (i := 6) sc_raised.nd rfl (by first | exact Or.inl rfl | exact Or.inr rfl))) (pgs_c (pg_tp rfl (pgs_c (pg_nm (pg_name (i := 7) sc_raised.nd rfl (by first | exact Or.inl rfl | exact Or.inr rfl))) (pgs_c (pg_nm (pg_name (i := 8) sc_raised.nd rfl (by first | exact Or.inl rfl | exact Or.inr rfl))) (pgs_c (pg_nm (pg_name (i := 9) sc_raised.nd rfl (by first | exact Or.inl rfl | exact Or.inr rfl))) pgs_n)))) pgs_n))) (dss_one (ds_if (dt_w (dw_and (dt_cmp dop_isN (de_ix dix_seq (de_var (pv 2)) (de_var (pv 7)) (fun _ _ => rfl)) de_non (nomark _)) (dw_and1 (dt_w (dw_or (dt_cmp dop_is (de_ix dix_seq (de_var (pv 2)) (de_var (pv 8)) (fun _ _ => rfl)) de_non (nomark _)) (dw_or1 (dt_cmp dop_lt (de_ix dix_seq (de_var (pv 2)) (de_var (pv 8)) (fun _ _ => rfl)) (de_op dop_add (de_ix dix_seq (de_var (pv 2)) (de_var (pv 7)) (fun _ _ => rfl)) (de_var (pv 9))) (nomark _)))))))) (dss_cons (ds_sub (de_op dop_add (de_ix dix_seq (de_var (pv 2)) (de_var (pv 7)) (fun _ _ => rfl)) (de_var (pv 9))) (de_var (pv 2)) (de_var (pv 8)))
      (dss_cons (ds_sub (de_var (pv 6)) (de_var (pv 3)) (de_var (pv 8)))
      (dss_one (ds_set (i := 4) sc_raised.nd rfl (by first | exact Or.inl rfl | exact Or.inr rfl) (de_var (pv 8)))))) dss_nil))))))
      (dss_one (ds_ghost (ds_ret (de_tup (da_cons (de_var (pv 2)) (da_cons (de_var (pv 3)) (da_cons (de_var (pv 4)) da_nil))))))))))) rd_raised
theorem ok_led_back (T : Tx K mg) : FnOk P w K mg base CX0 1 T.led_back.f T.led_back.fd P_led_back (cSp K sp_led_back) :=
  DFun.ok4 T.led_back.F sc_led_back rfl rfl (k := 0) (t := t_led_back K) (fun cdv A outer s H E hr => 
    (dss_cons (ds_set (i := 4) sc_led_back.nd rfl (by first | exact Or.inl rfl | exact Or.inr rfl) (de_lstM (da_cons (de_ix dix_seq (de_var (pv 0)) (de_var (pv 3)) (fun _ _ => rfl)) da_nil)))
      (dss_cons (ds_while PassesOwn.never (dt_cmp (dop_neQ hr.units) (de_ix dix_seq (de_ix dix_seq (de_var (pv 1)) (de_ix dix_seq (de_var (pv 4)) (de_un dun_neg de_int) (fun _ _ => rfl)) (fun _ _ => rfl)) de_int (fun _ _ => rfl)) (de_var (pv 2)) (nomark _)) (dss_one (ds_expr (de_mtL PySem.F.slot_list_append PySem.F.type_list_append dmt_append (de_var (pv 4)) (da_cons (de_ix dix_seq (de_var (pv 0)) (de_ix dix_seq (de_ix dix_seq (de_var (pv 1)) (de_ix dix_seq (de_var (pv 4)) (de_un dun_neg de_int) (fun _ _ => rfl)) (fun _ _ => rfl)) de_int (fun _ _ => rfl)) (fun _ _ => rfl)) da_nil)))))
      (dss_one (ds_ghost (ds_ret (de_rev (p4 := ⟨0, 0, 0, 0⟩) false (de_var (pv 4))))))))) rd_led_back
theorem ok_found_cycle (T : Tx K mg) : FnOk P w K mg base CX0 2 T.found_cycle.f T.found_cycle.fd P_found_cycle (cSp K sp_found_cycle) :=
  DFun.ok2 T.found_cycle.F sc_found_cycle rfl rfl (k := 1) (t := t_found_cycle sp_raised sp_led_back) (fun cdv A outer s H E hr => 
    (dss_cons (ds_asg (g := (.tp [(.nm 2), (.nm 3), (.nm 4)])) (de_call (ok_raised T) (hr.mono (by decide)) rfl T.raised.m T.raised.F.kp T.raised.b .nil (fun _ => .nil) pass0 (da_cons (de_op (dop_rep false) (de_lst (da_cons de_int da_nil)) (de_var (pv 0))) (da_cons (de_var (pv 1)) da_nil))) (pg_tp rfl (pgs_c (pg_nm (pg_name (i := 2) sc_found_cycle.nd rfl (by first | exact Or.inl rfl | exact Or.inr rfl))) (pgs_c (pg_nm (pg_name (i := 3) sc_found_cycle.nd rfl (by first | exact Or.inl rfl | exact Or.inr rfl))) (pgs_c (pg_nm (pg_name (i := 4) sc_found_cycle.nd rfl (by first | exact Or.inl rfl | exact Or.inr rfl))) pgs_n)))))
      (dss_cons (ds_if (dt_cmp dop_is (de_var (pv 4)) de_non (nomark _)) (dss_one (ds_ret de_non)) dss_nil)
      (dss_cons (ds_for (g := (.nm 5)) PassesOwn.never rfl (di_range1 (by rfl) T.n_range (de_var (pv 0))) (pg_nm (pg_name (i := 5) sc_found_cycle.nd rfl (by first | exact Or.inl rfl | exact Or.inr rfl))) (dss_one (ds_set (i := 4) sc_found_cycle.nd rfl (by first | exact Or.inl rfl | exact Or.inr rfl) (de_ix dix_seq (de_ix dix_seq (de_var (pv 1)) (de_ix dix_seq (de_var (pv 3)) (de_var (pv 4)) (fun _ _ => rfl)) (fun _ _ => rfl)) de_int (fun _ _ => rfl)))))
      (dss_one (ds_ret (de_call (ok_led_back T) (hr.mono (by decide)) rfl T.led_back.m T.led_back.F.kp T.led_back.b .nil (fun _ => .nil) pass0 (da_cons (de_var (pv 3)) (da_cons (de_var (pv 1)) (da_cons (de_var (pv 4)) (da_cons (de_var (pv 4)) da_nil))))))))))) rd_found_cycle
theorem ok_need_kept (T : Tx K mg) : FnOk P w K mg base (L2.CX P w) 3 T.need_kept.f T.need_kept.fd P_need_kept (cSp K (sp_need_kept K)) :=
  DFunX.ok2 T.need_kept.F sc_need_kept rfl rfl (k := 2) (t := t_need_kept K sp_found_cycle) (fun cdv A outer s H E hr => 
    (dss_cons (ds_set (i := 2) sc_need_kept.nd rfl (by first | exact Or.inl rfl | exact Or.inr rfl) (de_call (ok_found_cycle T) (hr.mono (by decide)) rfl T.found_cycle.m T.found_cycle.F.kp T.found_cycle.b .nil (fun _ => .nil) pass0 (da_cons (de_var (pv 0)) (da_cons (de_var (pv 1)) da_nil))))
      (dss_one (ds_if (dt_cmp dop_isN (de_var (pv 2)) de_non (nomark _)) (dss_one (ds_raise rfl takes_cx (dm_mk1 T.x_NoFit.o T.x_NoFit.ini T.x_NoFit.ti (ok_i_NoFit T) (hr.mono (by decide)) T.i_NoFit_b (by rfl) T.x_NoFit.m (da_cons (de_var (pv 2)) da_nil)))) dss_nil)))) rd_need_kept
theorem ok_raised_from (T : Tx K mg) : FnOk P w K mg base CX0 2 T.raised_from.f T.raised_from.fd P_raised_from (cSp K sp_raised_from) :=
  DFun.ok3 T.raised_from.F sc_raised_from rfl rfl (k := 1) (t := t_raised_from sp_raised) (fun cdv A outer s H E hr => 
    (dss_cons (ds_asg (g := (.tp [(.nm 3), (.nm 4), (.nm 5)])) (de_call (ok_raised T) (hr.mono (by decide)) rfl T.raised.m T.raised.F.kp T.raised.b .nil (fun _ => .nil) pass0 (da_cons (de_lc false (own := [("other", 6)]) (g := (.nm 6)) rfl sc_raised_from.nd (di_range1 (by rfl) T.n_range (de_var (pv 0))) (blkOk_by (N := N_raised_from) (sc := defScope s_raised_from) (own := [("other", 6)]) (by decide +kernel)) (fun _ _ _ _ _ => (pg_nm (pg_name (i := 6) sc_raised_from.nd rfl (by first | exact Or.inl rfl | exact Or.inr rfl)))) (fun _ _ _ _ _ => dts_nil) (fun _ _ _ _ _ => (de_ifExp (dt_cmp (dop_eqQ hr.units) (de_var (pv 6)) (de_var (pv 2)) (nomark _)) de_int de_non)) (by decide)) (da_cons (de_var (pv 1)) da_nil))) (pg_tp rfl (pgs_c (pg_nm (pg_name (i := 3) sc_raised_from.nd rfl (by first | exact Or.inl rfl | exact Or.inr rfl))) (pgs_c (pg_nm (pg_name (i := 4) sc_raised_from.nd rfl (by first | exact Or.inl rfl | exact Or.inr rfl))) (pgs_c (pg_nm (pg_name (i := 5) sc_raised_from.nd rfl (by first | exact Or.inl rfl | exact Or.inr rfl))) pgs_n)))))
      (dss_one (ds_ret (de_tup (da_cons (de_var (pv 3)) (da_cons (de_var (pv 4)) da_nil))))))) rd_raised_from
theorem ok_reckoned (T : Tx K mg) : FnOk P w K mg base CX0 2 T.reckoned.f T.reckoned.fd P_reckoned (cSp K sp_reckoned) :=
  DFun.ok2 T.reckoned.F sc_reckoned rfl rfl (k := 1) (t := t_reckoned sp_common_part) (fun cdv A outer s H E hr => 
    (dss_cons (ds_set (i := 2) sc_reckoned.nd rfl (by first | exact Or.inl rfl | exact Or.inr rfl) (de_call (ok_common_part T) (hr.mono (by decide)) rfl T.common_part.m T.common_part.F.kp T.common_part.b .nil (fun _ => .nil) pass0 (da_cons (de_var (pv 0)) (da_cons (de_var (pv 1)) da_nil))))
      (dss_cons (ds_if (dt_cmp dop_lt (de_var (pv 1)) de_int (nomark _)) (dss_one (ds_set (i := 2) sc_reckoned.nd rfl (by first | exact Or.inl rfl | exact Or.inr rfl) (de_op dop_sub de_int (de_var (pv 2))))) dss_nil)
      (dss_cons (ds_par (i := 0) (j := 1) rfl sc_reckoned.nd rfl rfl (by decide) rfl rfl (da_cons (de_op dop_fdivN (de_var (pv 0)) (de_var (pv 2))) (da_cons (de_op dop_fdivN (de_var (pv 1)) (de_var (pv 2))) da_nil)) (by rfl))
      (dss_one (ds_ret (de_ifExp (dt_cmp (dop_eqQ hr.units) (de_var (pv 1)) de_int (nomark _)) (de_var (pv 0)) (de_tup (da_cons (de_var (pv 0)) (da_cons (de_var (pv 1)) da_nil)))))))))) rd_reckoned
theorem ok_times (T : Tx K mg) : FnOk P w K mg base CX0 4 T.times.f T.times.fd P_times (cSp K sp_times) :=
  DFun.ok2 T.times.F sc_times rfl rfl (k := 3) (t := t_times sp_pair_of sp_reckoned) (fun cdv A outer s H E hr => 
    (dss_cons (ds_asg (g := (.tp [(.tp [(.nm 2), (.nm 3)]), (.tp [(.nm 4), (.nm 5)])])) (de_tup (da_cons (de_call (ok_pair_of T) (hr.mono (by decide)) rfl T.pair_of.m T.pair_of.F.kp T.pair_of.b .nil (fun _ => .nil) pass0 (da_cons (de_var (pv 0)) da_nil)) (da_cons (de_call (ok_pair_of T) (hr.mono (by decide)) rfl T.pair_of.m T.pair_of.F.kp T.pair_of.b .nil (fun _ => .nil) pass0 (da_cons (de_var (pv 1)) da_nil)) da_nil))) (pg_tp rfl (pgs_c (pg_tp rfl (pgs_c (pg_nm (pg_name (i := 2) sc_times.nd rfl (by first | exact Or.inl rfl | exact Or.inr rfl))) (pgs_c (pg_nm (pg_name (i := 3) sc_times.nd rfl (by first | exact Or.inl rfl | exact Or.inr rfl))) pgs_n))) (pgs_c (pg_tp rfl (pgs_c (pg_nm (pg_name (i := 4) sc_times.nd rfl (by first | exact Or.inl rfl | exact Or.inr rfl))) (pgs_c (pg_nm (pg_name (i := 5) sc_times.nd rfl (by first | exact Or.inl rfl | exact Or.inr rfl))) pgs_n))) pgs_n))))
      (dss_one (ds_ret (de_call (ok_reckoned T) (hr.mono (by decide)) rfl T.reckoned.m T.reckoned.F.kp T.reckoned.b .nil (fun _ => .nil) pass0 (da_cons (de_op dop_mul (de_var (pv 2)) (de_var (pv 4))) (da_cons (de_op dop_mul (de_var (pv 3)) (de_var (pv 5))) da_nil))))))) rd_times
theorem ok_floor_of (T : Tx K mg) : FnOk P w K mg base CX0 5 T.floor_of.f T.floor_of.fd P_floor_of (cSp K sp_floor_of) :=
  DFun.ok2 T.floor_of.F sc_floor_of rfl rfl (k := 4) (t := t_floor_of sp_pair_of sp_times) (fun cdv A outer s H E hr => 
    (dss_cons (ds_asg (g := (.tp [(.tp [(.nm 2), (.nm 3)]), (.tp [(.nm 4), (.nm 5)])])) (de_tup (da_cons (de_call (ok_pair_of T) (hr.mono (by decide)) rfl T.pair_of.m T.pair_of.F.kp T.pair_of.b .nil (fun _ => .nil) pass0 (da_cons (de_var (pv 0)) da_nil)) (da_cons (de_call (ok_pair_of T) (hr.mono (by decide)) rfl T.pair_of.m T.pair_of.F.kp T.pair_of.b .nil (fun _ => .nil) pass0 (da_cons (de_var (pv 1)) da_nil)) da_nil))) (pg_tp rfl (pgs_c (pg_tp rfl (pgs_c (pg_nm (pg_name (i := 2) sc_floor_of.nd rfl (by first | exact Or.inl rfl | exact Or.inr rfl))) (pgs_c (pg_nm (pg_name (i := 3) sc_floor_of.nd rfl (by first | exact Or.inl rfl | exact Or.inr rfl))) pgs_n))) (pgs_c (pg_tp rfl (pgs_c (pg_nm (pg_name (i := 4) sc_floor_of.nd rfl (by first | exact Or.inl rfl | exact Or.inr rfl))) (pgs_c (pg_nm (pg_name (i := 5) sc_floor_of.nd rfl (by first | exact Or.inl rfl | exact Or.inr rfl))) pgs_n))) pgs_n))))
      (dss_cons (ds_if (dt_cmp dop_le (de_var (pv 4)) de_int (nomark _)) (dss_one ds_never) dss_nil)
      (dss_one (ds_ret (de_call (ok_times T) (hr.mono (by decide)) rfl T.times.m T.times.F.kp T.times.b .nil (fun _ => .nil) pass0 (da_cons (de_var (pv 1)) (da_cons (de_op dop_fdiv (de_op dop_mul (de_var (pv 2)) (de_var (pv 5))) (de_op dop_mul (de_var (pv 3)) (de_var (pv 4)))) da_nil)))))))) rd_floor_of
theorem ok_over (T : Tx K mg) : FnOk P w K mg base CX0 4 T.over.f T.over.fd P_over (cSp K sp_over) :=
  DFun.ok2 T.over.F sc_over rfl rfl (k := 3) (t := t_over sp_pair_of sp_reckoned) (fun cdv A outer s H E hr => 
    (dss_cons (ds_asg (g := (.tp [(.tp [(.nm 2), (.nm 3)]), (.tp [(.nm 4), (.nm 5)])])) (de_tup (da_cons (de_call (ok_pair_of T) (hr.mono (by decide)) rfl T.pair_of.m T.pair_of.F.kp T.pair_of.b .nil (fun _ => .nil) pass0 (da_cons (de_var (pv 0)) da_nil)) (da_cons (de_call (ok_pair_of T) (hr.mono (by decide)) rfl T.pair_of.m T.pair_of.F.kp T.pair_of.b .nil (fun _ => .nil) pass0 (da_cons (de_var (pv 1)) da_nil)) da_nil))) (pg_tp rfl (pgs_c (pg_tp rfl (pgs_c (pg_nm (pg_name (i := 2) sc_over.nd rfl (by first | exact Or.inl rfl | exact Or.inr rfl))) (pgs_c (pg_nm (pg_name (i := 3) sc_over.nd rfl (by first | exact Or.inl rfl | exact Or.inr rfl))) pgs_n))) (pgs_c (pg_tp rfl (pgs_c (pg_nm (pg_name (i := 4) sc_over.nd rfl (by first | exact Or.inl rfl | exact Or.inr rfl))) (pgs_c (pg_nm (pg_name (i := 5) sc_over.nd rfl (by first | exact Or.inl rfl | exact Or.inr rfl))) pgs_n))) pgs_n))))
      (dss_cons (ds_if (dt_cmp (dop_eqQ hr.units) (de_var (pv 4)) de_int (nomark _)) (dss_one ds_never) dss_nil)
      (dss_one (ds_ret (de_call (ok_reckoned T) (hr.mono (by decide)) rfl T.reckoned.m T.reckoned.F.kp T.reckoned.b .nil (fun _ => .nil) pass0 (da_cons (de_op dop_mul (de_var (pv 2)) (de_var (pv 5))) (da_cons (de_op dop_mul (de_var (pv 3)) (de_var (pv 4))) da_nil)))))))) rd_over
theorem ok_minus (T : Tx K mg) : FnOk P w K mg base CX0 4 T.minus.f T.minus.fd P_minus (cSp K sp_minus) :=
  DFun.ok2 T.minus.F sc_minus rfl rfl (k := 3) (t := t_minus sp_pair_of sp_reckoned) (fun cdv A outer s H E hr => 
    (dss_cons (ds_asg (g := (.tp [(.tp [(.nm 2), (.nm 3)]), (.tp [(.nm 4), (.nm 5)])])) (de_tup (da_cons (de_call (ok_pair_of T) (hr.mono (by decide)) rfl T.pair_of.m T.pair_of.F.kp T.pair_of.b .nil (fun _ => .nil) pass0 (da_cons (de_var (pv 0)) da_nil)) (da_cons (de_call (ok_pair_of T) (hr.mono (by decide)) rfl T.pair_of.m T.pair_of.F.kp T.pair_of.b .nil (fun _ => .nil) pass0 (da_cons (de_var (pv 1)) da_nil)) da_nil))) (pg_tp rfl (pgs_c (pg_tp rfl (pgs_c (pg_nm (pg_name (i := 2) sc_minus.nd rfl (by first | exact Or.inl rfl | exact Or.inr rfl))) (pgs_c (pg_nm (pg_name (i := 3) sc_minus.nd rfl (by first | exact Or.inl rfl | exact Or.inr rfl))) pgs_n))) (pgs_c (pg_tp rfl (pgs_c (pg_nm (pg_name (i := 4) sc_minus.nd rfl (by first | exact Or.inl rfl | exact Or.inr rfl))) (pgs_c (pg_nm (pg_name (i := 5) sc_minus.nd rfl (by first | exact Or.inl rfl | exact Or.inr rfl))) pgs_n))) pgs_n))))
      (dss_one (ds_ret (de_call (ok_reckoned T) (hr.mono (by decide)) rfl T.reckoned.m T.reckoned.F.kp T.reckoned.b .nil (fun _ => .nil) pass0 (da_cons (de_op dop_sub (de_op dop_mul (de_var (pv 2)) (de_var (pv 5))) (de_op dop_mul (de_var (pv 4)) (de_var (pv 3)))) (da_cons (de_op dop_mul (de_var (pv 3)) (de_var (pv 5))) da_nil))))))) rd_minus
theorem ok_plus (T : Tx K mg) : FnOk P w K mg base CX0 4 T.plus.f T.plus.fd P_plus (cSp K sp_plus) :=
  DFun.ok2 T.plus.F sc_plus rfl rfl (k := 3) (t := t_plus sp_pair_of sp_reckoned) (fun cdv A outer s H E hr => 
    (dss_cons (ds_asg (g := (.tp [(.tp [(.nm 2), (.nm 3)]), (.tp [(.nm 4), (.nm 5)])])) (de_tup (da_cons (de_call (ok_pair_of T) (hr.mono (by decide)) rfl T.pair_of.m T.pair_of.F.kp T.pair_of.b .nil (fun _ => .nil) pass0 (da_cons (de_var (pv 0)) da_nil)) (da_cons (de_call (ok_pair_of T) (hr.mono (by decide)) rfl T.pair_of.m T.pair_of.F.kp T.pair_of.b .nil (fun _ => .nil) pass0 (da_cons (de_var (pv 1)) da_nil)) da_nil))) (pg_tp rfl (pgs_c (pg_tp rfl (pgs_c (pg_nm (pg_name (i := 2) sc_plus.nd rfl (by first | exact Or.inl rfl | exact Or.inr rfl))) (pgs_c (pg_nm (pg_name (i := 3) sc_plus.nd rfl (by first | exact Or.inl rfl | exact Or.inr rfl))) pgs_n))) (pgs_c (pg_tp rfl (pgs_c (pg_nm (pg_name (i := 4) sc_plus.nd rfl (by first | exact Or.inl rfl | exact Or.inr rfl))) (pgs_c (pg_nm (pg_name (i := 5) sc_plus.nd rfl (by first | exact Or.inl rfl | exact Or.inr rfl))) pgs_n))) pgs_n))))
      (dss_one (ds_ret (de_call (ok_reckoned T) (hr.mono (by decide)) rfl T.reckoned.m T.reckoned.F.kp T.reckoned.b .nil (fun _ => .nil) pass0 (da_cons (de_op dop_add (de_op dop_mul (de_var (pv 2)) (de_var (pv 5))) (de_op dop_mul (de_var (pv 4)) (de_var (pv 3)))) (da_cons (de_op dop_mul (de_var (pv 3)) (de_var (pv 5))) da_nil))))))) rd_plus
theorem ok_less (T : Tx K mg) : FnOk P w K mg base CX0 4 T.less.f T.less.fd P_less (cSp K sp_less) :=
  DFun.ok2 T.less.F sc_less rfl rfl (k := 3) (t := t_less sp_pair_of) (fun cdv A outer s H E hr => 
    (dss_cons (ds_asg (g := (.tp [(.tp [(.nm 2), (.nm 3)]), (.tp [(.nm 4), (.nm 5)])])) (de_tup (da_cons (de_call (ok_pair_of T) (hr.mono (by decide)) rfl T.pair_of.m T.pair_of.F.kp T.pair_of.b .nil (fun _ => .nil) pass0 (da_cons (de_var (pv 0)) da_nil)) (da_cons (de_call (ok_pair_of T) (hr.mono (by decide)) rfl T.pair_of.m T.pair_of.F.kp T.pair_of.b .nil (fun _ => .nil) pass0 (da_cons (de_var (pv 1)) da_nil)) da_nil))) (pg_tp rfl (pgs_c (pg_tp rfl (pgs_c (pg_nm (pg_name (i := 2) sc_less.nd rfl (by first | exact Or.inl rfl | exact Or.inr rfl))) (pgs_c (pg_nm (pg_name (i := 3) sc_less.nd rfl (by first | exact Or.inl rfl | exact Or.inr rfl))) pgs_n))) (pgs_c (pg_tp rfl (pgs_c (pg_nm (pg_name (i := 4) sc_less.nd rfl (by first | exact Or.inl rfl | exact Or.inr rfl))) (pgs_c (pg_nm (pg_name (i := 5) sc_less.nd rfl (by first | exact Or.inl rfl | exact Or.inr rfl))) pgs_n))) pgs_n))))
      (dss_one (ds_ret (de_cmp dop_lt (de_op dop_mul (de_var (pv 2)) (de_var (pv 5))) (de_op dop_mul (de_var (pv 4)) (de_var (pv 3))) (nomark _)))))) rd_less
theorem ok_needed_for (T : Tx K mg) : FnOk P w K mg base CX0 6 T.needed_for.f T.needed_for.fd P_needed_for (cSp K sp_needed_for) :=
  DFun.ok3 T.needed_for.F sc_needed_for rfl rfl (k := 5) (t := t_needed_for sp_floor_of sp_over sp_minus sp_plus sp_less) (fun cdv A outer s H E hr => 
    (dss_cons (ds_set (i := 3) sc_needed_for.nd rfl (by first | exact Or.inl rfl | exact Or.inr rfl) (de_callK (ks := []) (mds := [D.int 1]) (ok_floor_of T) (hr.mono (by decide)) rfl T.floor_of.m T.floor_of.F.kp T.floor_of_kb0 (fun _ => .cons (.int _) .nil) pass0 (da_cons (de_call (ok_over T) (hr.mono (by decide)) rfl T.over.m T.over.F.kp T.over.b .nil (fun _ => .nil) pass0 (da_cons (de_call (ok_minus T) (hr.mono (by decide)) rfl T.minus.m T.minus.F.kp T.minus.b .nil (fun _ => .nil) pass0 (da_cons (de_call (ok_plus T) (hr.mono (by decide)) rfl T.plus.m T.plus.F.kp T.plus.b .nil (fun _ => .nil) pass0 (da_cons (de_var (pv 0)) (da_cons (de_var (pv 2)) da_nil))) (da_cons (de_op dop_mul (de_c (pe_glob (v := .int 64) rfl T.c_CELL ⟨_, rfl⟩) fun _ => .int _) (de_var (pv 1))) da_nil))) (da_cons (de_op dop_mul de_int (de_c (pe_glob (v := .int 64) rfl T.c_CELL ⟨_, rfl⟩) fun _ => .int _)) da_nil))) da_nil) dk_nil))
      (dss_cons (ds_par (i := 4) (j := 5) rfl sc_needed_for.nd rfl rfl (by decide) rfl rfl (da_cons (de_call (ok_minus T) (hr.mono (by decide)) rfl T.minus.m T.minus.F.kp T.minus.b .nil (fun _ => .nil) pass0 (da_cons (de_var (pv 0)) (da_cons (de_op dop_mul (de_c (pe_glob (v := .int 64) rfl T.c_CELL ⟨_, rfl⟩) fun _ => .int _) (de_var (pv 3))) da_nil))) (da_cons (de_call (ok_minus T) (hr.mono (by decide)) rfl T.minus.m T.minus.F.kp T.minus.b .nil (fun _ => .nil) pass0 (da_cons (de_op dop_mul (de_c (pe_glob (v := .int 64) rfl T.c_CELL ⟨_, rfl⟩) fun _ => .int _) (de_op dop_add (de_op dop_add (de_var (pv 3)) de_int) (de_var (pv 1)))) (da_cons (de_var (pv 2)) da_nil))) da_nil)) (by rfl))
      (dss_one (ds_ret (de_ifExp (dt_truth (de_call (ok_less T) (hr.mono (by decide)) rfl T.less.m T.less.F.kp T.less.b .nil (fun _ => .nil) pass0 (da_cons (de_var (pv 5)) (da_cons (de_var (pv 4)) da_nil)))) (de_var (pv 5)) (de_var (pv 4)))))))) rd_needed_for
theorem ok_tight_chain (T : Tx K mg) : FnOk P w K mg base CX0 7 T.tight_chain.f T.tight_chain.fd P_tight_chain (cSp K sp_tight_chain) :=
  DFun.ok2 T.tight_chain.F sc_tight_chain rfl rfl (k := 6) (t := t_tight_chain sp_raised_from sp_needed_for sp_less sp_led_back) (fun cdv A outer s H E hr => 
    (dss_cons (ds_set (i := 2) sc_tight_chain.nd rfl (by first | exact Or.inl rfl | exact Or.inr rfl) de_non)
      (dss_cons (ds_for (g := (.tp [(.nm 3), (.nm 4)])) PassesOwn.never rfl (di_enumQ (by rfl) T.n_enumerate (de_var (pv 0))) (pg_tp rfl (pgs_c (pg_nm (pg_name (i := 3) sc_tight_chain.nd rfl (by first | exact Or.inl rfl | exact Or.inr rfl))) (pgs_c (pg_nm (pg_name (i := 4) sc_tight_chain.nd rfl (by first | exact Or.inl rfl | exact Or.inr rfl))) pgs_n))) (dss_cons (ds_asg (g := (.tp [(.nm 5), (.nm 6)])) (de_call (ok_raised_from T) (hr.mono (by decide)) rfl T.raised_from.m T.raised_from.F.kp T.raised_from.b .nil (fun _ => .nil) pass0 (da_cons (de_callB dcall_len (by rfl) T.n_len (by decide +kernel) (da_cons (de_var (pv 0)) da_nil)) (da_cons (de_var (pv 1)) (da_cons (de_var (pv 3)) da_nil)))) (pg_tp rfl (pgs_c (pg_nm (pg_name (i := 5) sc_tight_chain.nd rfl (by first | exact Or.inl rfl | exact Or.inr rfl))) (pgs_c (pg_nm (pg_name (i := 6) sc_tight_chain.nd rfl (by first | exact Or.inl rfl | exact Or.inr rfl))) pgs_n))))
      (dss_one (ds_for (g := (.tp [(.nm 7), (.nm 8)])) PassesOwn.never rfl (di_enumQ (by rfl) T.n_enumerate (de_var (pv 5))) (pg_tp rfl (pgs_c (pg_nm (pg_name (i := 7) sc_tight_chain.nd rfl (by first | exact Or.inl rfl | exact Or.inr rfl))) (pgs_c (pg_nm (pg_name (i := 8) sc_tight_chain.nd rfl (by first | exact Or.inl rfl | exact Or.inr rfl))) pgs_n))) (dss_cons (ds_if (dt_cmp dop_is (de_var (pv 8)) de_non (nomark _)) (dss_one ds_continue) dss_nil)
      (dss_cons (ds_set (i := 9) sc_tight_chain.nd rfl (by first | exact Or.inl rfl | exact Or.inr rfl) (de_call (ok_needed_for T) (hr.mono (by decide)) rfl T.needed_for.m T.needed_for.F.kp T.needed_for.b .nil (fun _ => .nil) pass0 (da_cons (de_var (pv 4)) (da_cons (de_var (pv 8)) (da_cons (de_ix dix_seq (de_var (pv 0)) (de_var (pv 7)) (fun _ _ => rfl)) da_nil)))))
      (dss_one (ds_if (dt_w (dw_or (dt_cmp dop_is (de_var (pv 2)) de_non (nomark _)) (dw_or1 (dt_truth (de_call (ok_less T) (hr.mono (by decide)) rfl T.less.m T.less.F.kp T.less.b .nil (fun _ => .nil) pass0 (da_cons (de_ix dix_seq (de_var (pv 2)) de_int (fun _ _ => rfl)) (da_cons (de_var (pv 9)) da_nil))))))) (dss_cons (ds_set (i := 10) sc_tight_chain.nd rfl (by first | exact Or.inl rfl | exact Or.inr rfl) (de_ifExp (dt_cmp (dop_neQ hr.units) (de_var (pv 7)) (de_var (pv 3)) (nomark _)) (de_call (ok_led_back T) (hr.mono (by decide)) rfl T.led_back.m T.led_back.F.kp T.led_back.b .nil (fun _ => .nil) pass0 (da_cons (de_var (pv 6)) (da_cons (de_var (pv 1)) (da_cons (de_var (pv 3)) (da_cons (de_var (pv 7)) da_nil))))) (de_lst da_nil)))
      (dss_one (ds_set (i := 2) sc_tight_chain.nd rfl (by first | exact Or.inl rfl | exact Or.inr rfl) (de_tup (da_cons (de_var (pv 9)) (da_cons (de_var (pv 3)) (da_cons (de_var (pv 10)) (da_cons (de_var (pv 7)) da_nil)))))))) dss_nil))))))))
      (dss_one (ds_ret (de_var (pv 2))))))) rd_tight_chain
theorem ok_nearest_fit (T : Tx K mg) : FnOk P w K mg base (L2.CX P w) 8 T.nearest_fit.f T.nearest_fit.fd P_nearest_fit (cSp K (sp_nearest_fit K)) :=
  DFunX.ok2 T.nearest_fit.F sc_nearest_fit rfl rfl (k := 7) (t := t_nearest_fit sp_need_mark_places sp_need_rules (sp_need_kept K) sp_tight_chain sp_floor_of sp_over sp_minus sp_raised) (fun cdv A outer s H E hr => 
    (dss_cons (ds_expr (de_call (ok_need_mark_places T) (hr.mono (by decide)) rfl T.need_mark_places.m T.need_mark_places.F.kp T.need_mark_places.b .nil (fun _ => .nil) pass0 (da_cons (de_var (pv 0)) da_nil)))
      (dss_cons (ds_expr (de_call (ok_need_rules T) (hr.mono (by decide)) rfl T.need_rules.m T.need_rules.F.kp T.need_rules.b .nil (fun _ => .nil) pass0 (da_cons (de_var (pv 1)) (da_cons (de_callB dcall_len (by rfl) T.n_len (by decide +kernel) (da_cons (de_var (pv 0)) da_nil)) da_nil))))
      (dss_cons (ds_exprX (de_callX takes_cx (ok_need_kept T) (hr.mono (by decide)) rfl T.need_kept.m T.need_kept.F.kp T.need_kept.b (da_cons (de_callB dcall_len (by rfl) T.n_len (by decide +kernel) (da_cons (de_var (pv 0)) da_nil)) (da_cons (de_var (pv 1)) da_nil))))
      (dss_cons (ds_asg (g := (.tp [(.nm 2), (.nm 3), (.nm 4), (.nm 5)])) (de_call (ok_tight_chain T) (hr.mono (by decide)) rfl T.tight_chain.m T.tight_chain.F.kp T.tight_chain.b .nil (fun _ => .nil) pass0 (da_cons (de_var (pv 0)) (da_cons (de_var (pv 1)) da_nil))) (pg_tp rfl (pgs_c (pg_nm (pg_name (i := 2) sc_nearest_fit.nd rfl (by first | exact Or.inl rfl | exact Or.inr rfl))) (pgs_c (pg_nm (pg_name (i := 3) sc_nearest_fit.nd rfl (by first | exact Or.inl rfl | exact Or.inr rfl))) (pgs_c (pg_nm (pg_name (i := 4) sc_nearest_fit.nd rfl (by first | exact Or.inl rfl | exact Or.inr rfl))) (pgs_c (pg_nm (pg_name (i := 5) sc_nearest_fit.nd rfl (by first | exact Or.inl rfl | exact Or.inr rfl))) pgs_n))))))
      (dss_cons (ds_setLc false (i := 6) (own := [("place", 7)]) (g := (.nm 7)) rfl sc_nearest_fit.nd rfl rfl (sw_true rfl rfl rfl (by decide +kernel)) (di_seq (de_var (pv 0))) (blkOk_by (N := N_nearest_fit) (sc := defScope s_nearest_fit) (own := [("place", 7)]) (by decide +kernel)) (fun _ _ _ _ _ => (pg_nm (pg_name (i := 7) sc_nearest_fit.nd rfl (by first | exact Or.inl rfl | exact Or.inr rfl)))) (fun _ _ _ _ _ => dts_nil) (fun _ _ _ _ _ => (de_op dop_sub de_int (de_callK (ks := []) (mds := [D.int 1]) (ok_floor_of T) (hr.mono (by decide)) rfl T.floor_of.m T.floor_of.F.kp T.floor_of_kb0 (fun _ => .cons (.int _) .nil) pass0 (da_cons (de_call (ok_over T) (hr.mono (by decide)) rfl T.over.m T.over.F.kp T.over.b .nil (fun _ => .nil) pass0 (da_cons (de_call (ok_minus T) (hr.mono (by decide)) rfl T.minus.m T.minus.F.kp T.minus.b .nil (fun _ => .nil) pass0 (da_cons (de_var (pv 2)) (da_cons (de_var (pv 7)) da_nil))) (da_cons (de_c (pe_glob (v := .int 64) rfl T.c_CELL ⟨_, rfl⟩) fun _ => .int _) da_nil))) da_nil) dk_nil))) (by decide))
      (dss_one (ds_ret (de_tup (da_cons (de_var (pv 2)) (da_cons (de_ix dix_seq (de_call (ok_raised T) (hr.mono (by decide)) rfl T.raised.m T.raised.F.kp T.raised.b .nil (fun _ => .nil) pass0 (da_cons (de_var (pv 6)) (da_cons (de_var (pv 1)) da_nil))) de_int (fun _ _ => rfl)) (da_cons (de_tup (da_cons (de_var (pv 3)) (da_cons (de_var (pv 4)) (da_cons (de_var (pv 5)) da_nil)))) da_nil)))))))))))) rd_nearest_fit
theorem ok_law_fit (T : Tx K mg) : FnOk P w K mg base CX0 9 T.law_fit.f T.law_fit.fd P_law_fit (cSp K sp_law_fit) :=
  DFun.ok2 T.law_fit.F sc_law_fit rfl rfl (k := 8) (t := t_law_fit (sp_nearest_fit K) sp_law_num) (fun cdv A outer s H E hr => 
    (dss_cons (ds_set (i := 2) sc_law_fit.nd rfl (by first | exact Or.inl rfl | exact Or.inr rfl) (de_call (ok_nearest_fit T) (hr.mono (by decide)) rfl T.nearest_fit.m T.nearest_fit.F.kp T.nearest_fit.b .nil (fun _ => .nil) passX0 (da_cons (de_lc false (own := [("place", 3)]) (g := (.nm 3)) rfl sc_law_fit.nd (di_seq (de_var (pv 0))) (blkOk_by (N := N_law_fit) (sc := defScope s_law_fit) (own := [("place", 3)]) (by decide +kernel)) (fun _ _ _ _ _ => (pg_nm (pg_name (i := 3) sc_law_fit.nd rfl (by first | exact Or.inl rfl | exact Or.inr rfl)))) (fun _ _ _ _ _ => dts_nil) (fun _ _ _ _ _ => (de_call (ok_law_num T) (hr.mono (by decide)) rfl T.law_num.m T.law_num.F.kp T.law_num.b .nil (fun _ => .nil) pass0 (da_cons (de_var (pv 3)) da_nil))) (by decide)) (da_cons (de_var (pv 1)) da_nil))))
      (dss_one (ds_ret (de_ifExp (dt_w (dw_and (dt_truth (de_callB dcall_isi (by rfl) T.n_isinstance (by decide +kernel) (da_cons (de_var (pv 2)) (da_cons (de_c (pe_bltn (v := .ty "tuple") (by rfl) T.n_tuple (by decide +kernel) rfl) fun _ => .ty .tup) da_nil)))) (dw_and1 (dt_cmp (dop_eqQ hr.units) (de_callB dcall_len (by rfl) T.n_len (by decide +kernel) (da_cons (de_var (pv 2)) da_nil)) de_int (nomark _))))) (de_lst (da_cons (de_ix dix_seq (de_var (pv 2)) de_int (fun _ _ => rfl)) (da_cons (de_ix dix_seq (de_var (pv 2)) de_int (fun _ _ => rfl)) da_nil))) de_non))))) rd_law_fit
theorem ok_law_same_n (T : Tx K mg) : ∀ n : Nat, FnOk P w K mg base CX0 (n + 1) T.law_same.f T.law_same.fd P_law_same (cSp K (sp_law_same_n n))
  | 0 => DFunD.ok (k := 0) T.law_same.F sc_law_same (fun _ _ _ _ h => (no_law_same h).elim) (fun _ _ _ _ _ _ _ _ _ _ _ h => (no_law_same h).elim)
  | n + 1 => DFun.ok2 T.law_same.F sc_law_same rfl rfl (k := n + 1) (t := t_law_same (sp_law_same_n n)) (fun cdv A outer s H E hr => 
    (dss_cons (ds_if (dt_w (dw_or (dt_cmp dop_is (de_var (pv 1)) de_non (nomark _)) (dw_or1 (dt_truth (de_callB dcall_isi (by rfl) T.n_isinstance (by decide +kernel) (da_cons (de_var (pv 1)) (da_cons (de_c (pe_bltn (v := .ty "bool") (by rfl) T.n_bool (by decide +kernel) rfl) fun _ => .ty .bool) da_nil))))))) (dss_one (ds_ret (de_ifExp (dt_cmp dop_is (de_var (pv 1)) de_non (nomark _)) (de_cmp dop_is (de_var (pv 0)) de_non (nomark _)) (de_and (de_callB dcall_isi (by rfl) T.n_isinstance (by decide +kernel) (da_cons (de_var (pv 0)) (da_cons (de_c (pe_bltn (v := .ty "bool") (by rfl) T.n_bool (by decide +kernel) rfl) fun _ => .ty .bool) da_nil))) (de_one (de_cmp (dop_eqQ hr.units) (de_cmp dop_is (de_var (pv 0)) de_bl (nomark _)) (de_cmp dop_is (de_var (pv 1)) de_bl (nomark _)) (nomark _))))))) dss_nil)
      (dss_cons (ds_if (dt_truth (de_callB dcall_isi (by rfl) T.n_isinstance (by decide +kernel) (da_cons (de_var (pv 1)) (da_cons (de_c (pe_bltn (v := .ty "int") (by rfl) T.n_int (by decide +kernel) rfl) fun _ => .ty .int) da_nil)))) (dss_one (ds_ret (de_and (de_callB dcall_isi (by rfl) T.n_isinstance (by decide +kernel) (da_cons (de_var (pv 0)) (da_cons (de_c (pe_bltn (v := .ty "int") (by rfl) T.n_int (by decide +kernel) rfl) fun _ => .ty .int) da_nil))) (de_and (de_not (de_callB dcall_isi (by rfl) T.n_isinstance (by decide +kernel) (da_cons (de_var (pv 0)) (da_cons (de_c (pe_bltn (v := .ty "bool") (by rfl) T.n_bool (by decide +kernel) rfl) fun _ => .ty .bool) da_nil)))) (de_one (de_cmp (dop_eqQ hr.units) (de_op dop_sub (de_callTy dcall_int (by rfl) T.n_int (by decide +kernel) (da_cons (de_var (pv 0)) da_nil)) (de_var (pv 1))) de_int (nomark _))))))) dss_nil)
      (dss_cons (ds_if (dt_truth (de_callB dcall_isi (by rfl) T.n_isinstance (by decide +kernel) (da_cons (de_var (pv 1)) (da_cons (de_c (pe_bltn (v := .ty "str") (by rfl) T.n_str (by decide +kernel) rfl) fun _ => .ty .str) da_nil)))) (dss_cons (ds_if (dt_w (dw_or (dt_not (dt_truth (de_callB dcall_isi (by rfl) T.n_isinstance (by decide +kernel) (da_cons (de_var (pv 0)) (da_cons (de_c (pe_bltn (v := .ty "str") (by rfl) T.n_str (by decide +kernel) rfl) fun _ => .ty .str) da_nil))))) (dw_or1 (dt_cmp (dop_neQ hr.units) (de_callB dcall_len (by rfl) T.n_len (by decide +kernel) (da_cons (de_var (pv 0)) da_nil)) (de_callB dcall_len (by rfl) T.n_len (by decide +kernel) (da_cons (de_var (pv 1)) da_nil)) (nomark _))))) (dss_one (ds_ret de_bl)) dss_nil)
      (dss_one (ds_ret (de_cmp (dop_eqQ hr.units) (de_lc false (own := [("k", 2)]) (g := (.nm 2)) rfl sc_law_same.nd (di_range1 (by rfl) T.n_range (de_callB dcall_len (by rfl) T.n_len (by decide +kernel) (da_cons (de_var (pv 1)) da_nil))) (blkOk_by (N := N_law_same) (sc := defScope s_law_same) (own := [("k", 2)]) (by decide +kernel)) (fun _ _ _ _ _ => (pg_nm (pg_name (i := 2) sc_law_same.nd rfl (by first | exact Or.inl rfl | exact Or.inr rfl)))) (fun _ _ _ _ _ => (dts_one (dt_cmp (dop_neQ hr.units) (de_slice false (de_var (pv 0)) (do_some (de_var (pv 2))) (do_some (de_op dop_add (de_var (pv 2)) de_int))) (de_ix dix_seq (de_var (pv 1)) (de_var (pv 2)) (fun _ _ => rfl)) (nomark _)))) (fun _ _ _ _ _ => (de_var (pv 2))) (by decide)) (de_lst da_nil) (nomark _))))) dss_nil)
      (dss_cons (ds_if (dt_w (dw_or (dt_cmp (dop_neQ hr.units) (de_callB dcall_isi (by rfl) T.n_isinstance (by decide +kernel) (da_cons (de_var (pv 0)) (da_cons (de_c (pe_bltn (v := .ty "list") (by rfl) T.n_list (by decide +kernel) rfl) fun _ => .ty .lst) da_nil))) (de_callB dcall_isi (by rfl) T.n_isinstance (by decide +kernel) (da_cons (de_var (pv 1)) (da_cons (de_c (pe_bltn (v := .ty "list") (by rfl) T.n_list (by decide +kernel) rfl) fun _ => .ty .lst) da_nil))) (nomark _)) (dw_or1 (dt_cmp (dop_neQ hr.units) (de_callB dcall_isi (by rfl) T.n_isinstance (by decide +kernel) (da_cons (de_var (pv 0)) (da_cons (de_c (pe_bltn (v := .ty "tuple") (by rfl) T.n_tuple (by decide +kernel) rfl) fun _ => .ty .tup) da_nil))) (de_callB dcall_isi (by rfl) T.n_isinstance (by decide +kernel) (da_cons (de_var (pv 1)) (da_cons (de_c (pe_bltn (v := .ty "tuple") (by rfl) T.n_tuple (by decide +kernel) rfl) fun _ => .ty .tup) da_nil))) (nomark _))))) (dss_one (ds_ret de_bl)) dss_nil)
      (dss_one (ds_ret (de_and (de_cmp (dop_eqQ hr.units) (de_callB dcall_len (by rfl) T.n_len (by decide +kernel) (da_cons (de_var (pv 0)) da_nil)) (de_callB dcall_len (by rfl) T.n_len (by decide +kernel) (da_cons (de_var (pv 1)) da_nil)) (nomark _)) (de_one (de_cmp (dop_eqQ hr.units) (de_lc false (own := [("k", 2)]) (g := (.nm 2)) rfl sc_law_same.nd (di_range1 (by rfl) T.n_range (de_callB dcall_len (by rfl) T.n_len (by decide +kernel) (da_cons (de_var (pv 1)) da_nil))) (blkOk_by (N := N_law_same) (sc := defScope s_law_same) (own := [("k", 2)]) (by decide +kernel)) (fun _ _ _ _ _ => (pg_nm (pg_name (i := 2) sc_law_same.nd rfl (by first | exact Or.inl rfl | exact Or.inr rfl)))) (fun _ _ _ _ _ => (dts_one (dt_not (dt_truth (de_call (ok_law_same_n T n) hr rfl T.law_same.m T.law_same.F.kp T.law_same.b .nil (fun _ => .nil) pass0 (da_cons (de_ix dix_seq (de_var (pv 0)) (de_var (pv 2)) (fun _ _ => rfl)) (da_cons (de_ix dix_seq (de_var (pv 1)) (de_var (pv 2)) (fun _ _ => rfl)) da_nil))))))) (fun _ _ _ _ _ => (de_var (pv 2))) (by decide)) (de_lst da_nil) (nomark _))))))))))) (rd_law_same n)
theorem ok_law_same (T : Tx K mg) : FnOk P w K mg base CX0 8 T.law_same.f T.law_same.fd P_law_same (cSp K sp_law_same) := ok_law_same_n T 7
theorem ok_law_far (T : Tx K mg) : FnOk P w K mg base CX0 1 T.law_far.f T.law_far.fd P_law_far (cSp K sp_law_far) :=
  DFun.ok2 T.law_far.F sc_law_far rfl rfl (k := 0) (t := t_law_far K) (fun cdv A outer s H E hr => 
    (dss_cons (ds_set (i := 4) sc_law_far.nd rfl (by first | exact Or.inl rfl | exact Or.inr rfl) (de_lc true (own := [("k", 2)]) (g := (.nm 2)) rfl sc_law_far.nd (di_range1 (by rfl) T.n_range (de_var (pv 0))) (blkOk_by (N := N_law_far) (sc := defScope s_law_far) (own := [("k", 2)]) (by decide +kernel)) (fun _ _ _ _ _ => (pg_nm (pg_name (i := 2) sc_law_far.nd rfl (by first | exact Or.inl rfl | exact Or.inr rfl)))) (fun _ _ _ _ _ => dts_nil) (fun _ _ _ _ _ => (de_lc true (own := [("j", 3)]) (g := (.nm 3)) rfl sc_law_far.nd (di_range1 (by rfl) T.n_range (de_var (pv 0))) (blkOk_by (N := N_law_far) (sc := { kind := .function, names := [(".0", .local), ("k", .cell), ("range", .globalImplicit), ("many", .cell)], isGenerator := false, isCoroutine := false }) (own := [("j", 3)]) (by decide +kernel)) (fun _ _ _ _ _ => (pg_nm (pg_name (i := 3) sc_law_far.nd rfl (by first | exact Or.inl rfl | exact Or.inr rfl)))) (fun _ _ _ _ _ => dts_nil) (fun _ _ _ _ _ => (de_ifExp (dt_cmp (dop_eqQ hr.units) (de_var (pv 2)) (de_var (pv 3)) (nomark _)) de_int de_non)) (by decide))) (by decide)))
      (dss_cons (ds_for (g := (.tp [(.nm 5), (.nm 6), (.nm 7)])) PassesOwn.never rfl (di_seq (de_var (pv 1))) (pg_tp rfl (pgs_c (pg_nm (pg_name (i := 5) sc_law_far.nd rfl (by first | exact Or.inl rfl | exact Or.inr rfl))) (pgs_c (pg_nm (pg_name (i := 6) sc_law_far.nd rfl (by first | exact Or.inl rfl | exact Or.inr rfl))) (pgs_c (pg_nm (pg_name (i := 7) sc_law_far.nd rfl (by first | exact Or.inl rfl | exact Or.inr rfl))) pgs_n)))) (dss_one (ds_if (dt_w (dw_or (dt_cmp dop_is (de_ix dix_seq (de_ix dix_seq (de_var (pv 4)) (de_var (pv 5)) (fun _ _ => rfl)) (de_var (pv 6)) (fun _ _ => rfl)) de_non (nomark _)) (dw_or1 (dt_cmp dop_lt (de_ix dix_seq (de_ix dix_seq (de_var (pv 4)) (de_var (pv 5)) (fun _ _ => rfl)) (de_var (pv 6)) (fun _ _ => rfl)) (de_var (pv 7)) (nomark _))))) (dss_one (ds_sub (de_var (pv 7)) (de_ix dix_seq (de_var (pv 4)) (de_var (pv 5)) (fun _ _ => rfl)) (de_var (pv 6)))) dss_nil)))
      (dss_cons (ds_for (g := (.nm 8)) PassesOwn.never rfl (di_range1 (by rfl) T.n_range (de_var (pv 0))) (pg_nm (pg_name (i := 8) sc_law_far.nd rfl (by first | exact Or.inl rfl | exact Or.inr rfl))) (dss_cons (ds_for (g := (.nm 2)) PassesOwn.never rfl (di_range1 (by rfl) T.n_range (de_var (pv 0))) (pg_nm (pg_name (i := 2) sc_law_far.nd rfl (by first | exact Or.inl rfl | exact Or.inr rfl))) (dss_one (ds_if (dt_cmp dop_isN (de_ix dix_seq (de_ix dix_seq (de_var (pv 4)) (de_var (pv 2)) (fun _ _ => rfl)) (de_var (pv 8)) (fun _ _ => rfl)) de_non (nomark _)) (dss_one (ds_for (g := (.nm 3)) PassesOwn.never rfl (di_range1 (by rfl) T.n_range (de_var (pv 0))) (pg_nm (pg_name (i := 3) sc_law_far.nd rfl (by first | exact Or.inl rfl | exact Or.inr rfl))) (dss_one (ds_if (dt_w (dw_and (dt_cmp dop_isN (de_ix dix_seq (de_ix dix_seq (de_var (pv 4)) (de_var (pv 8)) (fun _ _ => rfl)) (de_var (pv 3)) (fun _ _ => rfl)) de_non (nomark _)) (dw_and1 (dt_w (dw_or (dt_cmp dop_is (de_ix dix_seq (de_ix dix_seq (de_var (pv 4)) (de_var (pv 2)) (fun _ _ => rfl)) (de_var (pv 3)) (fun _ _ => rfl)) de_non (nomark _)) (dw_or1 (dt_cmp dop_lt (de_ix dix_seq (de_ix dix_seq (de_var (pv 4)) (de_var (pv 2)) (fun _ _ => rfl)) (de_var (pv 3)) (fun _ _ => rfl)) (de_op dop_add (de_ix dix_seq (de_ix dix_seq (de_var (pv 4)) (de_var (pv 2)) (fun _ _ => rfl)) (de_var (pv 8)) (fun _ _ => rfl)) (de_ix dix_seq (de_ix dix_seq (de_var (pv 4)) (de_var (pv 8)) (fun _ _ => rfl)) (de_var (pv 3)) (fun _ _ => rfl))) (nomark _)))))))) (dss_one (ds_sub (de_op dop_add (de_ix dix_seq (de_ix dix_seq (de_var (pv 4)) (de_var (pv 2)) (fun _ _ => rfl)) (de_var (pv 8)) (fun _ _ => rfl)) (de_ix dix_seq (de_ix dix_seq (de_var (pv 4)) (de_var (pv 8)) (fun _ _ => rfl)) (de_var (pv 3)) (fun _ _ => rfl))) (de_ix dix_seq (de_var (pv 4)) (de_var (pv 2)) (fun _ _ => rfl)) (de_var (pv 3)))) dss_nil)))) dss_nil)))
      (dss_one (ds_if (dt_cmp (dop_neQ hr.units) (de_lc false (own := [("k", 2)]) (g := (.nm 2)) rfl sc_law_far.nd (di_range1 (by rfl) T.n_range (de_var (pv 0))) (blkOk_by (N := N_law_far) (sc := defScope s_law_far) (own := [("k", 2)]) (by decide +kernel)) (fun _ _ _ _ _ => (pg_nm (pg_name (i := 2) sc_law_far.nd rfl (by first | exact Or.inl rfl | exact Or.inr rfl)))) (fun _ _ _ _ _ => (dts_one (dt_cmp dop_gt (de_ix dix_seq (de_ix dix_seq (de_var (pv 4)) (de_var (pv 2)) (fun _ _ => rfl)) (de_var (pv 2)) (fun _ _ => rfl)) de_int (nomark _)))) (fun _ _ _ _ _ => (de_var (pv 2))) (by decide)) (de_lst da_nil) (nomark _)) (dss_one (ds_ghost (ds_ret de_non))) dss_nil))))
      (dss_one (ds_ghost (ds_ret (de_var (pv 4))))))))) rd_law_far
theorem ok_need_marks (T : Tx K mg) : FnOk P w K mg base CX0 5 T.need_marks.f T.need_marks.fd P_need_marks (cSp K sp_need_marks) :=
  DFun.ok2 T.need_marks.F sc_need_marks rfl rfl (k := 4) (t := t_need_marks sp_is_whole sp_need_rules) (fun cdv A outer s H E hr => 
    (dss_cons (ds_if (dt_not (dt_truth (de_call (ok_is_whole T) (hr.mono (by decide)) rfl T.is_whole.m T.is_whole.F.kp T.is_whole.b .nil (fun _ => .nil) pass0 (da_cons (de_var (pv 0)) (da_cons de_int (da_cons (de_c (pe_glob (v := .int 24) rfl T.c_MOST_MARKS ⟨_, rfl⟩) fun _ => .int _) da_nil)))))) (dss_one ds_never) dss_nil)
      (dss_one (ds_expr (de_call (ok_need_rules T) (hr.mono (by decide)) rfl T.need_rules.m T.need_rules.F.kp T.need_rules.b .nil (fun _ => .nil) pass0 (da_cons (de_var (pv 1)) (da_cons (de_var (pv 0)) da_nil))))))) rd_need_marks
theorem ok_follows (T : Tx K mg) : FnOk P w K mg base (L2.CX P w) 6 T.follows.f T.follows.fd P_follows (cSp K (sp_follows K)) :=
  DFunX.ok3 T.follows.F sc_follows rfl rfl (k := 5) (t := t_follows sp_need_marks sp_is_rule (sp_need_kept K) sp_raised_from sp_led_back sp_raised) (fun cdv A outer s H E hr => 
    (dss_cons (ds_expr (de_call (ok_need_marks T) (hr.mono (by decide)) rfl T.need_marks.m T.need_marks.F.kp T.need_marks.b .nil (fun _ => .nil) pass0 (da_cons (de_var (pv 0)) (da_cons (de_var (pv 1)) da_nil))))
      (dss_cons (ds_if (dt_not (dt_truth (de_call (ok_is_rule T) (hr.mono (by decide)) rfl T.is_rule.m T.is_rule.F.kp T.is_rule.b .nil (fun _ => .nil) pass0 (da_cons (de_var (pv 2)) (da_cons (de_var (pv 0)) da_nil))))) (dss_one ds_never) dss_nil)
      (dss_cons (ds_exprX (de_callX takes_cx (ok_need_kept T) (hr.mono (by decide)) rfl T.need_kept.m T.need_kept.F.kp T.need_kept.b (da_cons (de_var (pv 0)) (da_cons (de_var (pv 1)) da_nil))))
      (dss_cons (ds_asg (g := (.tp [(.nm 3), (.nm 4), (.nm 5)])) (de_var (pv 2)) (pg_tp rfl (pgs_c (pg_nm (pg_name (i := 3) sc_follows.nd rfl (by first | exact Or.inl rfl | exact Or.inr rfl))) (pgs_c (pg_nm (pg_name (i := 4) sc_follows.nd rfl (by first | exact Or.inl rfl | exact Or.inr rfl))) (pgs_c (pg_nm (pg_name (i := 5) sc_follows.nd rfl (by first | exact Or.inl rfl | exact Or.inr rfl))) pgs_n)))))
      (dss_cons (ds_asg (g := (.tp [(.nm 6), (.nm 7)])) (de_call (ok_raised_from T) (hr.mono (by decide)) rfl T.raised_from.m T.raised_from.F.kp T.raised_from.b .nil (fun _ => .nil) pass0 (da_cons (de_var (pv 0)) (da_cons (de_var (pv 1)) (da_cons (de_var (pv 3)) da_nil)))) (pg_tp rfl (pgs_c (pg_nm (pg_name (i := 6) sc_follows.nd rfl (by first | exact Or.inl rfl | exact Or.inr rfl))) (pgs_c (pg_nm (pg_name (i := 7) sc_follows.nd rfl (by first | exact Or.inl rfl | exact Or.inr rfl))) pgs_n))))
      (dss_cons (ds_if (dt_w (dw_and (dt_cmp dop_isN (de_ix dix_seq (de_var (pv 6)) (de_var (pv 4)) (fun _ _ => rfl)) de_non (nomark _)) (dw_and1 (dt_cmp dop_ge (de_ix dix_seq (de_var (pv 6)) (de_var (pv 4)) (fun _ _ => rfl)) (de_var (pv 5)) (nomark _))))) (dss_one (ds_ret (de_tup (da_cons de_str (da_cons (de_call (ok_led_back T) (hr.mono (by decide)) rfl T.led_back.m T.led_back.F.kp T.led_back.b .nil (fun _ => .nil) pass0 (da_cons (de_var (pv 7)) (da_cons (de_var (pv 1)) (da_cons (de_var (pv 3)) (da_cons (de_var (pv 4)) da_nil))))) da_nil))))) dss_nil)
      (dss_one (ds_ret (de_tup (da_cons de_str (da_cons (de_ix dix_seq (de_call (ok_raised T) (hr.mono (by decide)) rfl T.raised.m T.raised.F.kp T.raised.b .nil (fun _ => .nil) pass0 (da_cons (de_op (dop_rep false) (de_lst (da_cons de_int da_nil)) (de_var (pv 0))) (da_cons (de_op dop_add (de_callTy (dcall_list false) (by rfl) T.n_list (by decide +kernel) (da_cons (de_var (pv 1)) da_nil)) (de_lst (da_cons (de_tup (da_cons (de_var (pv 4)) (da_cons (de_var (pv 3)) (da_cons (de_op dop_sub de_int (de_var (pv 5))) da_nil)))) da_nil))) da_nil))) de_int (fun _ _ => rfl)) da_nil)))))))))))) rd_follows
theorem ok_law_thinned (T : Tx K mg) : FnOk P w K mg base CX0 7 T.law_thinned.f T.law_thinned.fd P_law_thinned (cSp K sp_law_thinned) :=
  DFun.ok2 T.law_thinned.F sc_law_thinned rfl rfl (k := 6) (t := t_law_thinned K sp_law_far (sp_follows K)) (fun cdv A outer s H E hr => 
    (dss_cons (ds_set (i := 2) sc_law_thinned.nd rfl (by first | exact Or.inl rfl | exact Or.inr rfl) (de_callTy (dcall_list false) (by rfl) T.n_list (by decide +kernel) (da_cons (de_var (pv 1)) da_nil)))
      (dss_cons (ds_for (g := (.nm 3)) PassesOwn.never rfl (di_seq (de_var (pv 1))) (pg_nm (pg_name (i := 3) sc_law_thinned.nd rfl (by first | exact Or.inl rfl | exact Or.inr rfl))) (dss_cons (ds_set (i := 4) sc_law_thinned.nd rfl (by first | exact Or.inl rfl | exact Or.inr rfl) (de_callTy (dcall_list true) (by rfl) T.n_list (by decide +kernel) (da_cons (de_var (pv 2)) da_nil)))
      (dss_cons (ds_expr (de_mtL PySem.F.slot_list_remove PySem.F.type_list_remove (dmt_remove (units65 hr)) (de_var (pv 4)) (da_cons (de_var (pv 3)) da_nil)))
      (dss_cons (ds_ghost (ds_set (i := 5) sc_law_thinned.nd rfl (by first | exact Or.inl rfl | exact Or.inr rfl) (de_call (ok_law_far T) (hr.mono (by decide)) rfl T.law_far.m T.law_far.F.kp T.law_far.b .nil (fun _ => .nil) pass0 (da_cons (de_var (pv 0)) (da_cons (de_var (pv 4)) da_nil)))))
      (dss_one (ds_if (dt_w (dw_and (dt_cmp dop_isN (de_ix dix_seq (de_ix dix_seq (de_var (pv 5)) (de_ix dix_seq (de_var (pv 3)) de_int (fun _ _ => rfl)) (fun _ _ => rfl)) (de_ix dix_seq (de_var (pv 3)) de_int (fun _ _ => rfl)) (fun _ _ => rfl)) de_non (nomark _)) (dw_and1 (dt_cmp dop_ge (de_ix dix_seq (de_ix dix_seq (de_var (pv 5)) (de_ix dix_seq (de_var (pv 3)) de_int (fun _ _ => rfl)) (fun _ _ => rfl)) (de_ix dix_seq (de_var (pv 3)) de_int (fun _ _ => rfl)) (fun _ _ => rfl)) (de_ix dix_seq (de_var (pv 3)) de_int (fun _ _ => rfl)) (nomark _))))) (dss_cons (ds_if (dt_cmp (dop_neQ hr.units) (de_ix dix_seq (de_call (ok_follows T) (hr.mono (by decide)) rfl T.follows.m T.follows.F.kp T.follows.b .nil (fun _ => .nil) passX0 (da_cons (de_var (pv 0)) (da_cons (de_callTy (dcall_list false) (by rfl) T.n_list (by decide +kernel) (da_cons (de_var (pv 4)) da_nil)) (da_cons (de_var (pv 3)) da_nil)))) de_int (fun _ _ => rfl)) de_str (nomark _)) (dss_one (ds_ret de_non)) dss_nil)
      (dss_one (ds_set (i := 2) sc_law_thinned.nd rfl (by first | exact Or.inl rfl | exact Or.inr rfl) (de_var (pv 4))))) (dss_one (ds_if (dt_cmp (dop_neQ hr.units) (de_ix dix_seq (de_call (ok_follows T) (hr.mono (by decide)) rfl T.follows.m T.follows.F.kp T.follows.b .nil (fun _ => .nil) passX0 (da_cons (de_var (pv 0)) (da_cons (de_callTy (dcall_list false) (by rfl) T.n_list (by decide +kernel) (da_cons (de_var (pv 4)) da_nil)) (da_cons (de_var (pv 3)) da_nil)))) de_int (fun _ _ => rfl)) de_str (nomark _)) (dss_one (ds_ret de_non)) dss_nil))))))))
      (dss_one (ds_ret (de_var (pv 2))))))) rd_law_thinned
theorem ok_law_all_implied (T : Tx K mg) : FnOk P w K mg base CX0 1 T.law_all_implied.f T.law_all_implied.fd P_law_all_implied (cSp K sp_law_all_implied) :=
  DFun.ok1 T.law_all_implied.F sc_law_all_implied rfl rfl (k := 0) (t := t_law_all_implied) (fun cdv A outer s H E hr => 
    (dss_cons (ds_set (i := 1) sc_law_all_implied.nd rfl (by first | exact Or.inl rfl | exact Or.inr rfl) (de_callB dcall_len (by rfl) T.n_len (by decide +kernel) (da_cons (de_var (pv 0)) da_nil)))
      (dss_cons (ds_set (i := 2) sc_law_all_implied.nd rfl (by first | exact Or.inl rfl | exact Or.inr rfl) (de_lst da_nil))
      (dss_cons (ds_for (g := (.nm 3)) PassesOwn.never rfl (di_range1 (by rfl) T.n_range (de_var (pv 1))) (pg_nm (pg_name (i := 3) sc_law_all_implied.nd rfl (by first | exact Or.inl rfl | exact Or.inr rfl))) (dss_one (ds_set (i := 2) sc_law_all_implied.nd rfl (by first | exact Or.inl rfl | exact Or.inr rfl) (de_op dop_add (de_var (pv 2)) (de_lc false (own := [("j", 5)]) (g := (.nm 5)) rfl sc_law_all_implied.nd (di_range1 (by rfl) T.n_range (de_var (pv 1))) (blkOk_by (N := N_law_all_implied) (sc := defScope s_law_all_implied) (own := [("j", 5)]) (by decide +kernel)) (fun _ _ _ _ _ => (pg_nm (pg_name (i := 5) sc_law_all_implied.nd rfl (by first | exact Or.inl rfl | exact Or.inr rfl)))) (fun _ _ _ _ _ => (dts_one (dt_w (dw_and (dt_cmp (dop_neQ hr.units) (de_var (pv 3)) (de_var (pv 5)) (nomark _)) (dw_and1 (dt_cmp dop_isN (de_ix dix_seq (de_ix dix_seq (de_var (pv 0)) (de_var (pv 3)) (fun _ _ => rfl)) (de_var (pv 5)) (fun _ _ => rfl)) de_non (nomark _))))))) (fun _ _ _ _ _ => (de_tup (da_cons (de_var (pv 3)) (da_cons (de_var (pv 5)) (da_cons (de_ix dix_seq (de_ix dix_seq (de_var (pv 0)) (de_var (pv 3)) (fun _ _ => rfl)) (de_var (pv 5)) (fun _ _ => rfl)) da_nil))))) (by decide))))))
      (dss_one (ds_ret (de_lc false (own := [("rule", 4)]) (g := (.nm 4)) rfl sc_law_all_implied.nd (di_seq (de_var (pv 2))) (blkOk_by (N := N_law_all_implied) (sc := defScope s_law_all_implied) (own := [("rule", 4)]) (by decide +kernel)) (fun _ _ _ _ _ => (pg_nm (pg_name (i := 4) sc_law_all_implied.nd rfl (by first | exact Or.inl rfl | exact Or.inr rfl)))) (fun _ _ _ _ _ => (dts_one (dt_chain dop_le dop_le (de_un dun_neg de_int) (de_ix dix_seq (de_var (pv 4)) de_int (fun _ _ => rfl)) de_int))) (fun _ _ _ _ _ => (de_var (pv 4))) (by decide)))))))) rd_law_all_implied
theorem ok_implied_cells (T : Tx K mg) : FnOk P w K mg base CX0 3 T.implied_cells.f T.implied_cells.fd P_implied_cells (cSp K sp_implied_cells) :=
  DFun.ok4 T.implied_cells.F sc_implied_cells rfl rfl (k := 2) (t := t_implied_cells sp_raised_from) (fun cdv A outer s H E hr => 
    (dss_cons (ds_asg (g := (.tp [(.nm 4), (.nm 5)])) (de_call (ok_raised_from T) (hr.mono (by decide)) rfl T.raised_from.m T.raised_from.F.kp T.raised_from.b .nil (fun _ => .nil) pass0 (da_cons (de_var (pv 0)) (da_cons (de_var (pv 1)) (da_cons (de_var (pv 2)) da_nil)))) (pg_tp rfl (pgs_c (pg_nm (pg_name (i := 4) sc_implied_cells.nd rfl (by first | exact Or.inl rfl | exact Or.inr rfl))) (pgs_c (pg_nm (pg_name (i := 5) sc_implied_cells.nd rfl (by first | exact Or.inl rfl | exact Or.inr rfl))) pgs_n))))
      (dss_one (ds_ret (de_ix dix_seq (de_var (pv 4)) (de_var (pv 3)) (fun _ _ => rfl)))))) rd_implied_cells
theorem ok_apart_by (T : Tx K mg) : FnOk P w K mg base (L2.CX P w) 6 T.apart_by.f T.apart_by.fd P_apart_by (cSp K (sp_apart_by K)) :=
  DFunX.ok4 T.apart_by.F sc_apart_by rfl rfl (k := 5) (t := t_apart_by sp_need_marks sp_is_rule (sp_need_kept K) sp_implied_cells) (fun cdv A outer s H E hr => 
    (dss_cons (ds_expr (de_call (ok_need_marks T) (hr.mono (by decide)) rfl T.need_marks.m T.need_marks.F.kp T.need_marks.b .nil (fun _ => .nil) pass0 (da_cons (de_var (pv 0)) (da_cons (de_var (pv 1)) da_nil))))
      (dss_cons (ds_if (dt_not (dt_truth (de_call (ok_is_rule T) (hr.mono (by decide)) rfl T.is_rule.m T.is_rule.F.kp T.is_rule.b .nil (fun _ => .nil) pass0 (da_cons (de_tup (da_cons (de_var (pv 2)) (da_cons (de_var (pv 3)) (da_cons de_int da_nil)))) (da_cons (de_var (pv 0)) da_nil))))) (dss_one ds_never) dss_nil)
      (dss_cons (ds_exprX (de_callX takes_cx (ok_need_kept T) (hr.mono (by decide)) rfl T.need_kept.m T.need_kept.F.kp T.need_kept.b (da_cons (de_var (pv 0)) (da_cons (de_var (pv 1)) da_nil))))
      (dss_one (ds_ret (de_call (ok_implied_cells T) (hr.mono (by decide)) rfl T.implied_cells.m T.implied_cells.F.kp T.implied_cells.b .nil (fun _ => .nil) pass0 (da_cons (de_var (pv 0)) (da_cons (de_var (pv 1)) (da_cons (de_var (pv 2)) (da_cons (de_var (pv 3)) da_nil))))))))))) rd_apart_by
theorem ok_law_more_right (T : Tx K mg) : FnOk P w K mg base CX0 10 T.law_more_right.f T.law_more_right.fd P_law_more_right (cSp K sp_law_more_right) :=
  DFun.ok5 T.law_more_right.F sc_law_more_right rfl rfl (k := 9) (t := t_law_more_right sp_law_take sp_law_far sp_law_fit sp_law_least_movement sp_law_same sp_law_cells_due sp_law_num sp_law_less (sp_apart_by K)) (fun cdv A outer s H E hr => 
    (dss_cons (ds_set (i := 5) sc_law_more_right.nd rfl (by first | exact Or.inl rfl | exact Or.inr rfl) (de_callB dcall_len (by rfl) T.n_len (by decide +kernel) (da_cons (de_var (pv 1)) da_nil)))
      (dss_cons (ds_set (i := 6) sc_law_more_right.nd rfl (by first | exact Or.inl rfl | exact Or.inr rfl) (de_call (ok_law_take T) (hr.mono (by decide)) rfl T.law_take.m T.law_take.F.kp T.law_take.b .nil (fun _ => .nil) pass0 (da_cons (de_var (pv 0)) (da_cons (de_var (pv 5)) da_nil))))
      (dss_cons (ds_set (i := 7) sc_law_more_right.nd rfl (by first | exact Or.inl rfl | exact Or.inr rfl) (de_op dop_mod (de_callTy dcall_int (by rfl) T.n_int (by decide +kernel) (da_cons (de_op dop_add (de_op dop_add (de_var (pv 6)) de_int) (de_call (ok_law_take T) (hr.mono (by decide)) rfl T.law_take.m T.law_take.F.kp T.law_take.b .nil (fun _ => .nil) pass0 (da_cons (de_var (pv 0)) (da_cons (de_op dop_sub (de_var (pv 5)) de_int) da_nil)))) da_nil)) (de_var (pv 5))))
      (dss_cons (ds_set (i := 8) sc_law_more_right.nd rfl (by first | exact Or.inl rfl | exact Or.inr rfl) (de_op dop_sub (de_ix dix_seq (de_ix dix_seq (de_var (pv 3)) de_int (fun _ _ => rfl)) (de_var (pv 7)) (fun _ _ => rfl)) (de_ix dix_seq (de_ix dix_seq (de_var (pv 3)) de_int (fun _ _ => rfl)) (de_var (pv 6)) (fun _ _ => rfl))))
      (dss_cons (ds_set (i := 9) sc_law_more_right.nd rfl (by first | exact Or.inl rfl | exact Or.inr rfl) (de_tup (da_cons (de_var (pv 6)) (da_cons (de_var (pv 7)) (da_cons (de_callB (dcall_max2 rfl) (by rfl) T.n_max (by decide +kernel) (da_cons (de_un dun_neg de_int) (da_cons (de_callB (dcall_min2 rfl) (by rfl) T.n_min (by decide +kernel) (da_cons de_int (da_cons (de_op dop_sub (de_op dop_add (de_var (pv 8)) (de_call (ok_law_take T) (hr.mono (by decide)) rfl T.law_take.m T.law_take.F.kp T.law_take.b .nil (fun _ => .nil) pass0 (da_cons (de_var (pv 0)) (da_cons de_int da_nil)))) de_int) da_nil))) da_nil))) da_nil)))))
      (dss_cons (ds_set (i := 10) sc_law_more_right.nd rfl (by first | exact Or.inl rfl | exact Or.inr rfl) (de_call (ok_law_far T) (hr.mono (by decide)) rfl T.law_far.m T.law_far.F.kp T.law_far.b .nil (fun _ => .nil) pass0 (da_cons (de_var (pv 5)) (da_cons (de_op dop_add (de_var (pv 2)) (de_lst (da_cons (de_var (pv 9)) da_nil))) da_nil))))
      (dss_cons (ds_if (dt_cmp dop_is (de_var (pv 10)) de_non (nomark _)) (dss_one (ds_ret de_bl)) dss_nil)
      (dss_cons (ds_set (i := 11) sc_law_more_right.nd rfl (by first | exact Or.inl rfl | exact Or.inr rfl) (de_call (ok_law_fit T) (hr.mono (by decide)) rfl T.law_fit.m T.law_fit.F.kp T.law_fit.b .nil (fun _ => .nil) pass0 (da_cons (de_var (pv 1)) (da_cons (de_op dop_add (de_var (pv 2)) (de_lst (da_cons (de_var (pv 9)) da_nil))) da_nil))))
      (dss_cons (ds_set (i := 12) sc_law_more_right.nd rfl (by first | exact Or.inl rfl | exact Or.inr rfl) (de_call (ok_law_least_movement T) (hr.mono (by decide)) rfl T.law_least_movement.m T.law_least_movement.F.kp T.law_least_movement.b .nil (fun _ => .nil) pass0 (da_cons (de_var (pv 1)) (da_cons (de_var (pv 10)) da_nil))))
      (dss_cons (ds_if (dt_w (dw_or (dt_cmp dop_is (de_var (pv 11)) de_non (nomark _)) (dw_or1 (dt_not (dt_truth (de_call (ok_law_same T) (hr.mono (by decide)) rfl T.law_same.m T.law_same.F.kp T.law_same.b .nil (fun _ => .nil) pass0 (da_cons (de_var (pv 11)) (da_cons (de_lst (da_cons (de_call (ok_law_num T) (hr.mono (by decide)) rfl T.law_num.m T.law_num.F.kp T.law_num.b .nil (fun _ => .nil) pass0 (da_cons (de_var (pv 12)) da_nil)) (da_cons (de_call (ok_law_cells_due T) (hr.mono (by decide)) rfl T.law_cells_due.m T.law_cells_due.F.kp T.law_cells_due.b .nil (fun _ => .nil) pass0 (da_cons (de_var (pv 1)) (da_cons (de_var (pv 10)) (da_cons (de_var (pv 12)) da_nil)))) da_nil))) da_nil)))))))) (dss_one (ds_ret de_bl)) dss_nil)
      (dss_cons (ds_if (dt_w (dw_or (dt_w (dw_and (dt_cmp dop_le (de_ix dix_seq (de_var (pv 9)) de_int (fun _ _ => rfl)) (de_var (pv 8)) (nomark _)) (dw_and1 (dt_not (dt_truth (de_call (ok_law_same T) (hr.mono (by decide)) rfl T.law_same.m T.law_same.F.kp T.law_same.b .nil (fun _ => .nil) pass0 (da_cons (de_var (pv 11)) (da_cons (de_var (pv 3)) da_nil)))))))) (dw_or1 (dt_truth (de_call (ok_law_less T) (hr.mono (by decide)) rfl T.law_less.m T.law_less.F.kp T.law_less.b .nil (fun _ => .nil) pass0 (da_cons (de_var (pv 12)) (da_cons (de_var (pv 4)) da_nil))))))) (dss_one (ds_ret de_bl)) dss_nil)
      (dss_cons (ds_par (i := 13) (j := 14) rfl sc_law_more_right.nd rfl rfl (by decide) rfl rfl (da_cons (de_call (ok_apart_by T) (hr.mono (by decide)) rfl T.apart_by.m T.apart_by.F.kp T.apart_by.b .nil (fun _ => .nil) passX0 (da_cons (de_var (pv 5)) (da_cons (de_var (pv 2)) (da_cons (de_var (pv 6)) (da_cons (de_var (pv 7)) da_nil))))) (da_cons (de_call (ok_apart_by T) (hr.mono (by decide)) rfl T.apart_by.m T.apart_by.F.kp T.apart_by.b .nil (fun _ => .nil) passX0 (da_cons (de_var (pv 5)) (da_cons (de_op dop_add (de_var (pv 2)) (de_lst (da_cons (de_var (pv 9)) da_nil))) (da_cons (de_var (pv 6)) (da_cons (de_var (pv 7)) da_nil))))) da_nil)) (by rfl))
      (dss_one (ds_ret (de_and (de_cmp dop_isN (de_var (pv 14)) de_non (nomark _)) (de_and (de_cmp dop_ge (de_var (pv 14)) (de_ix dix_seq (de_var (pv 9)) de_int (fun _ _ => rfl)) (nomark _)) (de_one (de_or (de_cmp dop_is (de_var (pv 13)) de_non (nomark _)) (de_one (de_cmp dop_ge (de_var (pv 14)) (de_var (pv 13)) (nomark _)))))))))))))))))))))) rd_law_more_right
theorem ok_law_right (T : Tx K mg) : FnOk P w K mg base CX0 11 T.law_right.f T.law_right.fd P_law_right (cSp K sp_law_right) :=
  DFun.ok4 T.law_right.F sc_law_right rfl rfl (k := 10) (t := t_law_right sp_law_least_movement sp_law_cells_due sp_law_num sp_law_fit sp_law_same sp_law_thinned sp_law_all_implied sp_law_mixed sp_law_take sp_law_plus sp_law_more_right) (fun cdv A outer s H E hr => 
    (dss_cons (ds_set (i := 4) sc_law_right.nd rfl (by first | exact Or.inl rfl | exact Or.inr rfl) (de_callB dcall_len (by rfl) T.n_len (by decide +kernel) (da_cons (de_var (pv 1)) da_nil)))
      (dss_cons (ds_set (i := 5) sc_law_right.nd rfl (by first | exact Or.inl rfl | exact Or.inr rfl) (de_call (ok_law_least_movement T) (hr.mono (by decide)) rfl T.law_least_movement.m T.law_least_movement.F.kp T.law_least_movement.b .nil (fun _ => .nil) pass0 (da_cons (de_var (pv 1)) (da_cons (de_var (pv 3)) da_nil))))
      (dss_cons (ds_set (i := 6) sc_law_right.nd rfl (by first | exact Or.inl rfl | exact Or.inr rfl) (de_lst (da_cons (de_call (ok_law_num T) (hr.mono (by decide)) rfl T.law_num.m T.law_num.F.kp T.law_num.b .nil (fun _ => .nil) pass0 (da_cons (de_var (pv 5)) da_nil)) (da_cons (de_call (ok_law_cells_due T) (hr.mono (by decide)) rfl T.law_cells_due.m T.law_cells_due.F.kp T.law_cells_due.b .nil (fun _ => .nil) pass0 (da_cons (de_var (pv 1)) (da_cons (de_var (pv 3)) (da_cons (de_var (pv 5)) da_nil)))) da_nil))))
      (dss_cons (ds_set (i := 7) sc_law_right.nd rfl (by first | exact Or.inl rfl | exact Or.inr rfl) (de_call (ok_law_fit T) (hr.mono (by decide)) rfl T.law_fit.m T.law_fit.F.kp T.law_fit.b .nil (fun _ => .nil) pass0 (da_cons (de_var (pv 1)) (da_cons (de_callTy (dcall_list false) (by rfl) T.n_list (by decide +kernel) (da_cons (de_var (pv 2)) da_nil)) da_nil))))
      (dss_cons (ds_if (dt_w (dw_or (dt_cmp dop_is (de_var (pv 7)) de_non (nomark _)) (dw_or1 (dt_not (dt_truth (de_call (ok_law_same T) (hr.mono (by decide)) rfl T.law_same.m T.law_same.F.kp T.law_same.b .nil (fun _ => .nil) pass0 (da_cons (de_var (pv 7)) (da_cons (de_var (pv 6)) da_nil)))))))) (dss_one (ds_ret de_bl)) dss_nil)
      (dss_cons (ds_set (i := 8) sc_law_right.nd rfl (by first | exact Or.inl rfl | exact Or.inr rfl) (de_call (ok_law_thinned T) (hr.mono (by decide)) rfl T.law_thinned.m T.law_thinned.F.kp T.law_thinned.b .nil (fun _ => .nil) pass0 (da_cons (de_var (pv 4)) (da_cons (de_var (pv 2)) da_nil))))
      (dss_cons (ds_if (dt_cmp dop_is (de_var (pv 8)) de_non (nomark _)) (dss_one (ds_ret de_bl)) dss_nil)
      (dss_cons (ds_for (g := (.nm 9)) PassesOwn.never rfl (di_seq (de_lst (da_cons (de_call (ok_law_mixed T) (hr.mono (by decide)) rfl T.law_mixed.m T.law_mixed.F.kp T.law_mixed.b .nil (fun _ => .nil) pass0 (da_cons (de_var (pv 0)) (da_cons (de_var (pv 2)) da_nil))) (da_cons (de_op dop_add (de_var (pv 2)) (de_var (pv 2))) (da_cons (de_slice false (de_op dop_add (de_var (pv 2)) (de_call (ok_law_all_implied T) (hr.mono (by decide)) rfl T.law_all_implied.m T.law_all_implied.F.kp T.law_all_implied.b .nil (fun _ => .nil) pass0 (da_cons (de_var (pv 3)) da_nil))) do_none (do_some de_int)) (da_cons (de_var (pv 8)) da_nil)))))) (pg_nm (pg_name (i := 9) sc_law_right.nd rfl (by first | exact Or.inl rfl | exact Or.inr rfl))) (dss_one (ds_if (dt_not (dt_truth (de_call (ok_law_same T) (hr.mono (by decide)) rfl T.law_same.m T.law_same.F.kp T.law_same.b .nil (fun _ => .nil) pass0 (da_cons (de_call (ok_law_fit T) (hr.mono (by decide)) rfl T.law_fit.m T.law_fit.F.kp T.law_fit.b .nil (fun _ => .nil) pass0 (da_cons (de_var (pv 1)) (da_cons (de_var (pv 9)) da_nil))) (da_cons (de_var (pv 6)) da_nil))))) (dss_one (ds_ret de_bl)) dss_nil)))
      (dss_cons (ds_set (i := 10) sc_law_right.nd rfl (by first | exact Or.inl rfl | exact Or.inr rfl) (de_op dop_sub (de_call (ok_law_take T) (hr.mono (by decide)) rfl T.law_take.m T.law_take.F.kp T.law_take.b .nil (fun _ => .nil) pass0 (da_cons (de_var (pv 0)) (da_cons de_int da_nil))) de_int))
      (dss_cons (ds_setLc false (i := 11) (own := [("place", 14)]) (g := (.nm 14)) rfl sc_law_right.nd rfl rfl (sw_true rfl rfl rfl (by decide +kernel)) (di_seq (de_var (pv 1))) (blkOk_by (N := N_law_right) (sc := defScope s_law_right) (own := [("place", 14)]) (by decide +kernel)) (fun _ _ _ _ _ => (pg_nm (pg_name (i := 14) sc_law_right.nd rfl (by first | exact Or.inl rfl | exact Or.inr rfl)))) (fun _ _ _ _ _ => dts_nil) (fun _ _ _ _ _ => (de_call (ok_law_plus T) (hr.mono (by decide)) rfl T.law_plus.m T.law_plus.F.kp T.law_plus.b .nil (fun _ => .nil) pass0 (da_cons (de_var (pv 14)) (da_cons (de_tup (da_cons (de_op dop_mul de_int (de_var (pv 10))) (da_cons de_int da_nil))) da_nil)))) (by decide))
      (dss_cons (ds_if (dt_not (dt_truth (de_call (ok_law_same T) (hr.mono (by decide)) rfl T.law_same.m T.law_same.F.kp T.law_same.b .nil (fun _ => .nil) pass0 (da_cons (de_call (ok_law_fit T) (hr.mono (by decide)) rfl T.law_fit.m T.law_fit.F.kp T.law_fit.b .nil (fun _ => .nil) pass0 (da_cons (de_var (pv 11)) (da_cons (de_var (pv 2)) da_nil))) (da_cons (de_lst (da_cons (de_ix dix_seq (de_var (pv 6)) de_int (fun _ _ => rfl)) (da_cons (de_lc false (own := [("cell", 18)]) (g := (.nm 18)) rfl sc_law_right.nd (di_seq (de_ix dix_seq (de_var (pv 6)) de_int (fun _ _ => rfl))) (blkOk_by (N := N_law_right) (sc := defScope s_law_right) (own := [("cell", 18)]) (by decide +kernel)) (fun _ _ _ _ _ => (pg_nm (pg_name (i := 18) sc_law_right.nd rfl (by first | exact Or.inl rfl | exact Or.inr rfl)))) (fun _ _ _ _ _ => dts_nil) (fun _ _ _ _ _ => (de_op dop_add (de_var (pv 18)) (de_var (pv 10)))) (by decide)) da_nil))) da_nil))))) (dss_one (ds_ret de_bl)) dss_nil)
      (dss_cons (ds_set (i := 12) sc_law_right.nd rfl (by first | exact Or.inl rfl | exact Or.inr rfl) (de_call (ok_law_mixed T) (hr.mono (by decide)) rfl T.law_mixed.m T.law_mixed.F.kp T.law_mixed.b .nil (fun _ => .nil) pass0 (da_cons (de_var (pv 0)) (da_cons (de_listRg1 false rfl (by rfl) T.n_list (by rfl) T.n_range (de_var (pv 4))) da_nil))))
      (dss_cons (ds_setLc false (i := 13) (own := [("low", 15), ("high", 16), ("apart", 17)]) (g := (.tp [(.nm 15), (.nm 16), (.nm 17)])) rfl sc_law_right.nd rfl rfl (sw_true rfl rfl rfl (by decide +kernel)) (di_seq (de_var (pv 2))) (blkOk_by (N := N_law_right) (sc := defScope s_law_right) (own := [("low", 15), ("high", 16), ("apart", 17)]) (by decide +kernel)) (fun _ _ _ _ _ => (pg_tp rfl (pgs_c (pg_nm (pg_name (i := 15) sc_law_right.nd rfl (by first | exact Or.inl rfl | exact Or.inr rfl))) (pgs_c (pg_nm (pg_name (i := 16) sc_law_right.nd rfl (by first | exact Or.inl rfl | exact Or.inr rfl))) (pgs_c (pg_nm (pg_name (i := 17) sc_law_right.nd rfl (by first | exact Or.inl rfl | exact Or.inr rfl))) pgs_n))))) (fun _ _ _ _ _ => dts_nil) (fun _ _ _ _ _ => (de_tup (da_cons (de_mtL PySem.F.slot_list_index PySem.F.type_list_index dmt_index (de_var (pv 12)) (da_cons (de_var (pv 15)) da_nil)) (da_cons (de_mtL PySem.F.slot_list_index PySem.F.type_list_index dmt_index (de_var (pv 12)) (da_cons (de_var (pv 16)) da_nil)) (da_cons (de_var (pv 17)) da_nil))))) (by decide))
      (dss_cons (ds_if (dt_not (dt_truth (de_call (ok_law_same T) (hr.mono (by decide)) rfl T.law_same.m T.law_same.F.kp T.law_same.b .nil (fun _ => .nil) pass0 (da_cons (de_call (ok_law_fit T) (hr.mono (by decide)) rfl T.law_fit.m T.law_fit.F.kp T.law_fit.b .nil (fun _ => .nil) pass0 (da_cons (de_lc false (own := [("k", 19)]) (g := (.nm 19)) rfl sc_law_right.nd (di_seq (de_var (pv 12))) (blkOk_by (N := N_law_right) (sc := defScope s_law_right) (own := [("k", 19)]) (by decide +kernel)) (fun _ _ _ _ _ => (pg_nm (pg_name (i := 19) sc_law_right.nd rfl (by first | exact Or.inl rfl | exact Or.inr rfl)))) (fun _ _ _ _ _ => dts_nil) (fun _ _ _ _ _ => (de_ix dix_seq (de_var (pv 1)) (de_var (pv 19)) (fun _ _ => rfl))) (by decide)) (da_cons (de_var (pv 13)) da_nil))) (da_cons (de_lst (da_cons (de_ix dix_seq (de_var (pv 6)) de_int (fun _ _ => rfl)) (da_cons (de_lc false (own := [("k", 19)]) (g := (.nm 19)) rfl sc_law_right.nd (di_seq (de_var (pv 12))) (blkOk_by (N := N_law_right) (sc := defScope s_law_right) (own := [("k", 19)]) (by decide +kernel)) (fun _ _ _ _ _ => (pg_nm (pg_name (i := 19) sc_law_right.nd rfl (by first | exact Or.inl rfl | exact Or.inr rfl)))) (fun _ _ _ _ _ => dts_nil) (fun _ _ _ _ _ => (de_ix dix_seq (de_ix dix_seq (de_var (pv 6)) de_int (fun _ _ => rfl)) (de_var (pv 19)) (fun _ _ => rfl))) (by decide)) da_nil))) da_nil))))) (dss_one (ds_ret de_bl)) dss_nil)
      (dss_one (ds_ret (de_or (de_cmp (dop_eqQ hr.units) (de_var (pv 4)) de_int (nomark _)) (de_one (de_call (ok_law_more_right T) (hr.mono (by decide)) rfl T.law_more_right.m T.law_more_right.F.kp T.law_more_right.b .nil (fun _ => .nil) pass0 (da_cons (de_var (pv 0)) (da_cons (de_var (pv 1)) (da_cons (de_var (pv 2)) (da_cons (de_var (pv 7)) (da_cons (de_var (pv 5)) da_nil))))))))))))))))))))))))) rd_law_right
theorem ok_law (T : Tx K mg) {f : Addr} {fd : FuncData} (F : FunD K "law" "law" (defArgs s_law) (defBody s_law) (defScope s_law) [] [] f fd) : FnOk P w K mg base CX0 12 f fd P_law (cSp K sp_law) :=
  DFun.ok1 F sc_law rfl rfl (k := 11) (t := t_law K sp_law_box sp_law_cell sp_law_take sp_law_drawn_rules sp_law_places sp_law_right sp_law_far) (fun cdv A outer s H E hr => 
    (dss_cons (ds_for (g := (.nm 1)) PassesOwn.never rfl (di_range1 (by rfl) T.n_range (de_callB (dcall_max2 rfl) (by rfl) T.n_max (by decide +kernel) (da_cons de_int (da_cons (de_callB (dcall_min2 rfl) (by rfl) T.n_min (by decide +kernel) (da_cons de_int (da_cons (de_callB dcall_len (by rfl) T.n_len (by decide +kernel) (da_cons (de_var (pv 0)) da_nil)) da_nil))) da_nil)))) (pg_nm (pg_name (i := 1) sc_law.nd rfl (by first | exact Or.inl rfl | exact Or.inr rfl))) (dss_cons (ds_set (i := 2) sc_law.nd rfl (by first | exact Or.inl rfl | exact Or.inr rfl) (de_call (ok_law_box T) (hr.mono (by decide)) rfl T.law_box.m T.law_box.F.kp T.law_box.b .nil (fun _ => .nil) pass0 (da_cons (de_call (ok_law_cell T) (hr.mono (by decide)) rfl T.law_cell.m T.law_cell.F.kp T.law_cell.b .nil (fun _ => .nil) pass0 (da_cons (de_var (pv 0)) (da_cons (de_var (pv 1)) da_nil))) da_nil)))
      (dss_cons (ds_set (i := 3) sc_law.nd rfl (by first | exact Or.inl rfl | exact Or.inr rfl) (de_op dop_add de_int (de_call (ok_law_take T) (hr.mono (by decide)) rfl T.law_take.m T.law_take.F.kp T.law_take.b .nil (fun _ => .nil) pass0 (da_cons (de_var (pv 2)) (da_cons de_int da_nil)))))
      (dss_cons (ds_asg (g := (.tp [(.nm 4), (.nm 5)])) (de_call (ok_law_drawn_rules T) (hr.mono (by decide)) rfl T.law_drawn_rules.m T.law_drawn_rules.F.kp T.law_drawn_rules.b .nil (fun _ => .nil) pass0 (da_cons (de_var (pv 2)) (da_cons (de_var (pv 3)) (da_cons (de_call (ok_law_take T) (hr.mono (by decide)) rfl T.law_take.m T.law_take.F.kp T.law_take.b .nil (fun _ => .nil) pass0 (da_cons (de_var (pv 2)) (da_cons de_int da_nil))) da_nil)))) (pg_tp rfl (pgs_c (pg_nm (pg_name (i := 4) sc_law.nd rfl (by first | exact Or.inl rfl | exact Or.inr rfl))) (pgs_c (pg_nm (pg_name (i := 5) sc_law.nd rfl (by first | exact Or.inl rfl | exact Or.inr rfl))) pgs_n))))
      (dss_cons (ds_setLc false (i := 5) (own := [("rule", 7)]) (g := (.nm 7)) rfl sc_law.nd rfl rfl (sw_true rfl rfl rfl (by decide +kernel)) (di_seq (de_var (pv 5))) (blkOk_by (N := N_law) (sc := defScope s_law) (own := [("rule", 7)]) (by decide +kernel)) (fun _ _ _ _ _ => (pg_nm (pg_name (i := 7) sc_law.nd rfl (by first | exact Or.inl rfl | exact Or.inr rfl)))) (fun _ _ _ _ _ => (dts_one (dt_cmp dop_ge (de_ix dix_seq (de_var (pv 4)) (de_ix dix_seq (de_var (pv 7)) de_int (fun _ _ => rfl)) (fun _ _ => rfl)) (de_op dop_add (de_ix dix_seq (de_var (pv 4)) (de_ix dix_seq (de_var (pv 7)) de_int (fun _ _ => rfl)) (fun _ _ => rfl)) (de_ix dix_seq (de_var (pv 7)) de_int (fun _ _ => rfl))) (nomark _)))) (fun _ _ _ _ _ => (de_var (pv 7))) (by decide))
      (dss_cons (ds_set (i := 6) sc_law.nd rfl (by first | exact Or.inl rfl | exact Or.inr rfl) (de_call (ok_law_places T) (hr.mono (by decide)) rfl T.law_places.m T.law_places.F.kp T.law_places.b .nil (fun _ => .nil) pass0 (da_cons (de_var (pv 2)) (da_cons (de_var (pv 4)) da_nil))))
      (dss_one (ds_if (dt_not (dt_truth (de_call (ok_law_right T) (hr.mono (by decide)) rfl T.law_right.m T.law_right.F.kp T.law_right.b .nil (fun _ => .nil) pass0 (da_cons (de_var (pv 2)) (da_cons (de_var (pv 6)) (da_cons (de_var (pv 5)) (da_cons (de_call (ok_law_far T) (hr.mono (by decide)) rfl T.law_far.m T.law_far.F.kp T.law_far.b .nil (fun _ => .nil) pass0 (da_cons (de_var (pv 3)) (da_cons (de_var (pv 5)) da_nil))) da_nil))))))) (dss_one (ds_ret de_bl)) dss_nil))))))))
      (dss_one (ds_ghost (ds_ret de_bl))))) rd_law
end
def dd_law_box : He.DefD := ⟨("_law_box", none), "_law_box", "_law_box", defArgs s_law_box, defBody s_law_box, defScope s_law_box, [], []⟩
def dd_law_cell : He.DefD := ⟨("_law_cell", none), "_law_cell", "_law_cell", defArgs s_law_cell, defBody s_law_cell, defScope s_law_cell, [], []⟩
def dd_law_take : He.DefD := ⟨("_law_take", none), "_law_take", "_law_take", defArgs s_law_take, defBody s_law_take, defScope s_law_take, [], []⟩
def dd_law_mixed : He.DefD := ⟨("_law_mixed", none), "_law_mixed", "_law_mixed", defArgs s_law_mixed, defBody s_law_mixed, defScope s_law_mixed, [], []⟩
def dd_law_round_rules : He.DefD := ⟨("_law_round_rules", none), "_law_round_rules", "_law_round_rules", defArgs s_law_round_rules, defBody s_law_round_rules, defScope s_law_round_rules, [], []⟩
def dd_law_drawn_rules : He.DefD := ⟨("_law_drawn_rules", none), "_law_drawn_rules", "_law_drawn_rules", defArgs s_law_drawn_rules, defBody s_law_drawn_rules, defScope s_law_drawn_rules, [], []⟩
def dd_law_low : He.DefD := ⟨("_law_low", none), "_law_low", "_law_low", defArgs s_law_low, defBody s_law_low, defScope s_law_low, [], []⟩
def dd_law_places : He.DefD := ⟨("_law_places", none), "_law_places", "_law_places", defArgs s_law_places, defBody s_law_places, defScope s_law_places, [], []⟩
def dd_law_less : He.DefD := ⟨("_law_less", none), "_law_less", "_law_less", defArgs s_law_less, defBody s_law_less, defScope s_law_less, [], []⟩
def dd_law_most : He.DefD := ⟨("_law_most", none), "_law_most", "_law_most", defArgs s_law_most, defBody s_law_most, defScope s_law_most, [], []⟩
def dd_law_floor : He.DefD := ⟨("_law_floor", none), "_law_floor", "_law_floor", defArgs s_law_floor, defBody s_law_floor, defScope s_law_floor, [], []⟩
def dd_law_over : He.DefD := ⟨("_law_over", none), "_law_over", "_law_over", defArgs s_law_over, defBody s_law_over, defScope s_law_over, [], []⟩
def dd_law_plus : He.DefD := ⟨("_law_plus", none), "_law_plus", "_law_plus", defArgs s_law_plus, defBody s_law_plus, defScope s_law_plus, [], []⟩
def dd_law_minus : He.DefD := ⟨("_law_minus", none), "_law_minus", "_law_minus", defArgs s_law_minus, defBody s_law_minus, defScope s_law_minus, [], []⟩
def dd_law_needed : He.DefD := ⟨("_law_needed", none), "_law_needed", "_law_needed", defArgs s_law_needed, defBody s_law_needed, defScope s_law_needed, [], []⟩
def dd_law_least_movement : He.DefD := ⟨("_law_least_movement", none), "_law_least_movement", "_law_least_movement", defArgs s_law_least_movement, defBody s_law_least_movement, defScope s_law_least_movement, [], []⟩
def dd_law_cells_due : He.DefD := ⟨("_law_cells_due", none), "_law_cells_due", "_law_cells_due", defArgs s_law_cells_due, defBody s_law_cells_due, defScope s_law_cells_due, [], []⟩
def dd_law_num : He.DefD := ⟨("_law_num", none), "_law_num", "_law_num", defArgs s_law_num, defBody s_law_num, defScope s_law_num, [], []⟩
def dd_is_list : He.DefD := ⟨("is_list", none), "is_list", "is_list", defArgs s_is_list, defBody s_is_list, defScope s_is_list, [], []⟩
def dd_is_plain : He.DefD := ⟨("is_plain", none), "is_plain", "is_plain", defArgs s_is_plain, defBody s_is_plain, defScope s_is_plain, [], []⟩
def dd_common_part : He.DefD := ⟨("common_part", none), "common_part", "common_part", defArgs s_common_part, defBody s_common_part, defScope s_common_part, [], []⟩
def dd_is_part : He.DefD := ⟨("is_part", none), "is_part", "is_part", defArgs s_is_part, defBody s_is_part, defScope s_is_part, [], []⟩
def dd_is_number : He.DefD := ⟨("is_number", none), "is_number", "is_number", defArgs s_is_number, defBody s_is_number, defScope s_is_number, [], []⟩
def dd_pair_of : He.DefD := ⟨("pair_of", none), "pair_of", "pair_of", defArgs s_pair_of, defBody s_pair_of, defScope s_pair_of, [], []⟩
def dd_is_short : He.DefD := ⟨("is_short", none), "is_short", "is_short", defArgs s_is_short, defBody s_is_short, defScope s_is_short, [], []⟩
def dd_need_mark_places : He.DefD := ⟨("need_mark_places", none), "need_mark_places", "need_mark_places", defArgs s_need_mark_places, defBody s_need_mark_places, defScope s_need_mark_places, [], []⟩
def dd_is_whole : He.DefD := ⟨("is_whole", none), "is_whole", "is_whole", defArgs s_is_whole, defBody s_is_whole, defScope s_is_whole, [], []⟩
def dd_is_rule : He.DefD := ⟨("is_rule", none), "is_rule", "is_rule", defArgs s_is_rule, defBody s_is_rule, defScope s_is_rule, [], []⟩
def dd_need_rules : He.DefD := ⟨("need_rules", none), "need_rules", "need_rules", defArgs s_need_rules, defBody s_need_rules, defScope s_need_rules, [], []⟩
def dd_raised : He.DefD := ⟨("raised", none), "raised", "raised", defArgs s_raised, defBody s_raised, defScope s_raised, [], []⟩
def dd_led_back : He.DefD := ⟨("led_back", none), "led_back", "led_back", defArgs s_led_back, defBody s_led_back, defScope s_led_back, [], []⟩
def dd_found_cycle : He.DefD := ⟨("found_cycle", none), "found_cycle", "found_cycle", defArgs s_found_cycle, defBody s_found_cycle, defScope s_found_cycle, [], []⟩
def dd_need_kept : He.DefD := ⟨("need_kept", none), "need_kept", "need_kept", defArgs s_need_kept, defBody s_need_kept, defScope s_need_kept, [], []⟩
def dd_raised_from : He.DefD := ⟨("raised_from", none), "raised_from", "raised_from", defArgs s_raised_from, defBody s_raised_from, defScope s_raised_from, [], []⟩
def dd_reckoned : He.DefD := ⟨("reckoned", none), "reckoned", "reckoned", defArgs s_reckoned, defBody s_reckoned, defScope s_reckoned, [], []⟩
def dd_times : He.DefD := ⟨("times", none), "times", "times", defArgs s_times, defBody s_times, defScope s_times, [], []⟩
def dd_floor_of : He.DefD := ⟨("floor_of", none), "floor_of", "floor_of", defArgs s_floor_of, defBody s_floor_of, defScope s_floor_of, [], [("step", .int 1)]⟩
def dd_over : He.DefD := ⟨("over", none), "over", "over", defArgs s_over, defBody s_over, defScope s_over, [], []⟩
def dd_minus : He.DefD := ⟨("minus", none), "minus", "minus", defArgs s_minus, defBody s_minus, defScope s_minus, [], []⟩
def dd_plus : He.DefD := ⟨("plus", none), "plus", "plus", defArgs s_plus, defBody s_plus, defScope s_plus, [], []⟩
def dd_less : He.DefD := ⟨("less", none), "less", "less", defArgs s_less, defBody s_less, defScope s_less, [], []⟩
def dd_needed_for : He.DefD := ⟨("needed_for", none), "needed_for", "needed_for", defArgs s_needed_for, defBody s_needed_for, defScope s_needed_for, [], []⟩
def dd_tight_chain : He.DefD := ⟨("tight_chain", none), "tight_chain", "tight_chain", defArgs s_tight_chain, defBody s_tight_chain, defScope s_tight_chain, [], []⟩
def dd_nearest_fit : He.DefD := ⟨("nearest_fit", none), "nearest_fit", "nearest_fit", defArgs s_nearest_fit, defBody s_nearest_fit, defScope s_nearest_fit, [], []⟩
def dd_law_fit : He.DefD := ⟨("_law_fit", none), "_law_fit", "_law_fit", defArgs s_law_fit, defBody s_law_fit, defScope s_law_fit, [], []⟩
def dd_law_same : He.DefD := ⟨("_law_same", none), "_law_same", "_law_same", defArgs s_law_same, defBody s_law_same, defScope s_law_same, [], []⟩
def dd_law_far : He.DefD := ⟨("_law_far", none), "_law_far", "_law_far", defArgs s_law_far, defBody s_law_far, defScope s_law_far, [], []⟩
def dd_need_marks : He.DefD := ⟨("need_marks", none), "need_marks", "need_marks", defArgs s_need_marks, defBody s_need_marks, defScope s_need_marks, [], []⟩
def dd_follows : He.DefD := ⟨("follows", none), "follows", "follows", defArgs s_follows, defBody s_follows, defScope s_follows, [], []⟩
def dd_law_thinned : He.DefD := ⟨("_law_thinned", none), "_law_thinned", "_law_thinned", defArgs s_law_thinned, defBody s_law_thinned, defScope s_law_thinned, [], []⟩
def dd_law_all_implied : He.DefD := ⟨("_law_all_implied", none), "_law_all_implied", "_law_all_implied", defArgs s_law_all_implied, defBody s_law_all_implied, defScope s_law_all_implied, [], []⟩
def dd_implied_cells : He.DefD := ⟨("implied_cells", none), "implied_cells", "implied_cells", defArgs s_implied_cells, defBody s_implied_cells, defScope s_implied_cells, [], []⟩
def dd_apart_by : He.DefD := ⟨("apart_by", none), "apart_by", "apart_by", defArgs s_apart_by, defBody s_apart_by, defScope s_apart_by, [], []⟩
def dd_law_more_right : He.DefD := ⟨("_law_more_right", none), "_law_more_right", "_law_more_right", defArgs s_law_more_right, defBody s_law_more_right, defScope s_law_more_right, [], []⟩
def dd_law_right : He.DefD := ⟨("_law_right", none), "_law_right", "_law_right", defArgs s_law_right, defBody s_law_right, defScope s_law_right, [], []⟩
def dd_law : He.DefD := ⟨("law", none), "law", "law", defArgs s_law, defBody s_law, defScope s_law, [], []⟩
def ddi_NoFit : He.DefD := ⟨("NoFit", some "__init__"), "__init__", "NoFit.__init__", defArgs si_NoFit, defBody si_NoFit, defScope si_NoFit, [], []⟩
def fnL : List He.DefD := [dd_law_box, dd_law_cell, dd_law_take, dd_law_mixed, dd_law_round_rules, dd_law_drawn_rules, dd_law_low, dd_law_places, dd_law_less, dd_law_most, dd_law_floor, dd_law_over, dd_law_plus, dd_law_minus, dd_law_needed, dd_law_least_movement, dd_law_cells_due, dd_law_num, dd_is_list, dd_is_plain, dd_common_part, dd_is_part, dd_is_number, dd_pair_of, dd_is_short, dd_need_mark_places, dd_is_whole, dd_is_rule, dd_need_rules, dd_raised, dd_led_back, dd_found_cycle, dd_need_kept, dd_raised_from, dd_reckoned, dd_times, dd_floor_of, dd_over, dd_minus, dd_plus, dd_less, dd_needed_for, dd_tight_chain, dd_nearest_fit, dd_law_fit, dd_law_same, dd_law_far, dd_need_marks, dd_follows, dd_law_thinned, dd_law_all_implied, dd_implied_cells, dd_apart_by, dd_law_more_right, dd_law_right, dd_law, ddi_NoFit]
def exB (K : PySem.W.Frag) : Bool := xc1B K "NoFit" "FontError" "cycle"
def fa0 : List He.Fa := [.glo "_law_box", .glo "_law_cell", .glo "_law_take", .glo "_law_mixed", .glo "_law_round_rules", .glo "_law_drawn_rules", .glo "_law_low", .glo "_law_places", .glo "_law_less", .glo "_law_most", .glo "_law_floor", .glo "_law_over", .glo "_law_plus", .glo "_law_minus", .glo "_law_needed", .glo "_law_least_movement", .glo "_law_cells_due", .glo "_law_num", .glo "is_list", .glo "is_plain", .glo "common_part", .glo "is_part", .glo "is_number", .glo "pair_of", .glo "is_short", .glo "need_mark_places", .glo "is_whole", .glo "is_rule", .glo "need_rules", .glo "raised"]
def fa1 : List He.Fa := [.glo "led_back", .glo "found_cycle", .glo "need_kept", .glo "raised_from", .glo "reckoned", .glo "times", .glo "floor_of", .glo "over", .glo "minus", .glo "plus", .glo "less", .glo "needed_for", .glo "tight_chain", .glo "nearest_fit", .glo "_law_fit", .glo "_law_same", .glo "_law_far", .glo "need_marks", .glo "follows", .glo "_law_thinned", .glo "_law_all_implied", .glo "implied_cells", .glo "apart_by", .glo "_law_more_right", .glo "_law_right", .glo "law", .free "abs", .free "all", .free "bool", .free "enumerate"]
def fa2 : List He.Fa := [.free "int", .free "isinstance", .free "len", .free "list", .free "max", .free "min", .free "range", .free "str", .free "sum", .free "tuple", .int "CELL" 64, .int "MOST_APART" 400, .int "MOST_MARKS" 24, .int "MOST_RULES" 100, .int "SHORT" 100000000000000000000]
def faL : List He.Fa := fa0 ++ fa1 ++ fa2
def ot0 : List Str := ["FontError", "NoNumber", "NoCells", "NoLimit", "NoRule", "NoFit", "NoBase", "is_plain", "is_whole", "common_part", "is_part", "is_number", "reckoned", "pair_of", "plus", "minus", "times", "over", "less", "floor_of", "is_list", "SHORT", "is_short", "CELL", "MOST_MARKS", "MOST_RULES", "MOST_APART", "is_rule", "need_rules", "need_marks"]
def ot1 : List Str := ["raised", "led_back", "found_cycle", "need_kept", "raised_from", "follows", "implied_cells", "apart_by", "needed_for", "need_mark_places", "tight_chain", "nearest_fit", "_law_cell", "_law_box", "_law_take", "_law_same", "_law_low", "_law_pair", "_law_num", "_law_plus", "_law_minus", "_law_times", "_law_over", "_law_less", "_law_mixed", "_law_round_rules", "_law_drawn_rules", "_law_far", "_law_chain_right", "_law_cycle_right"]
def ot2 : List Str := ["_law_floor", "_law_most", "_law_needed", "_law_least_movement", "_law_cells_due", "_law_places", "_law_fit", "_law_all_implied", "_law_thinned", "_law_more_right", "_law_right"]
def others : List Str := ot0 ++ ot1 ++ ot2
abbrev R : PySem.W.OpenRow := PySem.W.OpenLaw.row PySem.Challenge.rw_hintscribe_k69_whole_fits_turned_about
abbrev hk : PySem.W.Hook := hookE 5 faL fnL exB
def ob (s : PySem.W.SharedT) : AlE := obsEG 5 faL fnL exB (HandSHeadRun.getT s)
theorem ob_eq (s : PySem.W.SharedT) : ob s = hk.obs s.abs := obsEG_eq (HandSHeadRun.getT_eq s)
theorem run (w : World) : HandSHeadRun.RunEq R (PySem.W.view R.prog [77]) hk ob 6000 others w := by
  intro os
  kernel_rfl
theorem facts {P : Program} {w : World} {K : PySem.W.Frag} {h : Heap} {mg : Str → Option Value} {f : Addr} (X : K.In h) (G : h.Ns mainGlobals mg) (hfa : mg ("law" : Str) = some (.ref f)) (c : SaysE faL fnL exB K) :
    ∃ fd : FuncData, (∀ (s : Shared) (v : Value), BindsTo s fd ⟨[v], []⟩ [("script", v)]) ∧ ∀ base : Heap, K.In base → base.Ns mainGlobals mg → FnOk P w K mg base CX0 12 f fd P_law (cSp K sp_law) := by
  have cx := c.more
  have c := c.d
  have cx : exB K = true := cx
  unfold exB at cx
  have cx_NoFit := cx
  obtain ⟨fd_law_box, F_law_box⟩ := c.def_ 0 (d := dd_law_box) rfl
  obtain ⟨fd_law_cell, F_law_cell⟩ := c.def_ 1 (d := dd_law_cell) rfl
  obtain ⟨fd_law_take, F_law_take⟩ := c.def_ 2 (d := dd_law_take) rfl
  obtain ⟨fd_law_mixed, F_law_mixed⟩ := c.def_ 3 (d := dd_law_mixed) rfl
  obtain ⟨fd_law_round_rules, F_law_round_rules⟩ := c.def_ 4 (d := dd_law_round_rules) rfl
  obtain ⟨fd_law_drawn_rules, F_law_drawn_rules⟩ := c.def_ 5 (d := dd_law_drawn_rules) rfl
  obtain ⟨fd_law_low, F_law_low⟩ := c.def_ 6 (d := dd_law_low) rfl
  obtain ⟨fd_law_places, F_law_places⟩ := c.def_ 7 (d := dd_law_places) rfl
  obtain ⟨fd_law_less, F_law_less⟩ := c.def_ 8 (d := dd_law_less) rfl
  obtain ⟨fd_law_most, F_law_most⟩ := c.def_ 9 (d := dd_law_most) rfl
  obtain ⟨fd_law_floor, F_law_floor⟩ := c.def_ 10 (d := dd_law_floor) rfl
  obtain ⟨fd_law_over, F_law_over⟩ := c.def_ 11 (d := dd_law_over) rfl
  obtain ⟨fd_law_plus, F_law_plus⟩ := c.def_ 12 (d := dd_law_plus) rfl
  obtain ⟨fd_law_minus, F_law_minus⟩ := c.def_ 13 (d := dd_law_minus) rfl
  obtain ⟨fd_law_needed, F_law_needed⟩ := c.def_ 14 (d := dd_law_needed) rfl
  obtain ⟨fd_law_least_movement, F_law_least_movement⟩ := c.def_ 15 (d := dd_law_least_movement) rfl
  obtain ⟨fd_law_cells_due, F_law_cells_due⟩ := c.def_ 16 (d := dd_law_cells_due) rfl
  obtain ⟨fd_law_num, F_law_num⟩ := c.def_ 17 (d := dd_law_num) rfl
  obtain ⟨fd_is_list, F_is_list⟩ := c.def_ 18 (d := dd_is_list) rfl
  obtain ⟨fd_is_plain, F_is_plain⟩ := c.def_ 19 (d := dd_is_plain) rfl
  obtain ⟨fd_common_part, F_common_part⟩ := c.def_ 20 (d := dd_common_part) rfl
  obtain ⟨fd_is_part, F_is_part⟩ := c.def_ 21 (d := dd_is_part) rfl
  obtain ⟨fd_is_number, F_is_number⟩ := c.def_ 22 (d := dd_is_number) rfl
  obtain ⟨fd_pair_of, F_pair_of⟩ := c.def_ 23 (d := dd_pair_of) rfl
  obtain ⟨fd_is_short, F_is_short⟩ := c.def_ 24 (d := dd_is_short) rfl
  obtain ⟨fd_need_mark_places, F_need_mark_places⟩ := c.def_ 25 (d := dd_need_mark_places) rfl
  obtain ⟨fd_is_whole, F_is_whole⟩ := c.def_ 26 (d := dd_is_whole) rfl
  obtain ⟨fd_is_rule, F_is_rule⟩ := c.def_ 27 (d := dd_is_rule) rfl
  obtain ⟨fd_need_rules, F_need_rules⟩ := c.def_ 28 (d := dd_need_rules) rfl
  obtain ⟨fd_raised, F_raised⟩ := c.def_ 29 (d := dd_raised) rfl
  obtain ⟨fd_led_back, F_led_back⟩ := c.def_ 30 (d := dd_led_back) rfl
  obtain ⟨fd_found_cycle, F_found_cycle⟩ := c.def_ 31 (d := dd_found_cycle) rfl
  obtain ⟨fd_need_kept, F_need_kept⟩ := c.def_ 32 (d := dd_need_kept) rfl
  obtain ⟨fd_raised_from, F_raised_from⟩ := c.def_ 33 (d := dd_raised_from) rfl
  obtain ⟨fd_reckoned, F_reckoned⟩ := c.def_ 34 (d := dd_reckoned) rfl
  obtain ⟨fd_times, F_times⟩ := c.def_ 35 (d := dd_times) rfl
  obtain ⟨fd_floor_of, F_floor_of⟩ := c.def_ 36 (d := dd_floor_of) rfl
  obtain ⟨fd_over, F_over⟩ := c.def_ 37 (d := dd_over) rfl
  obtain ⟨fd_minus, F_minus⟩ := c.def_ 38 (d := dd_minus) rfl
  obtain ⟨fd_plus, F_plus⟩ := c.def_ 39 (d := dd_plus) rfl
  obtain ⟨fd_less, F_less⟩ := c.def_ 40 (d := dd_less) rfl
  obtain ⟨fd_needed_for, F_needed_for⟩ := c.def_ 41 (d := dd_needed_for) rfl
  obtain ⟨fd_tight_chain, F_tight_chain⟩ := c.def_ 42 (d := dd_tight_chain) rfl
  obtain ⟨fd_nearest_fit, F_nearest_fit⟩ := c.def_ 43 (d := dd_nearest_fit) rfl
  obtain ⟨fd_law_fit, F_law_fit⟩ := c.def_ 44 (d := dd_law_fit) rfl
  obtain ⟨fd_law_same, F_law_same⟩ := c.def_ 45 (d := dd_law_same) rfl
  obtain ⟨fd_law_far, F_law_far⟩ := c.def_ 46 (d := dd_law_far) rfl
  obtain ⟨fd_need_marks, F_need_marks⟩ := c.def_ 47 (d := dd_need_marks) rfl
  obtain ⟨fd_follows, F_follows⟩ := c.def_ 48 (d := dd_follows) rfl
  obtain ⟨fd_law_thinned, F_law_thinned⟩ := c.def_ 49 (d := dd_law_thinned) rfl
  obtain ⟨fd_law_all_implied, F_law_all_implied⟩ := c.def_ 50 (d := dd_law_all_implied) rfl
  obtain ⟨fd_implied_cells, F_implied_cells⟩ := c.def_ 51 (d := dd_implied_cells) rfl
  obtain ⟨fd_apart_by, F_apart_by⟩ := c.def_ 52 (d := dd_apart_by) rfl
  obtain ⟨fd_law_more_right, F_law_more_right⟩ := c.def_ 53 (d := dd_law_more_right) rfl
  obtain ⟨fd_law_right, F_law_right⟩ := c.def_ 54 (d := dd_law_right) rfl
  obtain ⟨fd_law, F_law⟩ := c.def_ 55 (d := dd_law) rfl
  obtain ⟨fdi_NoFit, Fi_NoFit⟩ := c.def_ 56 (d := ddi_NoFit) rfl
  have e := hfa.symm.trans (He.glo_ok X G (c.fact 55 (f := .glo "law") rfl))
  cases e
  obtain ⟨tk_CELL, ct_CELL⟩ := He.int_ok X G (c.fact 70 (f := .int "CELL" 64) rfl)
  obtain ⟨tk_MOST_APART, ct_MOST_APART⟩ := He.int_ok X G (c.fact 71 (f := .int "MOST_APART" 400) rfl)
  obtain ⟨tk_MOST_MARKS, ct_MOST_MARKS⟩ := He.int_ok X G (c.fact 72 (f := .int "MOST_MARKS" 24) rfl)
  obtain ⟨tk_MOST_RULES, ct_MOST_RULES⟩ := He.int_ok X G (c.fact 73 (f := .int "MOST_RULES" 100) rfl)
  obtain ⟨tk_SHORT, ct_SHORT⟩ := He.int_ok X G (c.fact 74 (f := .int "SHORT" 100000000000000000000) rfl)
  let T : Tx K mg := ⟨
    ⟨_, fd_law_box, F_law_box, He.glo_ok X G (c.fact 0 (f := .glo "_law_box") rfl), FunD.bindsN F_law_box (fun _ _ _ _ _ _ us hl => match us, hl with | [_], _ => rfl)⟩,
    ⟨_, fd_law_cell, F_law_cell, He.glo_ok X G (c.fact 1 (f := .glo "_law_cell") rfl), FunD.bindsN F_law_cell (fun _ _ _ _ _ _ us hl => match us, hl with | [_, _], _ => rfl)⟩,
    ⟨_, fd_law_take, F_law_take, He.glo_ok X G (c.fact 2 (f := .glo "_law_take") rfl), FunD.bindsN F_law_take (fun _ _ _ _ _ _ us hl => match us, hl with | [_, _], _ => rfl)⟩,
    ⟨_, fd_law_mixed, F_law_mixed, He.glo_ok X G (c.fact 3 (f := .glo "_law_mixed") rfl), FunD.bindsN F_law_mixed (fun _ _ _ _ _ _ us hl => match us, hl with | [_, _], _ => rfl)⟩,
    ⟨_, fd_law_round_rules, F_law_round_rules, He.glo_ok X G (c.fact 4 (f := .glo "_law_round_rules") rfl), FunD.bindsN F_law_round_rules (fun _ _ _ _ _ _ us hl => match us, hl with | [_, _], _ => rfl)⟩,
    ⟨_, fd_law_drawn_rules, F_law_drawn_rules, He.glo_ok X G (c.fact 5 (f := .glo "_law_drawn_rules") rfl), FunD.bindsN F_law_drawn_rules (fun _ _ _ _ _ _ us hl => match us, hl with | [_, _, _], _ => rfl)⟩,
    ⟨_, fd_law_low, F_law_low, He.glo_ok X G (c.fact 6 (f := .glo "_law_low") rfl), FunD.bindsN F_law_low (fun _ _ _ _ _ _ us hl => match us, hl with | [_, _], _ => rfl)⟩,
    ⟨_, fd_law_places, F_law_places, He.glo_ok X G (c.fact 7 (f := .glo "_law_places") rfl), FunD.bindsN F_law_places (fun _ _ _ _ _ _ us hl => match us, hl with | [_, _], _ => rfl)⟩,
    ⟨_, fd_law_less, F_law_less, He.glo_ok X G (c.fact 8 (f := .glo "_law_less") rfl), FunD.bindsN F_law_less (fun _ _ _ _ _ _ us hl => match us, hl with | [_, _], _ => rfl)⟩,
    ⟨_, fd_law_most, F_law_most, He.glo_ok X G (c.fact 9 (f := .glo "_law_most") rfl), FunD.bindsN F_law_most (fun _ _ _ _ _ _ us hl => match us, hl with | [_, _], _ => rfl)⟩,
    ⟨_, fd_law_floor, F_law_floor, He.glo_ok X G (c.fact 10 (f := .glo "_law_floor") rfl), FunD.bindsN F_law_floor (fun _ _ _ _ _ _ us hl => match us, hl with | [_], _ => rfl)⟩,
    ⟨_, fd_law_over, F_law_over, He.glo_ok X G (c.fact 11 (f := .glo "_law_over") rfl), FunD.bindsN F_law_over (fun _ _ _ _ _ _ us hl => match us, hl with | [_, _], _ => rfl)⟩,
    ⟨_, fd_law_plus, F_law_plus, He.glo_ok X G (c.fact 12 (f := .glo "_law_plus") rfl), FunD.bindsN F_law_plus (fun _ _ _ _ _ _ us hl => match us, hl with | [_, _], _ => rfl)⟩,
    ⟨_, fd_law_minus, F_law_minus, He.glo_ok X G (c.fact 13 (f := .glo "_law_minus") rfl), FunD.bindsN F_law_minus (fun _ _ _ _ _ _ us hl => match us, hl with | [_, _], _ => rfl)⟩,
    ⟨_, fd_law_needed, F_law_needed, He.glo_ok X G (c.fact 14 (f := .glo "_law_needed") rfl), FunD.bindsN F_law_needed (fun _ _ _ _ _ _ us hl => match us, hl with | [_, _, _], _ => rfl)⟩,
    ⟨_, fd_law_least_movement, F_law_least_movement, He.glo_ok X G (c.fact 15 (f := .glo "_law_least_movement") rfl), FunD.bindsN F_law_least_movement (fun _ _ _ _ _ _ us hl => match us, hl with | [_, _], _ => rfl)⟩,
    ⟨_, fd_law_cells_due, F_law_cells_due, He.glo_ok X G (c.fact 16 (f := .glo "_law_cells_due") rfl), FunD.bindsN F_law_cells_due (fun _ _ _ _ _ _ us hl => match us, hl with | [_, _, _], _ => rfl)⟩,
    ⟨_, fd_law_num, F_law_num, He.glo_ok X G (c.fact 17 (f := .glo "_law_num") rfl), FunD.bindsN F_law_num (fun _ _ _ _ _ _ us hl => match us, hl with | [_], _ => rfl)⟩,
    ⟨_, fd_is_list, F_is_list, He.glo_ok X G (c.fact 18 (f := .glo "is_list") rfl), FunD.bindsN F_is_list (fun _ _ _ _ _ _ us hl => match us, hl with | [_, _, _], _ => rfl)⟩,
    ⟨_, fd_is_plain, F_is_plain, He.glo_ok X G (c.fact 19 (f := .glo "is_plain") rfl), FunD.bindsN F_is_plain (fun _ _ _ _ _ _ us hl => match us, hl with | [_], _ => rfl)⟩,
    ⟨_, fd_common_part, F_common_part, He.glo_ok X G (c.fact 20 (f := .glo "common_part") rfl), FunD.bindsN F_common_part (fun _ _ _ _ _ _ us hl => match us, hl with | [_, _], _ => rfl)⟩,
    ⟨_, fd_is_part, F_is_part, He.glo_ok X G (c.fact 21 (f := .glo "is_part") rfl), FunD.bindsN F_is_part (fun _ _ _ _ _ _ us hl => match us, hl with | [_], _ => rfl)⟩,
    ⟨_, fd_is_number, F_is_number, He.glo_ok X G (c.fact 22 (f := .glo "is_number") rfl), FunD.bindsN F_is_number (fun _ _ _ _ _ _ us hl => match us, hl with | [_], _ => rfl)⟩,
    ⟨_, fd_pair_of, F_pair_of, He.glo_ok X G (c.fact 23 (f := .glo "pair_of") rfl), FunD.bindsN F_pair_of (fun _ _ _ _ _ _ us hl => match us, hl with | [_], _ => rfl)⟩,
    ⟨_, fd_is_short, F_is_short, He.glo_ok X G (c.fact 24 (f := .glo "is_short") rfl), FunD.bindsN F_is_short (fun _ _ _ _ _ _ us hl => match us, hl with | [_], _ => rfl)⟩,
    ⟨_, fd_need_mark_places, F_need_mark_places, He.glo_ok X G (c.fact 25 (f := .glo "need_mark_places") rfl), FunD.bindsN F_need_mark_places (fun _ _ _ _ _ _ us hl => match us, hl with | [_], _ => rfl)⟩,
    ⟨_, fd_is_whole, F_is_whole, He.glo_ok X G (c.fact 26 (f := .glo "is_whole") rfl), FunD.bindsN F_is_whole (fun _ _ _ _ _ _ us hl => match us, hl with | [_, _, _], _ => rfl)⟩,
    ⟨_, fd_is_rule, F_is_rule, He.glo_ok X G (c.fact 27 (f := .glo "is_rule") rfl), FunD.bindsN F_is_rule (fun _ _ _ _ _ _ us hl => match us, hl with | [_, _], _ => rfl)⟩,
    ⟨_, fd_need_rules, F_need_rules, He.glo_ok X G (c.fact 28 (f := .glo "need_rules") rfl), FunD.bindsN F_need_rules (fun _ _ _ _ _ _ us hl => match us, hl with | [_, _], _ => rfl)⟩,
    ⟨_, fd_raised, F_raised, He.glo_ok X G (c.fact 29 (f := .glo "raised") rfl), FunD.bindsN F_raised (fun _ _ _ _ _ _ us hl => match us, hl with | [_, _], _ => rfl)⟩,
    ⟨_, fd_led_back, F_led_back, He.glo_ok X G (c.fact 30 (f := .glo "led_back") rfl), FunD.bindsN F_led_back (fun _ _ _ _ _ _ us hl => match us, hl with | [_, _, _, _], _ => rfl)⟩,
    ⟨_, fd_found_cycle, F_found_cycle, He.glo_ok X G (c.fact 31 (f := .glo "found_cycle") rfl), FunD.bindsN F_found_cycle (fun _ _ _ _ _ _ us hl => match us, hl with | [_, _], _ => rfl)⟩,
    ⟨_, fd_need_kept, F_need_kept, He.glo_ok X G (c.fact 32 (f := .glo "need_kept") rfl), FunD.bindsN F_need_kept (fun _ _ _ _ _ _ us hl => match us, hl with | [_, _], _ => rfl)⟩,
    ⟨_, fd_raised_from, F_raised_from, He.glo_ok X G (c.fact 33 (f := .glo "raised_from") rfl), FunD.bindsN F_raised_from (fun _ _ _ _ _ _ us hl => match us, hl with | [_, _, _], _ => rfl)⟩,
    ⟨_, fd_reckoned, F_reckoned, He.glo_ok X G (c.fact 34 (f := .glo "reckoned") rfl), FunD.bindsN F_reckoned (fun _ _ _ _ _ _ us hl => match us, hl with | [_, _], _ => rfl)⟩,
    ⟨_, fd_times, F_times, He.glo_ok X G (c.fact 35 (f := .glo "times") rfl), FunD.bindsN F_times (fun _ _ _ _ _ _ us hl => match us, hl with | [_, _], _ => rfl)⟩,
    ⟨_, fd_floor_of, F_floor_of, He.glo_ok X G (c.fact 36 (f := .glo "floor_of") rfl)⟩,
    kbk_of F_floor_of [0, 1] [("step", .int 1)] (by simp) (fun q hq => (show ∀ q : Str × V, q ∈ ([("step", .int 1)] : List (Str × V)) → q ∈ ([("step", .int 1)] : List (Str × V)) from by intro q hq; first | exact hq | (simp only [List.mem_cons, List.not_mem_nil, or_false] at hq ⊢; grind)) q hq) (fun _ _ _ _ _ _ us ws mv h1 h2 h3 => match us, ws, mv, h1, h2, h3 with | [_], [], [_], _, _, _ => ⟨_, _, _, _, _, _, rfl, rfl, rfl⟩),
    ⟨_, fd_over, F_over, He.glo_ok X G (c.fact 37 (f := .glo "over") rfl), FunD.bindsN F_over (fun _ _ _ _ _ _ us hl => match us, hl with | [_, _], _ => rfl)⟩,
    ⟨_, fd_minus, F_minus, He.glo_ok X G (c.fact 38 (f := .glo "minus") rfl), FunD.bindsN F_minus (fun _ _ _ _ _ _ us hl => match us, hl with | [_, _], _ => rfl)⟩,
    ⟨_, fd_plus, F_plus, He.glo_ok X G (c.fact 39 (f := .glo "plus") rfl), FunD.bindsN F_plus (fun _ _ _ _ _ _ us hl => match us, hl with | [_, _], _ => rfl)⟩,
    ⟨_, fd_less, F_less, He.glo_ok X G (c.fact 40 (f := .glo "less") rfl), FunD.bindsN F_less (fun _ _ _ _ _ _ us hl => match us, hl with | [_, _], _ => rfl)⟩,
    ⟨_, fd_needed_for, F_needed_for, He.glo_ok X G (c.fact 41 (f := .glo "needed_for") rfl), FunD.bindsN F_needed_for (fun _ _ _ _ _ _ us hl => match us, hl with | [_, _, _], _ => rfl)⟩,
    ⟨_, fd_tight_chain, F_tight_chain, He.glo_ok X G (c.fact 42 (f := .glo "tight_chain") rfl), FunD.bindsN F_tight_chain (fun _ _ _ _ _ _ us hl => match us, hl with | [_, _], _ => rfl)⟩,
    ⟨_, fd_nearest_fit, F_nearest_fit, He.glo_ok X G (c.fact 43 (f := .glo "nearest_fit") rfl), FunD.bindsN F_nearest_fit (fun _ _ _ _ _ _ us hl => match us, hl with | [_, _], _ => rfl)⟩,
    ⟨_, fd_law_fit, F_law_fit, He.glo_ok X G (c.fact 44 (f := .glo "_law_fit") rfl), FunD.bindsN F_law_fit (fun _ _ _ _ _ _ us hl => match us, hl with | [_, _], _ => rfl)⟩,
    ⟨_, fd_law_same, F_law_same, He.glo_ok X G (c.fact 45 (f := .glo "_law_same") rfl), FunD.bindsN F_law_same (fun _ _ _ _ _ _ us hl => match us, hl with | [_, _], _ => rfl)⟩,
    ⟨_, fd_law_far, F_law_far, He.glo_ok X G (c.fact 46 (f := .glo "_law_far") rfl), FunD.bindsN F_law_far (fun _ _ _ _ _ _ us hl => match us, hl with | [_, _], _ => rfl)⟩,
    ⟨_, fd_need_marks, F_need_marks, He.glo_ok X G (c.fact 47 (f := .glo "need_marks") rfl), FunD.bindsN F_need_marks (fun _ _ _ _ _ _ us hl => match us, hl with | [_, _], _ => rfl)⟩,
    ⟨_, fd_follows, F_follows, He.glo_ok X G (c.fact 48 (f := .glo "follows") rfl), FunD.bindsN F_follows (fun _ _ _ _ _ _ us hl => match us, hl with | [_, _, _], _ => rfl)⟩,
    ⟨_, fd_law_thinned, F_law_thinned, He.glo_ok X G (c.fact 49 (f := .glo "_law_thinned") rfl), FunD.bindsN F_law_thinned (fun _ _ _ _ _ _ us hl => match us, hl with | [_, _], _ => rfl)⟩,
    ⟨_, fd_law_all_implied, F_law_all_implied, He.glo_ok X G (c.fact 50 (f := .glo "_law_all_implied") rfl), FunD.bindsN F_law_all_implied (fun _ _ _ _ _ _ us hl => match us, hl with | [_], _ => rfl)⟩,
    ⟨_, fd_implied_cells, F_implied_cells, He.glo_ok X G (c.fact 51 (f := .glo "implied_cells") rfl), FunD.bindsN F_implied_cells (fun _ _ _ _ _ _ us hl => match us, hl with | [_, _, _, _], _ => rfl)⟩,
    ⟨_, fd_apart_by, F_apart_by, He.glo_ok X G (c.fact 52 (f := .glo "apart_by") rfl), FunD.bindsN F_apart_by (fun _ _ _ _ _ _ us hl => match us, hl with | [_, _, _, _], _ => rfl)⟩,
    ⟨_, fd_law_more_right, F_law_more_right, He.glo_ok X G (c.fact 53 (f := .glo "_law_more_right") rfl), FunD.bindsN F_law_more_right (fun _ _ _ _ _ _ us hl => match us, hl with | [_, _, _, _, _], _ => rfl)⟩,
    ⟨_, fd_law_right, F_law_right, He.glo_ok X G (c.fact 54 (f := .glo "_law_right") rfl), FunD.bindsN F_law_right (fun _ _ _ _ _ _ us hl => match us, hl with | [_, _, _, _], _ => rfl)⟩,
    He.free_ok X G (c.fact 56 (f := .free "abs") rfl),
    He.free_ok X G (c.fact 57 (f := .free "all") rfl),
    He.free_ok X G (c.fact 58 (f := .free "bool") rfl),
    He.free_ok X G (c.fact 59 (f := .free "enumerate") rfl),
    He.free_ok X G (c.fact 60 (f := .free "int") rfl),
    He.free_ok X G (c.fact 61 (f := .free "isinstance") rfl),
    He.free_ok X G (c.fact 62 (f := .free "len") rfl),
    He.free_ok X G (c.fact 63 (f := .free "list") rfl),
    He.free_ok X G (c.fact 64 (f := .free "max") rfl),
    He.free_ok X G (c.fact 65 (f := .free "min") rfl),
    He.free_ok X G (c.fact 66 (f := .free "range") rfl),
    He.free_ok X G (c.fact 67 (f := .free "str") rfl),
    He.free_ok X G (c.fact 68 (f := .free "sum") rfl),
    He.free_ok X G (c.fact 69 (f := .free "tuple") rfl),
    tk_CELL,
    ct_CELL,
    tk_MOST_APART,
    ct_MOST_APART,
    tk_MOST_MARKS,
    ct_MOST_MARKS,
    tk_MOST_RULES,
    ct_MOST_RULES,
    tk_SHORT,
    ct_SHORT,
    xc1B_ok X G cx_NoFit,
    fdi_NoFit,
    Fi_NoFit,
    FunD.bindsN Fi_NoFit (fun _ _ _ _ _ _ us hl => match us, hl with | [_, _], _ => rfl)⟩
  exact ⟨fd_law, fun s v => FunD.bindsA (ps := P_law) F_law (fun _ _ _ _ _ _ us hl => match us, hl with | [_], _ => rfl) s [v] rfl, fun base _ _ => ok_law T F_law⟩
end K69
open PySem PySem.W PySem.Calls PyProof.Rows
set_option maxRecDepth 100000 in
set_option maxHeartbeats 0 in
theorem PySem.Challenge.cw_hintscribe_k69_whole_fits_turned_about_holds : PySem.Challenge.rw_hintscribe_k69_whole_fits_turned_about.Holds := by
  w_on; o_law
  refine HandSHeadRun.head_any (r := OpenLaw.row PySem.Challenge.rw_hintscribe_k69_whole_fits_turned_about) (q := view (OpenLaw.row PySem.Challenge.rw_hintscribe_k69_whole_fits_turned_about).prog [77]) (H := K69.hk) (ob := K69.ob) (M := 6000) (loose := K69.others) (d := HandSHeadRun.topDef (OpenLaw.row PySem.Challenge.rw_hintscribe_k69_whole_fits_turned_about).prog 77) (kwd := []) K69.ob_eq
    (by kernel_rfl) (fun s => by kernel_rfl) K69.run (by kernel_rfl) (by kernel_rfl) (by kernel_rfl) (by rfl) (by first | assumption | decide +kernel) (by decide +kernel) ⟨rfl, rfl, rfl, rfl, rfl, by decide +kernel⟩ ?hw ?hc
  case hw => w_witness2
  case hc =>
    refine DL.walk_lawE (l := PySem.Challenge.rw_hintscribe_k69_whole_fits_turned_about) (n := 63) (k := 12) (x := "script") rfl (by decide) (by kernel_rfl) ⟨rfl, by decide, by decide⟩ ?F
    intro w mg fa h Y G hmg0
    obtain ⟨K, KX, c⟩ := Y
    have hmg : mg ("law" : PySem.Str) = some (.ref fa) := by
      have e : (HandSHeadRun.topDef (OpenLaw.row PySem.Challenge.rw_hintscribe_k69_whole_fits_turned_about).prog 77).name = ("law" : PySem.Str) := by kernel_rfl
      rw [← e]
      exact hmg0
    obtain ⟨fd, hb, hF⟩ := K69.facts (P := (PySem.Challenge.rw_hintscribe_k69_whole_fits_turned_about).prog) (w := w) KX G hmg c
    exact ⟨K, fd, KX, hb, hF⟩
#print axioms PySem.Challenge.cw_hintscribe_k69_whole_fits_turned_about_holds
