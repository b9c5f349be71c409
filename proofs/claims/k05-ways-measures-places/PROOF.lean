import PyProof.Rows.All
import Wide.All
import OpenK.AllK
import Wide.FinOn
import HandS.ForMost
import HandS.ForExc
import HandS.Wide
import HandS.Defaults
import HandS.IsInst
import HandS.Flow
import HandS.Conv
import HandS.EndBits
import HandS.Head0
import HandS.Head1
import HandS.Head2
import HandS.HeadEnd
import HandS.HeadHook1
import HandS.HeadHook2
import HandS.ExcInit
import HandS.ExcIs
import HandS.SortInts
import HandS.Style
import KE.GoesMore
import HandS.Exc
import HandS.ExcOwn
import HandS.ExcField
import HandS.ClsMeth
import HandS.Dict
import HandS.Iter
import HandS.RevRange
import HandS.SortKw
import KE.DataCmp
import KE.DatumOrd
import HandS.SortRule
import HandS.Comp
import HandS.Zip
import KE.KUnpackStar
import HandS.CallLocal
import HandS.More
import HandS.Small
import HandS.HeadHook3
import PyProof.ReprRoads
import HandS.ExcCtx
import HandS.HotCalls
import HandS.Flt
import PySem.Challenge.RW_hintscribe_k05_ways_measures_places_move
set_option Elab.async false
set_option linter.all false
set_option maxRecDepth 100000
set_option maxHeartbeats 1000000
/-! DL, part 1: values whose tuples (and lists that nobody changes any more) are trees, over the hand layer. -/
namespace DL
open PySem PySem.Spec L2

/-- the built-in classes that programs name -/
inductive Tg where
  | int | bool | str | tup | lst | dct | non | exc
  deriving DecidableEq
def Tg.name : Tg → String
  | .int => "int" | .bool => "bool" | .str => "str" | .tup => "tuple" | .lst => "list" | .dct => "dict" | .non => "NoneType" | .exc => "ellipsis"
/-- a value: tuples, and lists that stay as they are, are trees (scr: a list that is read alone, the script) -/
inductive D where
  | non | bl (b : Bool) | int (i : Int) | str (x : Str) | ty (t : Tg)
  | tup (ds : List D) | lst (ds : List D) | scr (ds : List D)
  | ref (a : Addr)
  | dct (ks : List Key) (ds : List D)
  | dcT (ks : List (List Key)) (ds : List D)

/-- what may change, at an address -/
inductive GO where
  | lst (ds : List D)
  | dK (kvs : List (Key × D))
  | dT (kvs : List (List Key × D))
  | ins (C : Addr) (fs : List (Str × D))
  | exo (C : Addr) (fs : List (Str × D))

abbrev GHp := Addr → Option GO
def gupd (G : GHp) (a : Addr) (o : GO) : GHp := fun b => if b = a then some o else G b
theorem gupd_same {G : GHp} {a : Addr} {o : GO} : gupd G a o a = some o := by unfold gupd; rw [if_pos rfl]
theorem gupd_ne {G : GHp} {a b : Addr} {o : GO} (h : b ≠ a) : gupd G a o b = G b := by unfold gupd; rw [if_neg h]
theorem gupd_gupd {G : GHp} {a : Addr} {o u : GO} : gupd (gupd G a o) a u = gupd G a u := by
  funext b; unfold gupd; split <;> rfl
theorem gupd_self {G : GHp} {a : Addr} {o : GO} (h : G a = some o) : gupd G a o = G := by
  funext b; unfold gupd; split
  · next e => rw [e, h]
  · rfl

/-- the part of the abstract heap that stays as it is: neither tracked by G nor hidden -/
def U (H : Hp) (G : GHp) (Z : Addr → Bool) : Hp := fun a => if (G a).isSome || Z a then none else H a
theorem U_some {H : Hp} {G : GHp} {Z : Addr → Bool} {a : Addr} {o : HO} (h : U H G Z a = some o) : G a = none ∧ Z a = false ∧ H a = some o := by
  unfold U at h
  split at h
  · cases h
  · next e =>
    simp only [Bool.or_eq_true, not_or, Bool.not_eq_true] at e
    refine ⟨?_, e.2, h⟩
    cases q : G a with
    | none => rfl
    | some x => rw [q] at e; simp at e
theorem U_of {H : Hp} {G : GHp} {Z : Addr → Bool} {a : Addr} {o : HO} (h1 : G a = none) (h2 : Z a = false) (h3 : H a = some o) : U H G Z a = some o := by
  unfold U
  rw [h1, h2]
  exact h3

/-- a tuple that is told, or one of the module's, of three items -/
def TupAt (K : PySem.W.Frag) (W : Hp) (a : Addr) (xs : List V) : Prop := W a = some (.tup xs) ∨ (xs.length = 3 ∧ ∀ H, SqT K H a xs)
theorem TupAt.mono {K : PySem.W.Frag} {W W' : Hp} (k : ∀ a o, W a = some o → W' a = some o) {a : Addr} {xs : List V} (h : TupAt K W a xs) : TupAt K W' a xs := h.imp (k _ _) fun q => q
theorem TupAt.sq {K : PySem.W.Frag} {W W' : Hp} (k : ∀ a o, W a = some o → W' a = some o) {a : Addr} {xs : List V} (h : TupAt K W a xs) : SqT K W' a xs := h.elim (fun h => SqT.of (k _ _ h)) fun q => q.2 _
mutual
/-- the value v is (the tree) d, in a heap that stays -/
inductive Rep (K : PySem.W.Frag) (W : Hp) : D → V → Prop
  | non : Rep K W .non .non
  | bl (b : Bool) : Rep K W (.bl b) (.bl b)
  | int (i : Int) : Rep K W (.int i) (.int i)
  | str (x : Str) : Rep K W (.str x) (.str x)
  | ty (t : Tg) : Rep K W (.ty t) (.ty t.name)
  | ref (a : Addr) : Rep K W (.ref a) (.ref a)
  | tup {a : Addr} {xs : List V} {ds : List D} : TupAt K W a xs → Reps K W ds xs → Rep K W (.tup ds) (.ref a)
  | lst {a : Addr} {xs : List V} {ds : List D} : W a = some (.lst xs) → Reps K W ds xs → Rep K W (.lst ds) (.ref a)
  | scr {a : Addr} {xs : List V} {ds : List D} : SqL K W a xs → Reps K W ds xs → Rep K W (.scr ds) (.ref a)
  | dct {a : Addr} {o : Obj} {xs : List (Key × V)} {ks : List Key} {ds : List D} : W a = some (.frz o (.dK xs)) → xs.map (·.1) = ks → Reps K W ds (xs.map (·.2)) → Rep K W (.dct ks ds) (.ref a)
  | dcT {a : Addr} {o : Obj} {xs : List (List Key × V)} {ks : List (List Key)} {ds : List D} : W a = some (.frz o (.dT xs)) → xs.map (·.1) = ks → Reps K W ds (xs.map (·.2)) → Rep K W (.dcT ks ds) (.ref a)
inductive Reps (K : PySem.W.Frag) (W : Hp) : List D → List V → Prop
  | nil : Reps K W [] []
  | cons {d : D} {v : V} {ds : List D} {vs : List V} : Rep K W d v → Reps K W ds vs → Reps K W (d :: ds) (v :: vs)
end

theorem Rd.mono {W W' : Hp} (k : ∀ a o, W a = some o → W' a = some o) {a : Addr} {u : HO} (h : Rd W a u) : Rd W' a u := by
  rcases h with h | ⟨o, h⟩
  · exact .inl (k _ _ h)
  · exact .inr ⟨o, k _ _ h⟩
theorem SqT.mono {K : PySem.W.Frag} {W W' : Hp} (k : ∀ a o, W a = some o → W' a = some o) {a : Addr} {xs : List V} (h : SqT K W a xs) : SqT K W' a xs := by
  rcases h with h | h
  · exact .inl (Rd.mono k h)
  · exact .inr h
theorem SqL.mono {K : PySem.W.Frag} {W W' : Hp} (k : ∀ a o, W a = some o → W' a = some o) {a : Addr} {xs : List V} (h : SqL K W a xs) : SqL K W' a xs := by
  rcases h with h | h
  · exact .inl (Rd.mono k h)
  · exact .inr h

section
variable {K : PySem.W.Frag} {W W' : Hp}
mutual
theorem Rep.mono (k : ∀ a o, W a = some o → W' a = some o) : ∀ {d : D} {v : V}, Rep K W d v → Rep K W' d v
  | _, _, .non => .non
  | _, _, .bl b => .bl b
  | _, _, .int i => .int i
  | _, _, .str x => .str x
  | _, _, .ty n => .ty n
  | _, _, .ref a => .ref a
  | _, _, .tup h r => .tup (TupAt.mono k h) (Reps.mono k r)
  | _, _, .lst h r => .lst (k _ _ h) (Reps.mono k r)
  | _, _, .scr h r => .scr (SqL.mono k h) (Reps.mono k r)
  | _, _, .dct h e r => .dct (k _ _ h) e (Reps.mono k r)
  | _, _, .dcT h e r => .dcT (k _ _ h) e (Reps.mono k r)
theorem Reps.mono (k : ∀ a o, W a = some o → W' a = some o) : ∀ {ds : List D} {vs : List V}, Reps K W ds vs → Reps K W' ds vs
  | _, _, .nil => .nil
  | _, _, .cons h r => .cons (Rep.mono k h) (Reps.mono k r)
end
theorem Reps.length : ∀ {ds : List D} {vs : List V}, Reps K W ds vs → ds.length = vs.length
  | _, _, .nil => rfl
  | _, _, .cons _ r => by simp [Reps.length r]
theorem Reps.append : ∀ {ds es : List D} {vs us : List V}, Reps K W ds vs → Reps K W es us → Reps K W (ds ++ es) (vs ++ us)
  | _, _, _, _, .nil, q => q
  | _, _, _, _, .cons h r, q => .cons h (Reps.append r q)
theorem Reps.take : ∀ {ds : List D} {vs : List V} (n : Nat), Reps K W ds vs → Reps K W (ds.take n) (vs.take n)
  | _, _, 0, _ => by simp only [List.take_zero]; exact .nil
  | _, _, n + 1, .nil => .nil
  | _, _, n + 1, .cons h r => .cons h (Reps.take n r)
theorem Reps.drop : ∀ {ds : List D} {vs : List V} (n : Nat), Reps K W ds vs → Reps K W (ds.drop n) (vs.drop n)
  | _, _, 0, r => r
  | _, _, n + 1, .nil => .nil
  | _, _, n + 1, .cons h r => Reps.drop n r
theorem Reps.get : ∀ {ds : List D} {vs : List V} {i : Nat} {d : D}, Reps K W ds vs → ds[i]? = some d → ∃ v, vs[i]? = some v ∧ Rep K W d v
  | _, _, 0, d, .cons h r, e => by
    simp at e; subst e; exact ⟨_, rfl, h⟩
  | _, _, i + 1, d, .cons h r, e => by
    obtain ⟨v, h1, h2⟩ := Reps.get (i := i) (d := d) r (by simpa using e)
    exact ⟨v, by simpa using h1, h2⟩
theorem Reps.get' : ∀ {ds : List D} {vs : List V} {i : Nat} {v : V}, Reps K W ds vs → vs[i]? = some v → ∃ d, ds[i]? = some d ∧ Rep K W d v
  | _, _, 0, d, .cons h r, e => by
    simp at e; subst e; exact ⟨_, rfl, h⟩
  | _, _, i + 1, d, .cons h r, e => by
    obtain ⟨v, h1, h2⟩ := Reps.get' (i := i) (v := d) r (by simpa using e)
    exact ⟨v, by simpa using h1, h2⟩
theorem Reps.set {d : D} {v : V} (h : Rep K W d v) : ∀ {ds : List D} {vs : List V} (i : Nat), Reps K W ds vs → Reps K W (ds.set i d) (vs.set i v)
  | _, _, _, .nil => .nil
  | _, _, 0, .cons _ r => .cons h r
  | _, _, i + 1, .cons q r => .cons q (Reps.set h i r)
theorem Reps.reverse : ∀ {ds : List D} {vs : List V}, Reps K W ds vs → Reps K W ds.reverse vs.reverse
  | _, _, .nil => .nil
  | _, _, .cons h r => by
    rw [List.reverse_cons, List.reverse_cons]
    exact Reps.append (Reps.reverse r) (.cons h .nil)
theorem Reps.ints : ∀ {ns : List Int} {vs : List V}, Reps K W (ns.map D.int) vs → vs = ns.map V.int
  | [], _, .nil => rfl
  | _ :: _, _, .cons h r => by
    cases h
    rw [List.map_cons, Reps.ints r]
theorem Reps.of_ints : ∀ (ns : List Int), Reps K W (ns.map D.int) (ns.map V.int)
  | [] => .nil
  | n :: r => .cons (.int n) (Reps.of_ints r)
theorem Reps.strs : ∀ {ns : List Str} {vs : List V}, Reps K W (ns.map D.str) vs → vs = ns.map V.str
  | [], _, .nil => rfl
  | _ :: _, _, .cons h r => by
    cases h
    rw [List.map_cons, Reps.strs r]
theorem Reps.bls : ∀ {ns : List Bool} {vs : List V}, Reps K W (ns.map D.bl) vs → vs = ns.map V.bl
  | [], _, .nil => rfl
  | _ :: _, _, .cons h r => by
    cases h
    rw [List.map_cons, Reps.bls r]
end

/-- slots: what is told holds -/
inductive RepO (K : PySem.W.Frag) (W : Hp) : Option D → Option V → Prop
  | no (o : Option V) : RepO K W none o
  | so {d : D} {v : V} : Rep K W d v → RepO K W (some d) (some v)
abbrev DSt := List (Option D)
def RepSt (K : PySem.W.Frag) (W : Hp) (δ : DSt) (σ : St) : Prop := Paired (RepO K W) δ σ
section
variable {K : PySem.W.Frag} {W W' : Hp}
theorem RepO.mono (k : ∀ a o, W a = some o → W' a = some o) {d : Option D} {v : Option V} (h : RepO K W d v) : RepO K W' d v := by
  cases h with
  | no => exact .no _
  | so h => exact .so (h.mono k)
theorem RepSt.mono (k : ∀ a o, W a = some o → W' a = some o) {δ : DSt} {σ : St} (h : RepSt K W δ σ) : RepSt K W' δ σ :=
  Paired.mapP h fun _ _ q => q.mono k
theorem RepSt.get {δ : DSt} {σ : St} (h : RepSt K W δ σ) : ∀ {i : Nat} {d : D}, δ[i]? = some (some d) → ∃ v, σ[i]? = some (some v) ∧ Rep K W d v := by
  induction h with
  | nil => intro i d e; simp at e
  | cons q t ih =>
    intro i d e
    cases i with
    | zero =>
      simp at e; subst e
      cases q with
      | so q => exact ⟨_, rfl, q⟩
    | succ i =>
      obtain ⟨v, h1, h2⟩ := ih (i := i) (d := d) (by simpa using e)
      exact ⟨v, by simpa using h1, h2⟩
theorem RepSt.set {δ : DSt} {σ : St} (h : RepSt K W δ σ) {d : D} {v : V} (q : Rep K W d v) : ∀ (i : Nat), RepSt K W (δ.set i (some d)) (σ.set i (some v)) := by
  induction h with
  | nil => intro i; exact .nil
  | cons r t ih =>
    intro i
    cases i with
    | zero => exact .cons (.so q) t
    | succ i => exact .cons r (ih i)
theorem RepSt.forget {δ : DSt} {σ : St} (h : RepSt K W δ σ) : ∀ (i : Nat) (o : Option V), RepSt K W (δ.set i none) (σ.set i o) := by
  induction h with
  | nil => intro i o; exact .nil
  | cons r t ih =>
    intro i o
    cases i with
    | zero => exact .cons (.no o) t
    | succ i => exact .cons r (ih i o)
theorem RepSt.length {δ : DSt} {σ : St} (h : RepSt K W δ σ) : δ.length = σ.length := Paired.length h
theorem RepSt.somes : ∀ {ds : List D} {vs : List V}, Reps K W ds vs → RepSt K W (ds.map some) (vs.map some)
  | _, _, .nil => .nil
  | _, _, .cons h r => .cons (.so h) (RepSt.somes r)
theorem RepSt.nones : ∀ (n : Nat), RepSt K W (List.replicate n none) (List.replicate n none)
  | 0 => .nil
  | n + 1 => .cons (.no _) (RepSt.nones n)
theorem RepSt.app {δ δ' : DSt} {σ σ' : St} (h : RepSt K W δ σ) (q : RepSt K W δ' σ') : RepSt K W (δ ++ δ') (σ ++ σ') := by
  induction h with
  | nil => exact q
  | cons r t ih => exact .cons r ih
end

/-- what an own exception class tells, so that isinstance asks its instances for built-in types -/
structure ExoF (K : PySem.W.Frag) (C : Addr) : Prop where
  c : ExcC K C
  n : ∀ t : Tg, PySem.W.kitOne K (.ref C) (.type t.name) = some false
/-- the tracked things are as G tells -/
def GOk (K : PySem.W.Frag) (H W : Hp) (a : Addr) : GO → Prop
  | .lst ds => ∃ xs, H a = some (.lst xs) ∧ Reps K W ds xs
  | .dK kvs => ∃ xs, H a = some (.dK xs) ∧ xs.map (·.1) = kvs.map (·.1) ∧ Reps K W (kvs.map (·.2)) (xs.map (·.2))
  | .dT kvs => ∃ xs, H a = some (.dT xs) ∧ xs.map (·.1) = kvs.map (·.1) ∧ Reps K W (kvs.map (·.2)) (xs.map (·.2))
  | .ins C fs => ∃ dx xs, H a = some (.ins C dx xs) ∧ xs.map (·.1) = fs.map (·.1) ∧ Reps K W (fs.map (·.2)) (xs.map (·.2))
  | .exo C fs => ExoF K C ∧ ∃ dx xs, H a = some (L2.exo a C (some dx)) ∧ W dx = some (L2.exd dx xs) ∧ xs.map (·.1) = fs.map (·.1) ∧ Reps K W (fs.map (·.2)) (xs.map (·.2))
theorem GOk.mono {K : PySem.W.Frag} {H H' W W' : Hp} {a : Addr} {o : GO} (k : ∀ a o, W a = some o → W' a = some o) (e : H' a = H a) (h : GOk K H W a o) : GOk K H' W' a o := by
  cases o with
  | lst ds => obtain ⟨xs, h1, h2⟩ := h; exact ⟨xs, e.trans h1, h2.mono k⟩
  | dK kvs => obtain ⟨xs, h1, h2, h3⟩ := h; exact ⟨xs, e.trans h1, h2, h3.mono k⟩
  | dT kvs => obtain ⟨xs, h1, h2, h3⟩ := h; exact ⟨xs, e.trans h1, h2, h3.mono k⟩
  | ins C fs => obtain ⟨dx, xs, h1, h2, h3⟩ := h; exact ⟨dx, xs, e.trans h1, h2, h3.mono k⟩
  | exo C fs => obtain ⟨h0, dx, xs, h1, h2, h3, h4⟩ := h; exact ⟨h0, dx, xs, e.trans h1, k _ _ h2, h3, h4.mono k⟩
theorem GOk.there {K : PySem.W.Frag} {H W : Hp} {a : Addr} {o : GO} (h : GOk K H W a o) : H a ≠ none := by
  cases o with
  | lst ds => obtain ⟨xs, h1, h2⟩ := h; rw [h1]; simp
  | dK kvs => obtain ⟨xs, h1, h2⟩ := h; rw [h1]; simp
  | dT kvs => obtain ⟨xs, h1, h2⟩ := h; rw [h1]; simp
  | ins C fs => obtain ⟨dx, xs, h1, h2⟩ := h; rw [h1]; simp
  | exo C fs => obtain ⟨h0, dx, xs, h1, h2⟩ := h; rw [h1]; simp
structure Ok (K : PySem.W.Frag) (H : Hp) (G : GHp) (Z : Addr → Bool) : Prop where
  ok : ∀ a o, G a = some o → Z a = false ∧ GOk K H (U H G Z) a o
  hid : ∀ a, Z a = true → ∃ xs, H a = some (.lst xs)
/-- what stays, stays; what is hidden, too -/
structure Kp (H : Hp) (G : GHp) (Z : Addr → Bool) (H' : Hp) (G' : GHp) : Prop where
  keep : ∀ a o, U H G Z a = some o → U H' G' Z a = some o
  hid : ∀ a o, Z a = true → H a = some o → H' a = some o
theorem Kp.refl {H : Hp} {G : GHp} {Z : Addr → Bool} : Kp H G Z H G := ⟨fun _ _ h => h, fun _ _ _ h => h⟩
theorem Kp.trans {H H1 H2 : Hp} {G G1 G2 : GHp} {Z : Addr → Bool} (a : Kp H G Z H1 G1) (b : Kp H1 G1 Z H2 G2) : Kp H G Z H2 G2 :=
  ⟨fun x o h => b.keep x o (a.keep x o h), fun x o z h => b.hid x o z (a.hid x o z h)⟩

section
variable {K : PySem.W.Frag} {H H' : Hp} {G : GHp} {Z : Addr → Bool} {p : Addr} {o : HO}
theorem Ok.free (ok : Ok K H G Z) (h : H p = none) : G p = none ∧ Z p = false := by
  constructor
  · cases e : G p with
    | none => rfl
    | some x => exact absurd h (ok.ok p x e).2.there
  · cases e : Z p with
    | false => rfl
    | true =>
      obtain ⟨xs, hx⟩ := ok.hid p e
      rw [h] at hx; cases hx
/-- a new thing that G doesn't track -/
theorem Kp.laid (h : H p = none) : Kp H G Z (upd H p o) G := by
  refine ⟨fun a u e => ?_, fun a u z e => ?_⟩
  · obtain ⟨h1, h2, h3⟩ := U_some e
    exact U_of h1 h2 (by rw [upd_ne (ne_of_none h3 h)]; exact h3)
  · rw [upd_ne (ne_of_none e h)]; exact e
theorem Ok.laid (ok : Ok K H G Z) (h : H p = none) : Ok K (upd H p o) G Z := by
  refine ⟨fun a u e => ?_, fun a z => ?_⟩
  · obtain ⟨z, g⟩ := ok.ok a u e
    have hne : a ≠ p := fun q => g.there (by rw [q]; exact h)
    exact ⟨z, g.mono (Kp.laid h).keep (upd_ne hne)⟩
  · by_cases hq : a = p
    · subst hq; obtain ⟨xs, hx⟩ := ok.hid _ z; rw [h] at hx; cases hx
    · rw [upd_ne hq]; exact ok.hid a z
theorem U_laid (ok : Ok K H G Z) (h : H p = none) : U (upd H p o) G Z p = some o := U_of (ok.free h).1 (ok.free h).2 upd_same
/-- a new thing that G tracks -/
theorem Kp.laidG {go : GO} (h : H p = none) (hg : G p = none) : Kp H G Z (upd H p o) (gupd G p go) := by
  refine ⟨fun a u e => ?_, fun a u z e => ?_⟩
  · obtain ⟨h1, h2, h3⟩ := U_some e
    have hne := ne_of_none h3 h
    exact U_of (by rw [gupd_ne hne]; exact h1) h2 (by rw [upd_ne hne]; exact h3)
  · rw [upd_ne (ne_of_none e h)]; exact e
theorem Ok.laidG {go : GO} (ok : Ok K H G Z) (h : H p = none) (g : GOk K (upd H p o) (U (upd H p o) (gupd G p go) Z) p go) : Ok K (upd H p o) (gupd G p go) Z := by
  refine ⟨fun a u e => ?_, fun a z => ?_⟩
  · by_cases hq : a = p
    · subst hq
      rw [gupd_same] at e; cases e
      exact ⟨(ok.free h).2, g⟩
    · rw [gupd_ne hq] at e
      obtain ⟨z, g'⟩ := ok.ok a u e
      exact ⟨z, g'.mono (Kp.laidG h (ok.free h).1).keep (upd_ne hq)⟩
  · by_cases hq : a = p
    · subst hq; obtain ⟨xs, hx⟩ := ok.hid _ z; rw [h] at hx; cases hx
    · rw [upd_ne hq]; exact ok.hid a z
/-- a tracked thing is written -/
theorem Kp.wrote {go go' : GO} (hg : G p = some go) (hz : Z p = false) : Kp H G Z (upd H p o) (gupd G p go') := by
  refine ⟨fun a u e => ?_, fun a u z e => ?_⟩
  · obtain ⟨h1, h2, h3⟩ := U_some e
    have hne : a ≠ p := fun q => by rw [q, hg] at h1; cases h1
    exact U_of (by rw [gupd_ne hne]; exact h1) h2 (by rw [upd_ne hne]; exact h3)
  · have hne : a ≠ p := fun q => by rw [q, hz] at z; cases z
    rw [upd_ne hne]; exact e
theorem Ok.wrote {go go' : GO} (ok : Ok K H G Z) (hg : G p = some go) (g : GOk K (upd H p o) (U (upd H p o) (gupd G p go') Z) p go') : Ok K (upd H p o) (gupd G p go') Z := by
  have hz := (ok.ok p go hg).1
  refine ⟨fun a u e => ?_, fun a z => ?_⟩
  · by_cases hq : a = p
    · subst hq
      rw [gupd_same] at e; cases e
      exact ⟨hz, g⟩
    · rw [gupd_ne hq] at e
      obtain ⟨z, g'⟩ := ok.ok a u e
      exact ⟨z, g'.mono (Kp.wrote hg hz).keep (upd_ne hq)⟩
  · by_cases hq : a = p
    · subst hq; rw [hz] at z; cases z
    · rw [upd_ne hq]; exact ok.hid a z
end

/-! ### readings -/
abbrev DK := D → GHp → Prop
abbrev DTE := DSt → GHp → DK → Prop
abbrev DTT := DSt → GHp → (Bool → GHp → Prop) → Prop
abbrev DTA := DSt → GHp → (List D → GHp → Prop) → Prop
/-- where an exception goes: its class, its fields (if its class has an own dict), the slots -/
abbrev DXS := Value → Option (List (Str × D)) → DSt → GHp → Prop
structure DEnds where
  nx : DSt → GHp → Prop
  rt : DK
  bk : DSt → GHp → Prop := fun _ _ => False
  ct : DSt → GHp → Prop := fun _ _ => False
  ex : DXS := fun _ _ _ _ => False
abbrev DTS := DEnds → DSt → GHp → Prop

def cE (K : PySem.W.Frag) (t : DTE) : TE := fun σ H Q => ∃ (δ : DSt) (G : GHp) (Z : Addr → Bool) (Q0 : DK), Ok K H G Z ∧ RepSt K (U H G Z) δ σ ∧ t δ G Q0 ∧
  ∀ d G' v H', Q0 d G' → Kp H G Z H' G' → Ok K H' G' Z → Rep K (U H' G' Z) d v → Q v H'
def cT (K : PySem.W.Frag) (t : DTT) : TT := fun σ H Q => ∃ (δ : DSt) (G : GHp) (Z : Addr → Bool) (Q0 : Bool → GHp → Prop), Ok K H G Z ∧ RepSt K (U H G Z) δ σ ∧ t δ G Q0 ∧
  ∀ b G' H', Q0 b G' → Kp H G Z H' G' → Ok K H' G' Z → Q b H'
def cA (K : PySem.W.Frag) (t : DTA) : TA := fun σ H Q => ∃ (δ : DSt) (G : GHp) (Z : Addr → Bool) (Q0 : List D → GHp → Prop), Ok K H G Z ∧ RepSt K (U H G Z) δ σ ∧ t δ G Q0 ∧
  ∀ ds G' vs H', Q0 ds G' → Kp H G Z H' G' → Ok K H' G' Z → Reps K (U H' G' Z) ds vs → Q vs H'
/-- the ends answer one another, from (H, G) on -/
structure ELk (K : PySem.W.Frag) (W : WX) (Z : Addr → Bool) (D0 : DEnds) (E : Ends) (H : Hp) (G : GHp) : Prop where
  nx : ∀ δ' G' σ' H', D0.nx δ' G' → Kp H G Z H' G' → Ok K H' G' Z → RepSt K (U H' G' Z) δ' σ' → E.nx σ' H'
  bk : ∀ δ' G' σ' H', D0.bk δ' G' → Kp H G Z H' G' → Ok K H' G' Z → RepSt K (U H' G' Z) δ' σ' → E.bk σ' H'
  ct : ∀ δ' G' σ' H', D0.ct δ' G' → Kp H G Z H' G' → Ok K H' G' Z → RepSt K (U H' G' Z) δ' σ' → E.ct σ' H'
  rt : ∀ d G' v H', D0.rt d G' → Kp H G Z H' G' → Ok K H' G' Z → Rep K (U H' G' Z) d v → E.rt v H'
  exb : ∀ c δ' G' σ' H', D0.ex c none δ' G' → Kp H G Z H' G' → Ok K H' G' Z → RepSt K (U H' G' Z) δ' σ' → W c none σ' H'
  exo : ∀ c fs δ' G' σ' H' dx xs, D0.ex c (some fs) δ' G' → Kp H G Z H' G' → Ok K H' G' Z → RepSt K (U H' G' Z) δ' σ' → U H' G' Z dx = some (.xd xs) → xs.map (·.1) = fs.map (·.1) → Reps K (U H' G' Z) (fs.map (·.2)) (xs.map (·.2)) → W c (some dx) σ' H'
theorem ELk.after {K : PySem.W.Frag} {W : WX} {Z : Addr → Bool} {D0 : DEnds} {E : Ends} {H H1 : Hp} {G G1 : GHp} (e : ELk K W Z D0 E H G) (k : Kp H G Z H1 G1) : ELk K W Z D0 E H1 G1 :=
  ⟨fun δ' G' σ' H' h q => e.nx δ' G' σ' H' h (k.trans q), fun δ' G' σ' H' h q => e.bk δ' G' σ' H' h (k.trans q), fun δ' G' σ' H' h q => e.ct δ' G' σ' H' h (k.trans q), fun d G' v H' h q => e.rt d G' v H' h (k.trans q),
    fun c δ' G' σ' H' h q => e.exb c δ' G' σ' H' h (k.trans q), fun c fs δ' G' σ' H' dx xs h q => e.exo c fs δ' G' σ' H' dx xs h (k.trans q)⟩
def cS (K : PySem.W.Frag) (W : WX) (t : DTS) : TS := fun E σ H => ∃ (δ : DSt) (G : GHp) (Z : Addr → Bool) (D0 : DEnds), Ok K H G Z ∧ RepSt K (U H G Z) δ σ ∧ t D0 δ G ∧ ELk K W Z D0 E H G

def DE (X : Cx) (e : Expr) (t : DTE) : Prop := PE X e (cE X.K t)
def DT (X : Cx) (e : Expr) (t : DTT) : Prop := PT X e (cT X.K t)
def DW (X : Cx) (e : Expr) (t : DTT) : Prop := PW X e (cT X.K t)
def DA (X : Cx) (es : List Expr) (t : DTA) : Prop := PA X es (cA X.K t)
def DS (X : Cx) (W : WX) (st : Stmt) (t : DTS) : Prop := PS X st (cS X.K W t)
def DSs (X : Cx) (W : WX) (st : List Stmt) (t : DTS) : Prop := PSs X st (cS X.K W t)
/-- no exception -/
abbrev W0 : WX := fun _ _ _ _ => False

theorem PE.mono {X : Cx} {e : Expr} {t u : TE} (h : PE X e t) (k : ∀ σ H Q, u σ H Q → t σ H Q) : PE X e u :=
  ⟨fun pins s σ H Q I q => h.run pins s σ H Q I (k σ H Q q)⟩
theorem PT.mono {X : Cx} {e : Expr} {t u : TT} (h : PT X e t) (k : ∀ σ H Q, u σ H Q → t σ H Q) : PT X e u :=
  ⟨fun pins s σ H Q I q => h.run pins s σ H Q I (k σ H Q q)⟩
theorem PW.mono {X : Cx} {e : Expr} {t u : TT} (h : PW X e t) (k : ∀ σ H Q, u σ H Q → t σ H Q) : PW X e u :=
  ⟨fun wh pins s σ H Q I q => h.run wh pins s σ H Q I (k σ H Q q)⟩
theorem PA.mono {X : Cx} {e : List Expr} {t u : TA} (h : PA X e t) (k : ∀ σ H Q, u σ H Q → t σ H Q) : PA X e u :=
  ⟨fun pos pins s σ H Q I q => h.run pos pins s σ H Q I (k σ H Q q)⟩
theorem PS.mono {X : Cx} {e : Stmt} {t u : TS} (h : PS X e t) (k : ∀ D σ H, u D σ H → t D σ H) : PS X e u :=
  ⟨fun pins s σ H D I q => h.run pins s σ H D I (k D σ H q)⟩
theorem PSs.mono {X : Cx} {e : List Stmt} {t u : TS} (h : PSs X e t) (k : ∀ D σ H, u D σ H → t D σ H) : PSs X e u :=
  ⟨fun pins s σ H D I q => h.run pins s σ H D I (k D σ H q)⟩

/-- two ways by a Bool -/
def dIte (b : Bool) (P Q : Prop) : Prop := (b = true → P) ∧ (b = false → Q)
theorem dIte_cases {b : Bool} {P Q : Prop} (h : dIte b P Q) : if b = true then P else Q := by
  cases b with
  | true => rw [if_pos rfl]; exact h.1 rfl
  | false => rw [if_neg (by simp)]; exact h.2 rfl
theorem dIte_t {P Q : Prop} (h : dIte true P Q) : P := h.1 rfl
theorem dIte_f {P Q : Prop} (h : dIte false P Q) : Q := h.2 rfl
theorem dIte_true {P Q : Prop} (h : P) : dIte true P Q := ⟨fun _ => h, fun e => nomatch e⟩
theorem dIte_false {P Q : Prop} (h : Q) : dIte false P Q := ⟨fun e => (nomatch e), fun _ => h⟩

/-! ### names and constants -/
def dVar (i : Nat) : DTE := fun δ G Q => match δ[i]? with
  | some (some d) => Q d G
  | _ => False
def dC (d : D) : DTE := fun _ G Q => Q d G
section
variable {X : Cx} {a b c e : Expr} {ta tb tc te : DTE} {pos : Pos}
theorem de_var {i : Nat} {x : Str} (h : PE X (.Name x pos) (tVar i)) : DE X (.Name x pos) (dVar i) :=
  PE.mono h fun σ H Q ⟨δ, G, Z, Q0, ok, rs, h, k⟩ => by
    unfold dVar at h
    split at h
    · next d e =>
      obtain ⟨v, e1, r⟩ := rs.get e
      exact ⟨v, e1, k d G v H h .refl ok r⟩
    · exact h.elim
theorem de_c {v : V} {d : D} (h : PE X e (tC v)) (r : ∀ W, Rep X.K W d v) : DE X e (dC d) :=
  PE.mono h fun σ H Q ⟨δ, G, Z, Q0, ok, rs, h, k⟩ => k d G v H h .refl ok (r _)
theorem de_int {i j pos} : DE X (.Constant (.int i) j pos) (dC (.int i)) := de_c pe_int fun _ => .int i
theorem de_bl {b j pos} : DE X (.Constant (.bool b) j pos) (dC (.bl b)) := de_c pe_bl fun _ => .bl b
theorem de_non {j pos} : DE X (.Constant .none j pos) (dC .non) := de_c pe_non fun _ => .non
theorem de_str {x j pos} : DE X (.Constant (.str x) j pos) (dC (.str x)) := de_c pe_str fun _ => .str x

/-! ### operators -/
abbrev DR2 := D → D → GHp → DK → Prop
def cR2 (K : PySem.W.Frag) (r : DR2) : R2 := fun v u H Q => ∃ (x y : D) (G : GHp) (Z : Addr → Bool) (Q0 : DK), Ok K H G Z ∧ Rep K (U H G Z) x v ∧ Rep K (U H G Z) y u ∧ r x y G Q0 ∧
  ∀ d G' v' H', Q0 d G' → Kp H G Z H' G' → Ok K H' G' Z → Rep K (U H' G' Z) d v' → Q v' H'
def dOp (r : DR2) (ta tb : DTE) : DTE := fun δ G Q => ta δ G fun x G1 => tb δ G1 fun y G2 => r x y G2 Q
theorem op_split {σ : St} {H : Hp} {Q : VK} {r : DR2} {K : PySem.W.Frag} (h : cE K (dOp r ta tb) σ H Q) : tOp (cR2 K r) (cE K ta) (cE K tb) σ H Q := by
  obtain ⟨δ, G, Z, Q0, ok, rs, h, k⟩ := h
  exact ⟨δ, G, Z, _, ok, rs, h, fun x G1 v H1 h1 k1 ok1 r1 => ⟨δ, G1, Z, _, ok1, rs.mono k1.keep, h1, fun y G2 u H2 h2 k2 ok2 r2 =>
    ⟨x, y, G2, Z, Q0, ok2, r1.mono k2.keep, r2, h2, fun d G' v' H' q k3 ok3 r3 => k d G' v' H' q (k1.trans (k2.trans k3)) ok3 r3⟩⟩⟩
def DOp (X : Cx) (f : Value → Value → Sem Value) (r : DR2) : Prop := OpR X f (cR2 X.K r)
theorem de_op {op : Operator} {r : DR2} (ho : DOp X (binaryOp op) r) (ha : DE X a ta) (hb : DE X b tb) : DE X (.BinOp a op b pos) (dOp r ta tb) :=
  PE.mono (pe_op ho ha hb) fun _ _ _ h => op_split h
theorem de_cmp {op : CmpOp} {r : DR2} (ho : DOp X (compareOp op) r) (ha : DE X a ta) (hb : DE X b tb) (hm : behindInMarks op b = false) : DE X (.Compare a [op] [b] pos) (dOp r ta tb) :=
  PE.mono (pe_cmpR ho ha hb hm) fun _ _ _ h => op_split h
abbrev DR1 := D → GHp → DK → Prop
def cR1 (K : PySem.W.Frag) (r : DR1) : V → Hp → VK → Prop := fun v H Q => ∃ (x : D) (G : GHp) (Z : Addr → Bool) (Q0 : DK), Ok K H G Z ∧ Rep K (U H G Z) x v ∧ r x G Q0 ∧
  ∀ d G' v' H', Q0 d G' → Kp H G Z H' G' → Ok K H' G' Z → Rep K (U H' G' Z) d v' → Q v' H'
def dUn (r : DR1) (ta : DTE) : DTE := fun δ G Q => ta δ G fun x G1 => r x G1 Q
theorem un_split {σ : St} {H : Hp} {Q : VK} {r : DR1} {K : PySem.W.Frag} (h : cE K (dUn r ta) σ H Q) : tUn (cR1 K r) (cE K ta) σ H Q := by
  obtain ⟨δ, G, Z, Q0, ok, rs, h, k⟩ := h
  exact ⟨δ, G, Z, _, ok, rs, h, fun x G1 v H1 h1 k1 ok1 r1 => ⟨x, G1, Z, Q0, ok1, r1, h1, fun d G' v' H' q k3 ok3 r3 => k d G' v' H' q (k1.trans k3) ok3 r3⟩⟩
def DUn (X : Cx) (f : Value → Sem Value) (r : DR1) : Prop := UnR X f (cR1 X.K r)
theorem de_un {op : UnaryOp} {r : DR1} (ho : DUn X (unaryOp op) r) (ha : DE X a ta) : DE X (.UnaryOp op a pos) (dUn r ta) :=
  PE.mono (pe_un ho ha) fun _ _ _ h => un_split h
def dChain (r r' : DR2) (ta tb tc : DTE) : DTE := fun δ G Q => ta δ G fun x G1 => tb δ G1 fun y G2 => r x y G2 fun z G3 => match z with
  | .bl k => dIte k (tc δ G3 fun w G4 => r' y w G4 Q) (Q (.bl false) G3)
  | _ => False
theorem chain_split {σ : St} {H : Hp} {Q : VK} {r r' : DR2} {K : PySem.W.Frag} (h : cE K (dChain r r' ta tb tc) σ H Q) : tChain (cR2 K r) (cR2 K r') (cE K ta) (cE K tb) (cE K tc) σ H Q := by
  obtain ⟨δ, G, Z, Q0, ok, rs, h, k⟩ := h
  exact
    ⟨δ, G, Z, _, ok, rs, h, fun x G1 v H1 h1 k1 ok1 r1 => ⟨δ, G1, Z, _, ok1, rs.mono k1.keep, h1, fun y G2 u H2 h2 k2 ok2 r2 =>
      ⟨x, y, G2, Z, _, ok2, r1.mono k2.keep, r2, h2, fun d G3 v' H3 q k3 ok3 r3 => by
        cases d with
        | bl b =>
          cases r3
          refine ⟨b, rfl, ?_⟩
          have q := dIte_cases q
          cases b with
          | true =>
            rw [if_pos rfl] at q ⊢
            exact ⟨δ, G3, Z, _, ok3, rs.mono (k1.trans (k2.trans k3)).keep, q, fun w G4 w' H4 q4 k4 ok4 r4 => ⟨y, w, G4, Z, Q0, ok4, r2.mono (k3.trans k4).keep, r4, q4, fun d G' v' H' q k5 ok5 r5 =>
              k d G' v' H' q (k1.trans (k2.trans (k3.trans (k4.trans k5)))) ok5 r5⟩⟩
          | false =>
            rw [if_neg (by simp)] at q ⊢
            exact k _ _ _ _ q (k1.trans (k2.trans k3)) ok3 (.bl false)
        | _ => exact q.elim⟩⟩⟩
theorem de_chain {op op' : CmpOp} {r r' : DR2} (ho : DOp X (compareOp op) r) (ho' : DOp X (compareOp op') r') (ha : DE X a ta) (hb : DE X b tb) (hc : DE X c tc)
    (hm : lastMarks [op, op'] [b, c] = false := by with_unfolding_all rfl) : DE X (.Compare a [op, op'] [b, c] pos) (dChain r r' ta tb tc) :=
  PE.mono (pe_chain ho ho' ha hb hc hm) fun σ H Q h => chain_split h

/-! ### argument lists, displays -/
def dNil : DTA := fun _ G Q => Q [] G
def dCons (ta : DTE) (tr : DTA) : DTA := fun δ G Q => ta δ G fun x G1 => tr δ G1 fun xs G2 => Q (x :: xs) G2
theorem da_nil : DA X [] dNil := PA.mono pa_nil fun σ H Q ⟨δ, G, Z, Q0, ok, rs, h, k⟩ => k _ _ _ _ h .refl ok .nil
theorem da_cons {es : List Expr} {t : DTA} (ha : DE X e te) (hr : DA X es t) (hs : starEach (e :: es) X.env = (false, eval e X.env) :: starEach es X.env := by rfl) : DA X (e :: es) (dCons te t) :=
  PA.mono (pa_cons ha hr hs) fun σ H Q ⟨δ, G, Z, Q0, ok, rs, h, k⟩ =>
    ⟨δ, G, Z, _, ok, rs, h, fun x G1 v H1 h1 k1 ok1 r1 => ⟨δ, G1, Z, _, ok1, rs.mono k1.keep, h1, fun xs G2 us H2 h2 k2 ok2 r2 => k _ _ _ _ h2 (k1.trans k2) ok2 (.cons (r1.mono k2.keep) r2)⟩⟩
/-- (a, b, ..) -/
def dTup (t : DTA) : DTE := fun δ G Q => t δ G fun ds G1 => ds.length ≤ sizeLine ∧ Q (.tup ds) G1
theorem de_tup {es : List Expr} {t : DTA} {x1} (h : DA X es t) : DE X (.Tuple es x1 pos) (dTup t) :=
  PE.mono (pe_tup h) fun σ H Q ⟨δ, G, Z, Q0, ok, rs, h, k⟩ =>
    ⟨δ, G, Z, _, ok, rs, h, fun ds G1 vs H1 h1 k1 ok1 r1 => ⟨by rw [← r1.length]; exact h1.1, fun p hp =>
      k _ _ _ _ h1.2 (k1.trans (Kp.laid hp)) (ok1.laid hp) (.tup (.inl (U_laid ok1 hp)) (r1.mono (Kp.laid hp).keep))⟩⟩
/-- [a, b, ..], not to be changed -/
def dLst (t : DTA) : DTE := fun δ G Q => t δ G fun ds G1 => ds.length ≤ sizeLine ∧ Q (.lst ds) G1
theorem de_lst {es : List Expr} {t : DTA} (h : DA X es t) : DE X (.List es pos) (dLst t) :=
  PE.mono (pe_lst h) fun σ H Q ⟨δ, G, Z, Q0, ok, rs, h, k⟩ =>
    ⟨δ, G, Z, _, ok, rs, h, fun ds G1 vs H1 h1 k1 ok1 r1 => ⟨by rw [← r1.length]; exact h1.1, fun p hp =>
      k _ _ _ _ h1.2 (k1.trans (Kp.laid hp)) (ok1.laid hp) (.lst (U_laid ok1 hp) (r1.mono (Kp.laid hp).keep))⟩⟩
/-- [a, b, ..], to be changed: at an address of its own -/
def dLstM (t : DTA) : DTE := fun δ G Q => t δ G fun ds G1 => ds.length ≤ sizeLine ∧ ∀ p, G1 p = none → Q (.ref p) (gupd G1 p (.lst ds))
theorem de_lstM {es : List Expr} {t : DTA} (h : DA X es t) : DE X (.List es pos) (dLstM t) :=
  PE.mono (pe_lst h) fun σ H Q ⟨δ, G, Z, Q0, ok, rs, h, k⟩ =>
    ⟨δ, G, Z, _, ok, rs, h, fun ds G1 vs H1 h1 k1 ok1 r1 => ⟨by rw [← r1.length]; exact h1.1, fun p hp => by
      have hg := (ok1.free hp).1
      have kk : Kp H1 G1 Z (upd H1 p (.lst vs)) (gupd G1 p (.lst ds)) := Kp.laidG hp hg
      exact k _ _ _ _ (h1.2 p hg) (k1.trans kk) (ok1.laidG hp ⟨vs, upd_same, r1.mono kk.keep⟩) (.ref p)⟩⟩
end
end DL
set_option Elab.async false
set_option linter.all false
set_option maxRecDepth 100000
set_option maxHeartbeats 1000000
/-! DL, part 2: tests, statements, targets, loops, comprehensions, calls. -/
namespace DL
open PySem PySem.Spec L2

/-! ### tests -/
/-- a value's truth -/
def dTru (x : D) (G : GHp) (Q : Bool → GHp → Prop) : Prop := match x with
  | .bl b => Q b G
  | .non => Q false G
  | .int i => Q (i != 0) G
  | .str y => y.length ≤ sizeLine ∧ Q ((y.length : Int) != 0) G
  | .tup ds => Q (!ds.isEmpty) G
  | .lst ds => Q (!ds.isEmpty) G
  | .scr ds => Q (!ds.isEmpty) G
  | .ref a => match G a with
    | some (.lst ds) => Q (!ds.isEmpty) G
    | some (.dK kvs) => Q (!kvs.isEmpty) G
    | _ => False
  | .ty _ => False
  | .dct _ _ => False
  | .dcT _ _ => False
theorem Reps.isEmpty {K : PySem.W.Frag} {W : Hp} {ds : List D} {vs : List V} (r : Reps K W ds vs) : vs.isEmpty = ds.isEmpty := by cases r <;> rfl
theorem U_le {H : Hp} {G : GHp} {Z : Addr → Bool} : ∀ a o, U H G Z a = some o → H a = some o := fun a o h => (U_some h).2.2
theorem isEmpty_keys {κ α β : Type} {l : List (κ × α)} {m : List (κ × β)} (h : l.map (·.1) = m.map (·.1)) : l.isEmpty = m.isEmpty := by
  have := congrArg List.length h
  simp only [List.length_map] at this
  cases l <;> cases m <;> simp at this <;> rfl
theorem tru_of {K : PySem.W.Frag} {H : Hp} {G : GHp} {Z : Addr → Bool} {x : D} {v : V} {Q0 : Bool → GHp → Prop} (ok : Ok K H G Z) (r : Rep K (U H G Z) x v) (h : dTru x G Q0) : ∃ k, TruV K v H k ∧ Q0 k G := by
  cases r with
  | non => exact ⟨false, rfl, h⟩
  | bl b => exact ⟨b, rfl, h⟩
  | int i => exact ⟨_, rfl, h⟩
  | str y => exact ⟨_, ⟨h.1, rfl⟩, h.2⟩
  | ty n => exact h.elim
  | dct _ _ _ => exact h.elim
  | dcT _ _ _ => exact h.elim
  | tup q rs => exact ⟨_, .inr (.inl ⟨_, TupAt.sq U_le q, by rw [rs.isEmpty]⟩), h⟩
  | lst q rs => exact ⟨_, .inl ⟨_, SqL.of (U_le _ _ q), by rw [rs.isEmpty]⟩, h⟩
  | scr q rs => exact ⟨_, .inl ⟨_, SqL.mono U_le q, by rw [rs.isEmpty]⟩, h⟩
  | ref a =>
    unfold dTru at h
    split at h <;> try (first | cases ‹D.ref a = _› | skip)
    all_goals try (exact h.elim)
    split at h
    · next ds e =>
      obtain ⟨_, xs, h1, h2⟩ := ok.ok a _ e
      exact ⟨_, .inl ⟨xs, SqL.of h1, by rw [h2.isEmpty]⟩, h⟩
    · next kvs e =>
      obtain ⟨_, xs, h1, h2, h3⟩ := ok.ok a _ e
      exact ⟨_, .inr (.inr ⟨xs, h1, by rw [isEmpty_keys h2]⟩), h⟩
    · exact h.elim
def dTest (te : DTE) : DTT := fun δ G Q => te δ G fun x G1 => dTru x G1 Q
section
variable {X : Cx} {a b c e : Expr} {ta tb tc te : DTE} {tA tB tC : DTT} {pos : Pos} {rest : List Expr}
/-- an expression as a test, by its truth -/
theorem dt_truth (ha : DE X a ta) (he : ∀ whole, isTrue a X.env whole = (do let v ← whole; standAt a.pos; holding [v] (truthy v)) := by intro _; rfl) : DT X a (dTest ta) :=
  PT.mono (pt_truth ha he) fun σ H Q ⟨δ, G, Z, Q0, ok, rs, h, k⟩ =>
    ⟨δ, G, Z, _, ok, rs, h, fun x G1 v H1 h1 k1 ok1 r1 => by
      obtain ⟨b, tv, q⟩ := tru_of ok1 r1 h1
      exact ⟨b, tv, k _ _ _ q k1 ok1⟩⟩
/-- a comparison as a test -/
def dTestB (te : DTE) : DTT := fun δ G Q => te δ G fun x G1 => match x with
  | .bl k => Q k G1
  | _ => False
theorem test_split {K : PySem.W.Frag} {te : DTE} {t : TE} {σ : St} {H : Hp} {Q : Bool → Hp → Prop} (hs : ∀ Q, cE K te σ H Q → t σ H Q) (h : cT K (dTestB te) σ H Q) : tTest t σ H Q := by
  obtain ⟨δ, G, Z, Q0, ok, rs, h, k⟩ := h
  refine hs _ ⟨δ, G, Z, _, ok, rs, h, fun d G1 v H1 h1 k1 ok1 r1 => ?_⟩
  cases r1 with
  | bl b => exact ⟨b, rfl, k _ _ _ h1 k1 ok1⟩
  | _ => exact False.elim h1
theorem dt_cmp {op : CmpOp} {r : DR2} (ho : DOp X (compareOp op) r) (ha : DE X a ta) (hb : DE X b tb) (hm : behindInMarks op b = false) : DT X (.Compare a [op] [b] pos) (dTestB (dOp r ta tb)) :=
  PT.mono (pt_cmpR ho ha hb hm) fun σ H Q h => test_split (fun _ h => op_split h) h
theorem dt_chain {op op' : CmpOp} {r r' : DR2} (ho : DOp X (compareOp op) r) (ho' : DOp X (compareOp op') r') (ha : DE X a ta) (hb : DE X b tb) (hc : DE X c tc)
    (hm : lastMarks [op, op'] [b, c] = false := by with_unfolding_all rfl) : DT X (.Compare a [op, op'] [b, c] pos) (dTestB (dChain r r' ta tb tc)) :=
  PT.mono (pt_chain ho ho' ha hb hc hm) fun σ H Q h => test_split (fun _ h => chain_split h) h
def dAnd (t u : DTT) : DTT := fun δ G Q => t δ G fun c G1 => dIte c (u δ G1 Q) (Q false G1)
def dOr (t u : DTT) : DTT := fun δ G Q => t δ G fun c G1 => dIte c (Q true G1) (u δ G1 Q)
def dNot (t : DTT) : DTT := fun δ G Q => t δ G fun c G1 => Q (!c) G1
theorem dw_and1 (ha : DT X a tA) : DW X (.BoolOp .And [a] pos) tA := pw_and1 ha
theorem dw_or1 (ha : DT X a tA) : DW X (.BoolOp .Or [a] pos) tA := pw_or1 ha
theorem dw_and (ha : DT X a tA) (hb : DW X (.BoolOp .And (b :: rest) pos) tB) : DW X (.BoolOp .And (a :: b :: rest) pos) (dAnd tA tB) :=
  PW.mono (pw_and ha hb) fun σ H Q ⟨δ, G, Z, Q0, ok, rs, h, k⟩ =>
    ⟨δ, G, Z, _, ok, rs, h, fun c G1 H1 h1 k1 ok1 => by
      cases c with
      | true =>
        have h1 := dIte_t h1
        refine iteT ?_
        exact ⟨δ, G1, Z, Q0, ok1, rs.mono k1.keep, h1, fun b G' H' q k2 ok2 => k _ _ _ q (k1.trans k2) ok2⟩
      | false =>
        have h1 := dIte_f h1
        refine iteF ?_
        exact k _ _ _ h1 k1 ok1⟩
theorem dw_or (ha : DT X a tA) (hb : DW X (.BoolOp .Or (b :: rest) pos) tB) : DW X (.BoolOp .Or (a :: b :: rest) pos) (dOr tA tB) :=
  PW.mono (pw_or ha hb) fun σ H Q ⟨δ, G, Z, Q0, ok, rs, h, k⟩ =>
    ⟨δ, G, Z, _, ok, rs, h, fun c G1 H1 h1 k1 ok1 => by
      cases c with
      | true =>
        have h1 := dIte_t h1
        refine iteT ?_
        exact k _ _ _ h1 k1 ok1
      | false =>
        have h1 := dIte_f h1
        refine iteF ?_
        exact ⟨δ, G1, Z, Q0, ok1, rs.mono k1.keep, h1, fun b G' H' q k2 ok2 => k _ _ _ q (k1.trans k2) ok2⟩⟩
theorem dt_w (h : DW X e tA) : DT X e tA := PW.pt h
theorem dt_not (ha : DT X a tA) : DT X (.UnaryOp .Not a pos) (dNot tA) :=
  PT.mono (pt_not ha) fun σ H Q ⟨δ, G, Z, Q0, ok, rs, h, k⟩ =>
    ⟨δ, G, Z, _, ok, rs, h, fun c G1 H1 h1 k1 ok1 => k _ _ _ h1 k1 ok1⟩
/-! and, or, not as values, by truth -/
def dAndV (ta tb : DTE) : DTE := fun δ G Q => ta δ G fun x G1 => dTru x G1 fun c G2 => dIte c (tb δ G2 Q) (Q x G2)
def dOrV (ta tb : DTE) : DTE := fun δ G Q => ta δ G fun x G1 => dTru x G1 fun c G2 => dIte c (Q x G2) (tb δ G2 Q)
def dNotV (ta : DTE) : DTE := fun δ G Q => ta δ G fun x G1 => dTru x G1 fun c G2 => Q (.bl (!c)) G2
theorem de_one {op} (h : DE X a ta) : DE X (.BoolOp op [a] pos) ta := pe_one h
theorem de_and (ha : DE X a ta) (hb : DE X (.BoolOp .And (b :: rest) pos) tb) : DE X (.BoolOp .And (a :: b :: rest) pos) (dAndV ta tb) :=
  PE.mono (pe_andT ha hb) fun σ H Q ⟨δ, G, Z, Q0, ok, rs, h, k⟩ =>
    ⟨δ, G, Z, _, ok, rs, h, fun x G1 v H1 h1 k1 ok1 r1 => by
      obtain ⟨c, tv, q⟩ := tru_of ok1 r1 h1
      refine ⟨c, tv, ?_⟩
      cases c with
      | true =>
        have q := dIte_t q
        refine iteT ?_
        exact ⟨δ, G1, Z, Q0, ok1, rs.mono k1.keep, q, fun b G' v' H' q k2 ok2 r2 => k _ _ _ _ q (k1.trans k2) ok2 r2⟩
      | false =>
        have q := dIte_f q
        refine iteF ?_
        exact k _ _ _ _ q k1 ok1 r1⟩
theorem de_or (ha : DE X a ta) (hb : DE X (.BoolOp .Or (b :: rest) pos) tb) : DE X (.BoolOp .Or (a :: b :: rest) pos) (dOrV ta tb) :=
  PE.mono (pe_orT ha hb) fun σ H Q ⟨δ, G, Z, Q0, ok, rs, h, k⟩ =>
    ⟨δ, G, Z, _, ok, rs, h, fun x G1 v H1 h1 k1 ok1 r1 => by
      obtain ⟨c, tv, q⟩ := tru_of ok1 r1 h1
      refine ⟨c, tv, ?_⟩
      cases c with
      | true =>
        have q := dIte_t q
        refine iteT ?_
        exact k _ _ _ _ q k1 ok1 r1
      | false =>
        have q := dIte_f q
        refine iteF ?_
        exact ⟨δ, G1, Z, Q0, ok1, rs.mono k1.keep, q, fun b G' v' H' q k2 ok2 r2 => k _ _ _ _ q (k1.trans k2) ok2 r2⟩⟩
theorem de_not (ha : DE X a ta) : DE X (.UnaryOp .Not a pos) (dNotV ta) :=
  PE.mono (pe_notT ha) fun σ H Q ⟨δ, G, Z, Q0, ok, rs, h, k⟩ =>
    ⟨δ, G, Z, _, ok, rs, h, fun x G1 v H1 h1 k1 ok1 r1 => by
      obtain ⟨c, tv, q⟩ := tru_of ok1 r1 h1
      exact ⟨c, tv, k _ _ _ _ q k1 ok1 (.bl _)⟩⟩
/-- a if t else b -/
def dIfE (t : DTT) (ta tb : DTE) : DTE := fun δ G Q => t δ G fun c G1 => dIte c (ta δ G1 Q) (tb δ G1 Q)
theorem de_ifExp (hc : DT X c tC) (ha : DE X a ta) (hb : DE X b tb) : DE X (.IfExp c a b pos) (dIfE tC ta tb) :=
  PE.mono (pe_ifExp hc ha hb) fun σ H Q ⟨δ, G, Z, Q0, ok, rs, h, k⟩ =>
    ⟨δ, G, Z, _, ok, rs, h, fun c G1 H1 h1 k1 ok1 => by
      cases c with
      | true =>
        have h1 := dIte_t h1
        refine iteT ?_
        exact ⟨δ, G1, Z, Q0, ok1, rs.mono k1.keep, h1, fun b G' v' H' q k2 ok2 r2 => k _ _ _ _ q (k1.trans k2) ok2 r2⟩
      | false =>
        have h1 := dIte_f h1
        refine iteF ?_
        exact ⟨δ, G1, Z, Q0, ok1, rs.mono k1.keep, h1, fun b G' v' H' q k2 ok2 r2 => k _ _ _ _ q (k1.trans k2) ok2 r2⟩⟩
end

/-! ### blocks and statements -/
section
variable {X : Cx} {st : Stmt} {rest : List Stmt} {t u : DTS} {e : Expr} {te : DTE} {tc : DTT} {pos : Pos}
def dNext : DTS := fun D δ G => D.nx δ G
def dSeq (t u : DTS) : DTS := fun D δ G => t { D with nx := u D } δ G
theorem dss_nil : DSs X W [] dNext := PSs.mono pss_nil fun E σ H ⟨δ, G, Z, D0, ok, rs, h, l⟩ => l.nx _ _ _ _ h .refl ok rs
theorem dss_cons (h1 : DS X W st t) (h2 : DSs X W rest u) : DSs X W (st :: rest) (dSeq t u) :=
  PSs.mono (pss_cons h1 h2) fun E σ H ⟨δ, G, Z, D0, ok, rs, h, l⟩ =>
    ⟨δ, G, Z, _, ok, rs, h, ⟨fun δ' G' σ' H' q k1 ok1 rs1 => ⟨δ', G', Z, D0, ok1, rs1, q, l.after k1⟩, l.bk, l.ct, l.rt, l.exb, l.exo⟩⟩
theorem dss_one (h1 : DS X W st t) : DSs X W [st] t := pss_one h1
theorem ds_pass : DS X W (.Pass pos) dNext := PS.mono ps_pass fun E σ H ⟨δ, G, Z, D0, ok, rs, h, l⟩ => l.nx _ _ _ _ h .refl ok rs
def dBreak : DTS := fun D δ G => D.bk δ G
def dCont : DTS := fun D δ G => D.ct δ G
theorem ds_break : DS X W (.Break pos) dBreak := PS.mono ps_break fun E σ H ⟨δ, G, Z, D0, ok, rs, h, l⟩ => l.bk _ _ _ _ h .refl ok rs
theorem ds_continue : DS X W (.Continue pos) dCont := PS.mono ps_continue fun E σ H ⟨δ, G, Z, D0, ok, rs, h, l⟩ => l.ct _ _ _ _ h .refl ok rs
def dDrop (te : DTE) : DTS := fun D δ G => te δ G fun _ G1 => D.nx δ G1
theorem ds_expr (he : DE X e te) (hs : swapsWith e none pos.line X.env = pure false := by rfl) : DS X W (.Expr e pos) (dDrop te) :=
  PS.mono (ps_expr he hs) fun E σ H ⟨δ, G, Z, D0, ok, rs, h, l⟩ =>
    ⟨δ, G, Z, _, ok, rs, h, fun d G' v H' q k1 ok1 r1 => l.nx _ _ _ _ q k1 ok1 (rs.mono k1.keep)⟩
def dRet (te : DTE) : DTS := fun D δ G => te δ G D.rt
theorem ds_ret (he : DE X e te) : DS X W (.Return (some e) pos) (dRet te) :=
  PS.mono (ps_ret he) fun E σ H ⟨δ, G, Z, D0, ok, rs, h, l⟩ => ⟨δ, G, Z, _, ok, rs, h, fun d G' v H' q k1 ok1 r1 => l.rt _ _ _ _ q k1 ok1 r1⟩
def dRetN : DTS := fun D _ G => D.rt .non G
theorem ds_retN : DS X W (.Return none pos) dRetN := PS.mono ps_retN fun E σ H ⟨δ, G, Z, D0, ok, rs, h, l⟩ => l.rt _ _ _ _ h .refl ok .non
def dIf (c : DTT) (t u : DTS) : DTS := fun D δ G => c δ G fun b G1 => dIte b (t D δ G1) (u D δ G1)
theorem ds_if {c : Expr} {a b : List Stmt} (hc : DT X c tc) (ha : DSs X W a t) (hb : DSs X W b u) : DS X W (.If c a b pos) (dIf tc t u) :=
  PS.mono (ps_if hc ha hb) fun E σ H ⟨δ, G, Z, D0, ok, rs, h, l⟩ =>
    ⟨δ, G, Z, _, ok, rs, h, fun c G1 H1 h1 k1 ok1 => by
      cases c with
      | true =>
        have h1 := dIte_t h1
        refine iteT ?_
        exact ⟨δ, G1, Z, D0, ok1, rs.mono k1.keep, h1, l.after k1⟩
      | false =>
        have h1 := dIte_f h1
        refine iteF ?_
        exact ⟨δ, G1, Z, D0, ok1, rs.mono k1.keep, h1, l.after k1⟩⟩
def dNever : DTS := fun _ _ _ => False
theorem ds_never : DS X W st dNever := PS.mono ps_never fun E σ H ⟨δ, G, Z, D0, ok, rs, h, l⟩ => h
theorem dss_never {sts : List Stmt} : DSs X W sts dNever := PSs.mono pss_never fun E σ H ⟨δ, G, Z, D0, ok, rs, h, l⟩ => h
/-- what is told may be told otherwise (a list that nobody changes any more becomes a tree; things are forgotten) -/
def View (K : PySem.W.Frag) (δ : DSt) (G : GHp) (δ' : DSt) (G' : GHp) : Prop := ∀ H Z σ, Ok K H G Z → RepSt K (U H G Z) δ σ → Kp H G Z H G' ∧ Ok K H G' Z ∧ RepSt K (U H G' Z) δ' σ
def dGhost (K : PySem.W.Frag) (t : DTS) : DTS := fun D δ G => ∃ δ' G', View K δ G δ' G' ∧ t D δ' G'
theorem ds_ghost (h : DS X W st t) : DS X W st (dGhost X.K t) :=
  PS.mono h fun E σ H ⟨δ, G, Z, D0, ok, rs, ⟨δ', G', vw, h⟩, l⟩ => by
    obtain ⟨k1, ok1, rs1⟩ := vw H Z σ ok rs
    exact ⟨δ', G', Z, D0, ok1, rs1, h, l.after k1⟩
theorem dss_ghost {sts : List Stmt} (h : DSs X W sts t) : DSs X W sts (dGhost X.K t) :=
  PSs.mono h fun E σ H ⟨δ, G, Z, D0, ok, rs, ⟨δ', G', vw, h⟩, l⟩ => by
    obtain ⟨k1, ok1, rs1⟩ := vw H Z σ ok rs
    exact ⟨δ', G', Z, D0, ok1, rs1, h, l.after k1⟩
end

/-! ### targets: names, tuples of targets -/
inductive Tgt where
  | nm (i : Nat)
  | tp (ts : List Tgt)
mutual
def Tgt.tg (K : PySem.W.Frag) : Tgt → TG
  | .nm i => gName i
  | .tp ts => gTup K (Tgt.len ts) (Tgt.tgs K ts)
def Tgt.tgs (K : PySem.W.Frag) : List Tgt → TGs
  | [] => gNil
  | t :: r => gCons (Tgt.tg K t) (Tgt.tgs K r)
def Tgt.len : List Tgt → Nat
  | [] => 0
  | _ :: r => Tgt.len r + 1
end
mutual
def Tgt.set : Tgt → D → DSt → Option DSt
  | .nm i, d, δ => some (δ.set i (some d))
  | .tp ts, .tup ds, δ => Tgt.sets ts ds δ
  | .tp _, _, _ => none
def Tgt.sets : List Tgt → List D → DSt → Option DSt
  | [], [], δ => some δ
  | t :: ts, d :: ds, δ => match Tgt.set t d δ with
    | some δ' => Tgt.sets ts ds δ'
    | none => none
  | _, _, _ => none
end
mutual
def Tgt.slots : Tgt → List Nat
  | .nm i => [i]
  | .tp ts => Tgt.slotsL ts
def Tgt.slotsL : List Tgt → List Nat
  | [] => []
  | t :: r => Tgt.slots t ++ Tgt.slotsL r
end
theorem Tgt.len_eq : ∀ ts : List Tgt, Tgt.len ts = ts.length
  | [] => rfl
  | _ :: r => by rw [Tgt.len, Tgt.len_eq r]; rfl
theorem wipe_set {σ : St} {vs : List Nat} {i : Nat} {o : Option V} (h : i ∈ vs) : wipe (σ.set i o) vs = wipe σ vs := by
  induction vs with
  | nil => simp at h
  | cons v r ih =>
    rw [wipe, wipe]
    by_cases hv : i = v
    · subst hv
      by_cases hr : i ∈ r
      · rw [ih hr]
      · have : ∀ r : List Nat, i ∉ r → wipe (σ.set i o) r = (wipe σ r).set i o := by
          intro r
          induction r with
          | nil => intro _; rfl
          | cons w r ih =>
            intro hn
            simp only [List.mem_cons, not_or] at hn
            rw [wipe, wipe, ih hn.2, List.set_comm _ _ hn.1]
        rw [this r hr, List.set_set]
    · have hr : i ∈ r := by simpa [hv] using h
      rw [ih hr]
section
variable {K : PySem.W.Frag} {W : Hp}
mutual
theorem Tgt.run {H : Hp} (le : ∀ a o, W a = some o → H a = some o) : ∀ (t : Tgt) {d : D} {v : V} {δ δ' : DSt} {σ : St} {Q : St → Hp → Prop}, Rep K W d v → RepSt K W δ σ → t.set d δ = some δ' →
    (∀ σ', RepSt K W δ' σ' → (∀ vs : List Nat, (∀ i ∈ t.slots, i ∈ vs) → wipe σ' vs = wipe σ vs) → Q σ' H) → t.tg K v σ H Q
  | .nm i, d, v, δ, δ', σ, Q, r, rs, e, k => by
    simp only [Tgt.set, Option.some.injEq] at e
    subst e
    exact k _ (rs.set r i) fun vs h => wipe_set (h i (by simp [Tgt.slots]))
  | .tp ts, d, v, δ, δ', σ, Q, r, rs, e, k => by
    cases r with
    | tup q rr =>
      simp only [Tgt.set] at e
      refine ⟨_, _, rfl, TupAt.sq le q, ?_, Tgt.runs le ts rr rs e fun σ' rs' hw => k σ' rs' fun vs h => hw vs fun i hi => h i (by simpa [Tgt.slots] using hi)⟩
      rw [← rr.length]
      exact Tgt.sets_len ts e
    | _ => simp [Tgt.set] at e
theorem Tgt.runs {H : Hp} (le : ∀ a o, W a = some o → H a = some o) : ∀ (ts : List Tgt) {ds : List D} {vs : List V} {δ δ' : DSt} {σ : St} {Q : St → Hp → Prop}, Reps K W ds vs → RepSt K W δ σ → Tgt.sets ts ds δ = some δ' →
    (∀ σ', RepSt K W δ' σ' → (∀ vs : List Nat, (∀ i ∈ Tgt.slotsL ts, i ∈ vs) → wipe σ' vs = wipe σ vs) → Q σ' H) → Tgt.tgs K ts vs σ H Q
  | [], ds, vs, δ, δ', σ, Q, r, rs, e, k => by
    cases r with
    | nil =>
      simp only [Tgt.sets, Option.some.injEq] at e
      subst e
      exact ⟨rfl, k σ rs fun _ _ => rfl⟩
    | cons _ _ => simp [Tgt.sets] at e
  | t :: ts, ds, vs, δ, δ', σ, Q, r, rs, e, k => by
    cases r with
    | nil => simp [Tgt.sets] at e
    | cons h r =>
      simp only [Tgt.sets] at e
      split at e
      · next δ1 e1 =>
        refine ⟨_, _, rfl, Tgt.run le t h rs e1 fun σ1 rs1 w1 => Tgt.runs le ts r rs1 e fun σ2 rs2 w2 => k σ2 rs2 fun vs hv => ?_⟩
        rw [w2 vs fun i hi => hv i (by simp [Tgt.slotsL, hi]), w1 vs fun i hi => hv i (by simp [Tgt.slotsL, hi])]
      · cases e
theorem Tgt.sets_len : ∀ (ts : List Tgt) {ds : List D} {δ δ' : DSt}, Tgt.sets ts ds δ = some δ' → ds.length = Tgt.len ts
  | [], ds, δ, δ', e => by
    cases ds with
    | nil => rfl
    | cons _ _ => simp [Tgt.sets] at e
  | t :: ts, ds, δ, δ', e => by
    cases ds with
    | nil => simp [Tgt.sets] at e
    | cons d ds =>
      simp only [Tgt.sets] at e
      split at e
      · rw [List.length_cons, Tgt.sets_len ts e]; rfl
      · cases e
end
end
section
variable {X : Cx} {e tg : Expr} {te : DTE} {pos : Pos}
/-- target = e -/
def dAsg (te : DTE) (g : Tgt) : DTS := fun D δ G => te δ G fun d G1 => match g.set d δ with
  | some δ' => D.nx δ' G1
  | none => False
theorem asg_split {K : PySem.W.Frag} {g : Tgt} {E : Ends} {σ : St} {H : Hp} {W : WX} (h : cS K W (dAsg te g) E σ H) : tAsg (cE K te) (g.tg K) E σ H := by
  obtain ⟨δ, G, Z, D0, ok, rs, h, l⟩ := h
  refine ⟨δ, G, Z, _, ok, rs, h, fun d G1 v H1 h1 k1 ok1 r1 => ?_⟩
  have h1 : (match g.set d δ with | some δ' => D0.nx δ' G1 | none => False) := h1
  split at h1
  · next δ' e =>
    exact g.run U_le r1 (rs.mono k1.keep) e fun σ' rs' _ => l.nx _ _ _ _ h1 k1 ok1 rs'
  · exact h1.elim
theorem ds_asg {g : Tgt} (he : DE X e te) (hg : PG X tg (g.tg X.K)) (hs : swapsWithSole [tg] e pos.line X.env = pure false := by rfl) (hw : swappedStores [tg] e X.env = pure none := by rfl)
    (h1 : (assignEach [tg] X.env).map (·.2) = [assign tg X.env] := by rfl) : DS X W (.Assign [tg] e pos) (dAsg te g) :=
  PS.mono (ps_asg he hg hs hw h1) fun E σ H h => asg_split h
/-- name = e -/
theorem ds_set {i : Nat} {x : Str} {pos' : Pos} (hN : X.N.Nodup) (hi : X.N[i]? = some x) (hx : Loc X.env.scope x) (he : DE X e te) (hs : swapsWith e (some (.Name x pos')) pos.line X.env = pure false := by rfl) (hf : X.fn x = true ∨ X.env.scope.names.lookup x = some .local := by first | exact .inl rfl | exact .inr rfl | assumption) :
    DS X W (.Assign [.Name x pos'] e pos) (dAsg te (.nm i)) :=
  PS.mono (ps_set hN hi hx he hs hf) fun E σ H h => asg_split (g := .nm i) h
/-- a, b = x, y: both sides written, stored from the right -/
def dPar (i j : Nat) (ta : DTA) : DTS := fun D δ G => ta δ G fun ds G1 => match ds with
  | [v, w] => D.nx ((δ.set i (some v)).set j (some w)) G1
  | _ => False
theorem ds_par {i j : Nat} {x y : Str} {a b : Expr} {ta : DTA} {px py pt : Pos} {kt k2 pt2} (hc : X.calm = true) (hN : X.N.Nodup) (hi : X.N[i]? = some x) (hj : X.N[j]? = some y) (hij : i ≠ j)
    (hx : X.env.scope.names.lookup x = some .local) (hy : X.env.scope.names.lookup y = some .local) (ha : DA X [a, b] ta)
    (hw : swappedStores [.Tuple [.Name x px, .Name y py] kt pt] (.Tuple [a, b] k2 pt2) X.env = pure (some [x, y]))
    (hs : swapsWithSole [.Tuple [.Name x px, .Name y py] kt pt] (.Tuple [a, b] k2 pt2) pos.line X.env = pure false := by rfl) :
    DS X W (.Assign [.Tuple [.Name x px, .Name y py] kt pt] (.Tuple [a, b] k2 pt2) pos) (dPar i j ta) :=
  PS.mono (ps_par hc hN hi hj hij hx hy ha hw hs) fun E σ H ⟨δ, G, Z, D0, ok, rs, h, l⟩ =>
    ⟨δ, G, Z, _, ok, rs, h, fun ds G1 vs H1 h1 k1 ok1 r1 => by
      rcases r1 with _ | ⟨ra, r1⟩
      · exact False.elim h1
      rcases r1 with _ | ⟨rb, r1⟩
      · exact False.elim h1
      rcases r1 with _ | ⟨rc, r1⟩
      · exact ⟨_, _, rfl, l.nx _ _ _ _ h1 k1 ok1 (((rs.mono k1.keep).set ra i).set rb j)⟩
      · exact False.elim h1⟩
theorem pg_nm {i : Nat} {x : Str} (h : PG X (.Name x pos) (gName i)) : PG X (.Name x pos) ((Tgt.nm i).tg X.K) := h
theorem pgs_n : PGs X [] (Tgt.tgs X.K []) := pgs_nil
theorem pgs_c {es : List Expr} {t : Tgt} {ts : List Tgt} (h1 : PG X e (t.tg X.K)) (h2 : PGs X es (Tgt.tgs X.K ts))
    (hs : (assignEach (e :: es) X.env).map (·.2) = assign e X.env :: (assignEach es X.env).map (·.2) := by rfl) : PGs X (e :: es) (Tgt.tgs X.K (t :: ts)) := pgs_cons h1 h2 hs
theorem pg_tp {es : List Expr} {k : Nat} {ts : List Tgt} (hc : X.calm = true) (h : PGs X es (Tgt.tgs X.K ts))
    (hn : (assignEach es X.env).length = Tgt.len ts := by rfl) (hst : (assignEach es X.env).findIdx? (·.1) = none := by rfl) : PG X (.Tuple es k pos) ((Tgt.tp ts).tg X.K) := pg_tup hc h hn hst
end

/-! ### while -/
/-- n turns at most -/
def dWhN (c : DTT) (tb : DTS) : Nat → DTS
  | 0 => fun _ _ _ => False
  | n + 1 => fun D δ G => c δ G fun b G1 => dIte b (tb { D with nx := dWhN c tb n D, ct := dWhN c tb n D, bk := D.nx } δ G1) (D.nx δ G1)
def dWhile (c : DTT) (tb : DTS) : DTS := fun D δ G => ∃ n, dWhN c tb n D δ G
section
variable {X : Cx} {pos : Pos}
theorem ds_while {c : Expr} {body : List Stmt} {tc : DTT} {tb : DTS} (hp : PassesOwn (model X.prog X.w) X.A X.env X.xe) (hc : DT X c tc) (hb : DSs X W body tb) : DS X W (.While c body [] pos) (dWhile tc tb) :=
  PS.mono (ps_while hp hc hb) fun E σ H ⟨δ, G, Z, D0, ok, rs, ⟨n, h⟩, l⟩ => by
    refine ⟨fun m σ' H' => ∃ δ' G', Kp H G Z H' G' ∧ Ok X.K H' G' Z ∧ RepSt X.K (U H' G' Z) δ' σ' ∧ dWhN tc tb m D0 δ' G', ⟨n, δ, G, .refl, ok, rs, h⟩, ?_⟩
    rintro m σ1 H1 ⟨δ1, G1, k1, ok1, rs1, h1⟩
    cases m with
    | zero => exact h1.elim
    | succ m =>
      refine ⟨δ1, G1, Z, _, ok1, rs1, h1, fun b G2 H2 q k2 ok2 => ?_⟩
      have k12 := k1.trans k2
      cases b with
      | false =>
        have q := dIte_f q
        refine iteF ?_
        exact l.nx _ _ _ _ q k12 ok2 (rs1.mono k2.keep)
      | true =>
        have q := dIte_t q
        refine iteT ?_
        refine ⟨fun σ' H' => ∃ δ' G', Kp H G Z H' G' ∧ Ok X.K H' G' Z ∧ RepSt X.K (U H' G' Z) δ' σ' ∧ dWhN tc tb m D0 δ' G', fun σ' H' hh => ⟨m, Nat.lt_succ_self m, hh⟩, δ1, G2, Z, _, ok2, rs1.mono k2.keep, q, ?_⟩
        exact ⟨fun δ' G' σ' H' q' k3 ok3 rs3 => ⟨δ', G', k12.trans k3, ok3, rs3, q'⟩, fun δ' G' σ' H' q' k3 ok3 rs3 => l.nx _ _ _ _ q' (k12.trans k3) ok3 rs3,
          fun δ' G' σ' H' q' k3 ok3 rs3 => ⟨δ', G', k12.trans k3, ok3, rs3, q'⟩, fun d G' v H' q' k3 ok3 rs3 => l.rt _ _ _ _ q' (k12.trans k3) ok3 rs3,
          fun c δ' G' σ' H' q' k3 ok3 rs3 => l.exb _ _ _ _ _ q' (k12.trans k3) ok3 rs3, fun c fs δ' G' σ' H' dx xs q' k3 ok3 => l.exo _ _ _ _ _ _ _ _ q' (k12.trans k3) ok3⟩
end

/-! ### what is walked -/
/-- the guard: a tracked list that is walked stays as it is -/
abbrev Gd := Option (Addr × List D)
def Gd.ok (gd : Gd) (G : GHp) : Prop := match gd with
  | none => True
  | some (a, ds) => G a = some (.lst ds)
/-- what stays, stays -/
structure Kq (H : Hp) (G : GHp) (Z : Addr → Bool) (H' : Hp) (G' : GHp) : Prop where
  keep : ∀ a o, U H G Z a = some o → U H' G' Z a = some o
theorem Kp.q {H : Hp} {G : GHp} {Z : Addr → Bool} {H' : Hp} {G' : GHp} (k : Kp H G Z H' G') : Kq H G Z H' G' := ⟨k.keep⟩
/-- the walk J yields the items, in every state that came of (H, G) -/
structure ItOk (K : PySem.W.Frag) (J : It) (its : List D) (gd : Gd) (H : Hp) (G : GHp) (Z : Addr → Bool) : Prop where
  go : ∀ i d H' G', its[i]? = some d → Kq H G Z H' G' → Ok K H' G' Z → gd.ok G' → J.go i H' ∧ ∀ x H'', J.yld i H' x H'' → Kp H' G' Z H'' G' ∧ Ok K H'' G' Z ∧ Rep K (U H'' G' Z) d x
  stop : ∀ H' G', Kq H G Z H' G' → Ok K H' G' Z → gd.ok G' → J.stop its.length H'
abbrev DTI := DSt → GHp → (List D → Gd → GHp → Prop) → Prop
def cI (K : PySem.W.Frag) (ti : DTI) : TI := fun σ H R => ∃ (δ : DSt) (G : GHp) (Z : Addr → Bool) (Q0 : List D → Gd → GHp → Prop), Ok K H G Z ∧ RepSt K (U H G Z) δ σ ∧ ti δ G Q0 ∧
  ∀ its gd G' J H', Q0 its gd G' → Kp H G Z H' G' → Ok K H' G' Z → (∀ Z', (∀ a, Z a = true → Z' a = true) → (∀ a, H' a ≠ none → Z' a = Z a) → ItOk K J its gd H' G' Z') → R J H'
def DI (X : Cx) (tg iter : Expr) (ti : DTI) : Prop := PI X tg iter (cI X.K ti)
theorem PI.mono {X : Cx} {tg e : Expr} {t u : TI} (h : PI X tg e t) (k : ∀ σ H R, u σ H R → t σ H R) : PI X tg e u :=
  ⟨fun pins s σ H R I q => h.run pins s σ H R I (k σ H R q)⟩

/-! ### for -/
def dForL (gd : Gd) (g : Tgt) (tb : DTS) : List D → DTS
  | [] => fun D δ G => gd.ok G ∧ D.nx δ G
  | x :: xs => fun D δ G => gd.ok G ∧ match g.set x δ with
    | some δ' => tb { D with nx := dForL gd g tb xs D, ct := dForL gd g tb xs D, bk := D.nx } δ' G
    | none => False
def dFor (ti : DTI) (g : Tgt) (tb : DTS) : DTS := fun D δ G => ti δ G fun its gd G1 => dForL gd g tb its D δ G1
theorem List.drop_cons_of {α : Type} {l : List α} {i : Nat} {x : α} {r : List α} (h : l.drop i = x :: r) : l[i]? = some x ∧ l.drop (i + 1) = r := by
  constructor
  · have := congrArg (fun q => q[0]?) h
    simpa [List.getElem?_drop] using this
  · have := congrArg List.tail h
    simpa [List.tail_drop] using this
section
variable {X : Cx} {pos : Pos} {tg : Expr}
theorem ds_for {iter : Expr} {body : List Stmt} {ti : DTI} {g : Tgt} {tb : DTS} (hp : PassesOwn (model X.prog X.w) X.A X.env X.xe) (hc : X.calm = true) (hi : DI X tg iter ti) (hg : PG X tg (g.tg X.K)) (hb : DSs X W body tb)
    (hs : ∀ x, foldedSetIterable iter X.env x = pure x := by intro _; rfl) : DS X W (.For tg iter body [] pos) (dFor ti g tb) :=
  PS.mono (ps_for hp hc hi hg hb hs) fun E σ H ⟨δ, G, Z, D0, ok, rs, h, l⟩ => by
    refine ⟨δ, G, Z, _, ok, rs, h, fun its gd G1 J H1 q k1 ok1 it => ?_⟩
    have it := it Z (fun _ h => h) (fun _ _ => rfl)
    refine ⟨fun i m σ' H' => ∃ δ' G', m + i = its.length ∧ Kp H1 G1 Z H' G' ∧ Ok X.K H' G' Z ∧ RepSt X.K (U H' G' Z) δ' σ' ∧ dForL gd g tb (its.drop i) D0 δ' G', ⟨its.length, δ, G1, rfl, .refl, ok1, rs.mono k1.keep, q⟩, ?_⟩
    rintro i m σ2 H2 ⟨δ2, G2, hm, k2, ok2, rs2, h2⟩
    cases e : its.drop i with
    | nil =>
      left
      rw [e] at h2
      have hi : its.length ≤ i := by
        have := congrArg List.length e
        simp at this
        omega
      have hil : i = its.length := by omega
      subst hil
      exact ⟨it.stop _ _ k2.q ok2 h2.1, l.nx _ _ _ _ h2.2 (k1.trans k2) ok2 rs2⟩
    | cons x r =>
      right
      rw [e] at h2
      obtain ⟨ex, er⟩ := List.drop_cons_of e
      obtain ⟨hgo, hy⟩ := it.go i x _ _ ex k2.q ok2 h2.1
      refine ⟨hgo, fun σ' H' => ∃ m', m' < m ∧ ∃ δ' G', m' + (i + 1) = its.length ∧ Kp H1 G1 Z H' G' ∧ Ok X.K H' G' Z ∧ RepSt X.K (U H' G' Z) δ' σ' ∧ dForL gd g tb (its.drop (i + 1)) D0 δ' G', fun _ _ z => z, fun v H3 y => ?_⟩
      obtain ⟨k3, ok3, r3⟩ := hy v H3 y
      have h3 := h2.2
      have hlt : i < its.length := by
        have := congrArg List.length e
        simp at this
        omega
      split at h3
      · next δ' es =>
        refine g.run U_le r3 (rs2.mono k3.keep) es fun σ' rs' _ => ?_
        refine ⟨δ', G2, Z, _, ok3, rs', h3, ?_⟩
        have k23 := k2.trans k3
        exact ⟨fun δ' G' σ' H' q' k4 ok4 rs4 => ⟨m - 1, by omega, δ', G', by omega, k23.trans k4, ok4, rs4, by rw [er]; exact q'⟩,
          fun δ' G' σ' H' q' k4 ok4 rs4 => l.nx _ _ _ _ q' (k1.trans (k23.trans k4)) ok4 rs4,
          fun δ' G' σ' H' q' k4 ok4 rs4 => ⟨m - 1, by omega, δ', G', by omega, k23.trans k4, ok4, rs4, by rw [er]; exact q'⟩,
          fun d G' v H' q' k4 ok4 rs4 => l.rt _ _ _ _ q' (k1.trans (k23.trans k4)) ok4 rs4,
          fun c δ' G' σ' H' q' k4 ok4 rs4 => l.exb _ _ _ _ _ q' (k1.trans (k23.trans k4)) ok4 rs4, fun c fs δ' G' σ' H' dx xs q' k4 ok4 => l.exo _ _ _ _ _ _ _ _ q' (k1.trans (k23.trans k4)) ok4⟩
      · exact h3.elim
end
end DL
set_option Elab.async false
set_option linter.all false
set_option maxRecDepth 100000
set_option maxHeartbeats 1000000
/-! DL, part 3: comprehensions, what is walked, calls, defs. -/
namespace DL
open PySem PySem.Spec L2

/-! ### comprehensions -/
def dWipe (δ : DSt) : List Nat → DSt
  | [] => δ
  | v :: vs => (dWipe δ vs).set v none
theorem RepSt.wipe {K : PySem.W.Frag} {W : Hp} {δ : DSt} {σ : St} (h : RepSt K W δ σ) : ∀ vs : List Nat, RepSt K W (dWipe δ vs) (L2.wipe σ vs)
  | [] => h
  | v :: vs => (RepSt.wipe h vs).forget v none
theorem wipe_in {σ : St} : ∀ {vs : List Nat} {i : Nat}, i ∈ vs → (wipe σ vs).set i none = wipe σ vs
  | [], i, h => by simp at h
  | v :: vs, i, h => by
    rw [wipe]
    by_cases hv : i = v
    · subst hv; rw [List.set_set]
    · have hr : i ∈ vs := by simpa [hv] using h
      rw [List.set_comm _ _ (Ne.symm hv), wipe_in hr]
theorem wipe_sub {σ : St} {ws : List Nat} : ∀ {vs : List Nat}, (∀ i ∈ vs, i ∈ ws) → wipe (wipe σ ws) vs = wipe σ ws
  | [], _ => rfl
  | v :: vs, h => by
    rw [wipe, wipe_sub fun i hi => h i (List.mem_cons_of_mem _ hi), wipe_in (h v List.mem_cons_self)]
/-- the end of a comprehension: the list stays (false), or is to be changed (true) -/
def lcEnd (m : Bool) (acc : List D) (G : GHp) (Q : DK) : Prop := match m with
  | false => Q (.lst acc) G
  | true => ∀ p, G p = none → Q (.ref p) (gupd G p (.lst acc))
def dLcL (m : Bool) (gd : Gd) (g : Tgt) (tt : DTT) (te : DTE) (δw : DSt) : List D → List D → GHp → DK → Prop
  | [], acc, G, Q => gd.ok G ∧ lcEnd m acc G Q
  | x :: xs, acc, G, Q => gd.ok G ∧ match g.set x δw with
    | some δ' => tt δ' G fun b G1 => dIte b (te δ' G1 fun y G2 => acc.length < sizeLine ∧ dLcL m gd g tt te δw xs (acc ++ [y]) G2 Q) (dLcL m gd g tt te δw xs acc G1 Q)
    | none => False
def dLc (m : Bool) (ti : DTI) (g : Tgt) (tt : DTT) (te : DTE) (vs : List Nat) : DTE := fun δ G Q => ti δ G fun its gd G1 => dLcL m gd g tt te (dWipe δ vs) its [] G1 Q
def zAt (Z : Addr → Bool) (p : Addr) : Addr → Bool := fun a => if a = p then true else Z a
theorem zAt_same {Z : Addr → Bool} {p : Addr} : zAt Z p p = true := by unfold zAt; rw [if_pos rfl]
theorem zAt_ne {Z : Addr → Bool} {p a : Addr} (h : a ≠ p) : zAt Z p a = Z a := by unfold zAt; rw [if_neg h]
theorem lc_split {K : PySem.W.Frag} {m : Bool} {ti : DTI} {g : Tgt} {tt : DTT} {te : DTE} {vs : List Nat} {σ : St} {H : Hp} {Q : VK} (hs : ∀ i ∈ g.slots, i ∈ vs) (h : cE K (dLc m ti g tt te vs) σ H Q) :
    tLc (cI K ti) (g.tg K) (cT K tt) (cE K te) vs σ H Q := by
  obtain ⟨δ, G, Z, Q0, ok, rs, h, k⟩ := h
  refine ⟨δ, G, Z, _, ok, rs, h, fun its gd G1 J H1 q k1 ok1 it p hp => ?_⟩
  have it := it (zAt Z p) (fun a z => by by_cases e : a = p <;> simp [zAt, e, z]) (fun a z => zAt_ne (fun e => z (by rw [e]; exact hp)))
  have free := ok1.free hp
  have nz : ∀ a, zAt Z p a = false → a ≠ p ∧ Z a = false := fun a z => by
    by_cases e : a = p
    · subst e; rw [zAt_same] at z; cases z
    · rw [zAt_ne e] at z; exact ⟨e, z⟩
  have rsw : RepSt K (U H1 G1 (zAt Z p)) (dWipe δ vs) (wipe σ vs) := ((rs.mono k1.keep).mono (fun a o e => by
    obtain ⟨e1, e2, e3⟩ := U_some e
    exact U_of e1 (by rw [zAt_ne (ne_of_none e3 hp)]; exact e2) e3)).wipe vs
  refine ⟨fun i n H2 => ∃ acc dacc G2, n + i = its.length ∧ Kp H1 G1 (zAt Z p) H2 G2 ∧ Ok K H2 G2 (zAt Z p) ∧ H2 p = some (.lst acc) ∧ Reps K (U H2 G2 (zAt Z p)) dacc acc ∧ dLcL m gd g tt te (dWipe δ vs) (its.drop i) dacc G2 Q0,
    ⟨its.length, [], [], G1, rfl, ⟨fun a o e => ?_, fun a o z e => ?_⟩, ⟨fun a o e => ?_, fun a z => ?_⟩, upd_same, .nil, q⟩, ?_⟩
  · obtain ⟨e1, e2, e3⟩ := U_some e
    exact U_of e1 e2 (by rw [upd_ne (ne_of_none e3 hp)]; exact e3)
  · rw [upd_ne (ne_of_none e hp)]; exact e
  · obtain ⟨z, gk⟩ := ok1.ok a o e
    have ne : a ≠ p := fun q => by rw [q, free.1] at e; cases e
    refine ⟨by rw [zAt_ne ne]; exact z, gk.mono (fun b u eu => ?_) (upd_ne ne)⟩
    obtain ⟨e1, e2, e3⟩ := U_some eu
    have nb := ne_of_none e3 hp
    exact U_of e1 (by rw [zAt_ne nb]; exact e2) (by rw [upd_ne nb]; exact e3)
  · by_cases e : a = p
    · subst e; exact ⟨_, upd_same⟩
    · rw [zAt_ne e] at z; rw [upd_ne e]; exact ok1.hid a z
  rintro i n H2 ⟨acc, dacc, G2, hn, k2, ok2, hacc, racc, h2⟩
  cases e : its.drop i with
  | nil =>
    left
    rw [e] at h2
    have hi : its.length ≤ i := by
      have := congrArg List.length e
      simp at this
      omega
    have hil : i = its.length := by omega
    subst hil
    refine ⟨it.stop _ _ k2.q ok2 h2.1, ?_⟩
    have g2p : G2 p = none := by
      cases eg : G2 p with
      | none => rfl
      | some o => have := (ok2.ok p o eg).1; rw [zAt_same] at this; cases this
    have up : ∀ a o, U H2 G2 (zAt Z p) a = some o → U H2 G2 Z a = some o := fun a o e => by
      obtain ⟨e1, e2, e3⟩ := U_some e
      exact U_of e1 (nz a e2).2 e3
    have kk : Kp H1 G1 Z H2 G2 := ⟨fun a o e => by
      obtain ⟨e1, e2, e3⟩ := U_some e
      exact up _ _ (k2.keep a o (U_of e1 (by rw [zAt_ne (ne_of_none e3 hp)]; exact e2) e3)), fun a o z e => k2.hid a o (by rw [zAt_ne (ne_of_none e hp)]; exact z) e⟩
    have okk : Ok K H2 G2 Z := ⟨fun a o e => by
      obtain ⟨z, gk⟩ := ok2.ok a o e
      exact ⟨(nz a z).2, gk.mono up rfl⟩, fun a z => ok2.hid a (by unfold zAt; split <;> simp [z])⟩
    have hup : U H2 G2 Z p = some (.lst acc) := U_of g2p free.2 hacc
    cases m with
    | false => exact k _ _ _ _ h2.2 (k1.trans kk) okk (.lst hup (racc.mono up))
    | true =>
      have h3 := h2.2 p g2p
      have nop : ∀ a o, U H2 G2 (zAt Z p) a = some o → U H2 (gupd G2 p (.lst dacc)) Z a = some o := fun a o e => by
        obtain ⟨e1, e2, e3⟩ := U_some e
        obtain ⟨n1, n2⟩ := nz a e2
        exact U_of (by rw [gupd_ne n1]; exact e1) n2 e3
      have k3 : Kp H1 G1 Z H2 (gupd G2 p (.lst dacc)) := ⟨fun a o e => by
        obtain ⟨e1, e2, e3⟩ := U_some e
        exact nop _ _ (k2.keep a o (U_of e1 (by rw [zAt_ne (ne_of_none e3 hp)]; exact e2) e3)), kk.hid⟩
      refine k _ _ _ _ h3 (k1.trans k3) ⟨fun a o e => ?_, okk.hid⟩ (.ref p)
      by_cases ea : a = p
      · subst ea
        rw [gupd_same] at e; cases e
        exact ⟨free.2, acc, hacc, racc.mono nop⟩
      · rw [gupd_ne ea] at e
        obtain ⟨z, gk⟩ := ok2.ok a o e
        exact ⟨(nz a z).2, gk.mono nop rfl⟩
  | cons x r =>
    right
    rw [e] at h2
    obtain ⟨ex, er⟩ := List.drop_cons_of e
    obtain ⟨hgo, hy⟩ := it.go i x _ _ ex k2.q ok2 h2.1
    have hlt : i < its.length := by
      have := congrArg List.length e
      simp at this
      omega
    refine ⟨hgo, fun H' => ∃ n', n' < n ∧ ∃ acc dacc G2, n' + (i + 1) = its.length ∧ Kp H1 G1 (zAt Z p) H' G2 ∧ Ok K H' G2 (zAt Z p) ∧ H' p = some (.lst acc) ∧ Reps K (U H' G2 (zAt Z p)) dacc acc ∧ dLcL m gd g tt te (dWipe δ vs) (its.drop (i + 1)) dacc G2 Q0, fun _ z => z, fun v H3 y => ?_⟩
    obtain ⟨k3, ok3, r3⟩ := hy v H3 y
    have h3 := h2.2
    split at h3
    · next δ' es =>
      have k13 := k2.trans k3
      refine g.run U_le r3 (rsw.mono k13.keep) es fun σ' rs' hw => ⟨(hw vs hs).trans (wipe_sub fun _ z => z), ?_⟩
      refine ⟨δ', G2, zAt Z p, _, ok3, rs', h3, fun b G4 H4 q4 k4 ok4 => ?_⟩
      have k14 := k13.trans k4
      have hacc4 : H4 p = some (.lst acc) := k4.hid _ _ zAt_same (k3.hid _ _ zAt_same hacc)
      have racc4 := racc.mono (k3.trans k4).keep
      cases b with
      | false =>
        have q4 := dIte_f q4
        refine iteF ⟨n - 1, by omega, acc, dacc, G4, by omega, k14, ok4, hacc4, racc4, by rw [er]; exact q4⟩
      | true =>
        have q4 := dIte_t q4
        refine iteT ⟨δ', G4, zAt Z p, _, ok4, rs'.mono k4.keep, q4, fun yd G5 yv H5 q5 k5 ok5 r5 => ?_⟩
        have hacc5 : H5 p = some (.lst acc) := k5.hid _ _ zAt_same hacc4
        have racc5 := racc4.mono k5.keep
        have up : ∀ a o, U H5 G5 (zAt Z p) a = some o → U (upd H5 p (.lst (acc ++ [yv]))) G5 (zAt Z p) a = some o := fun a o e => by
          obtain ⟨e1, e2, e3⟩ := U_some e
          exact U_of e1 e2 (by rw [upd_ne (nz a e2).1]; exact e3)
        have k15 := k14.trans k5
        refine ⟨acc, hacc5, by rw [← racc.length]; exact q5.1, n - 1, by omega, acc ++ [yv], dacc ++ [yd], G5, by omega, ⟨fun a o e => up _ _ (k15.keep a o e), fun a o z e => ?_⟩, ⟨fun a o e => ?_, fun a z => ?_⟩, upd_same, (racc5.mono up).append (.cons (r5.mono up) .nil), by rw [er]; exact q5.2⟩
        · rw [upd_ne (ne_of_none e hp)]; exact k15.hid a o z e
        · obtain ⟨z, gk⟩ := ok5.ok a o e
          exact ⟨z, gk.mono up (upd_ne (nz a z).1)⟩
        · by_cases e : a = p
          · subst e; exact ⟨_, upd_same⟩
          · rw [upd_ne e]; exact ok5.hid a z
    · exact h3.elim
section
variable {X : Cx}
/-- a clause's tests -/
abbrev DTs (X : Cx) (ifs : List Expr) (t : DTT) : Prop := PTs X ifs (cT X.K t)
def dYes : DTT := fun _ G Q => Q true G
theorem PTs.mono {X : Cx} {e : List Expr} {t u : TT} (h : PTs X e t) (k : ∀ σ H Q, u σ H Q → t σ H Q) : PTs X e u :=
  ⟨fun pins s σ H Q I q => h.run pins s σ H Q I (k σ H Q q)⟩
theorem dts_nil : DTs X [] dYes := PTs.mono pts_nil fun σ H Q ⟨δ, G, Z, Q0, ok, rs, h, k⟩ => k _ _ _ h .refl ok
theorem dts_one {c : Expr} {t : DTT} (h : DT X c t) : DTs X [c] t := pts_one h
theorem de_lc (m : Bool) {elt tg iter : Expr} {ifs : List Expr} {scope : Scope} {own : List (Str × Nat)} {pos : Pos} {ti : DTI} {g : Tgt} {tt : DTT} {te : DTE} (hc : X.calm = true) (hN : X.N.Nodup) (hi : DI X tg iter ti) (ok : BlkOk X.N X.env.scope scope own)
    (hg : ∀ (s : Shared) (H : Hp) (C : Addr) (cl : List (Str × Addr)) (fp : List Addr), PG (X.blk s H scope (compEnvC scope cl C X.env) fp) tg (g.tg X.K)) (ht : ∀ (s : Shared) (H : Hp) (C : Addr) (cl : List (Str × Addr)) (fp : List Addr), DTs (X.blk s H scope (compEnvC scope cl C X.env) fp) ifs tt)
    (he : ∀ (s : Shared) (H : Hp) (C : Addr) (cl : List (Str × Addr)) (fp : List Addr), DE (X.blk s H scope (compEnvC scope cl C X.env) fp) elt te) (hsl : ∀ i ∈ g.slots, i ∈ own.map (·.2)) (hs : ∀ x, foldedSetIterable iter X.env x = pure x := by intro _; rfl) :
    DE X (.ListComp elt [⟨tg, iter, ifs, 0⟩] scope pos) (dLc m ti g tt te (own.map (·.2))) :=
  PE.mono (pe_lc (tt := cT X.K tt) (te := cE X.K te) hc hN hi ok hg ht he hs) fun σ H Q h => lc_split hsl h
theorem ds_setLc (m : Bool) {i : Nat} {y : Str} {py : Pos} {elt tg iter : Expr} {ifs : List Expr} {scope : Scope} {own : List (Str × Nat)} {pos spos : Pos} {ti : DTI} {g : Tgt} {tt : DTT} {te : DTE} (hc : X.calm = true) (hN : X.N.Nodup) (hy : X.N[i]? = some y) (hyl : X.env.scope.names.lookup y = some .local)
    (hsw : swapsWith (.ListComp elt [⟨tg, iter, ifs, 0⟩] scope pos) (some (.Name y py)) spos.line X.env = pure true) (hi : DI X tg iter ti) (ok : BlkOk X.N X.env.scope scope own)
    (hg : ∀ (s : Shared) (H : Hp) (C : Addr) (cl : List (Str × Addr)) (fp : List Addr), PG (X.blk s H scope (compEnvC scope cl C X.env) fp) tg (g.tg X.K)) (ht : ∀ (s : Shared) (H : Hp) (C : Addr) (cl : List (Str × Addr)) (fp : List Addr), DTs (X.blk s H scope (compEnvC scope cl C X.env) fp) ifs tt)
    (he : ∀ (s : Shared) (H : Hp) (C : Addr) (cl : List (Str × Addr)) (fp : List Addr), DE (X.blk s H scope (compEnvC scope cl C X.env) fp) elt te) (hsl : ∀ i ∈ g.slots, i ∈ own.map (·.2)) (hs : ∀ x, foldedSetIterable iter X.env x = pure x := by intro _; rfl) :
    DS X W (.Assign [.Name y py] (.ListComp elt [⟨tg, iter, ifs, 0⟩] scope pos) spos) (dAsg (dLc m ti g tt te (own.map (·.2))) (.nm i)) :=
  PS.mono (ps_setLc (tt := cT X.K tt) (te := cE X.K te) hc hN hy hyl hsw hi ok hg ht he hs) fun E σ H ⟨δ, G, Z, D0, ok, rs, h, l⟩ =>
    lc_split hsl ⟨δ, G, Z, _, ok, rs, h, fun d G1 v H1 h1 k1 ok1 r1 => l.nx _ _ _ _ h1 k1 ok1 ((rs.mono k1.keep).set r1 i)⟩
end

/-! ### what is walked -/
/-- a list, as it stands -/
def lsOf (G : GHp) : D → Option (List D)
  | .lst ds => some ds
  | .ref a => match G a with
    | some (.lst ds) => some ds
    | _ => none
  | _ => none
theorem lsOf_of {K : PySem.W.Frag} {H : Hp} {G : GHp} {Z : Addr → Bool} {x : D} {v : V} {ds : List D} (ok : Ok K H G Z) (r : Rep K (U H G Z) x v) (h : lsOf G x = some ds) : ∃ a xs, v = .ref a ∧ H a = some (.lst xs) ∧ Reps K (U H G Z) ds xs := by
  cases r with
  | lst q rs =>
    simp only [lsOf, Option.some.injEq] at h
    subst h
    exact ⟨_, _, rfl, U_le _ _ q, rs⟩
  | ref a =>
    unfold lsOf at h
    simp only at h
    split at h
    · next ds' e =>
      cases h
      obtain ⟨_, xs, h1, h2⟩ := ok.ok a _ e
      exact ⟨a, xs, rfl, h1, h2⟩
    · cases h
  | _ => simp [lsOf] at h
section
variable {K : PySem.W.Frag} {H : Hp} {G : GHp} {Z Z' : Addr → Bool}
theorem U_ext (h1 : ∀ a, H a ≠ none → Z' a = Z a) : ∀ a o, U H G Z a = some o → U H G Z' a = some o := fun a o e => by
  obtain ⟨e1, e2, e3⟩ := U_some e
  exact U_of e1 (by rw [h1 a (by rw [e3]; simp)]; exact e2) e3
theorem it_list {a : Addr} {xs : List V} {ds : List D} (h : U H G Z a = some (.lst xs)) (r : Reps K (U H G Z) ds xs) : ItOk K (Itl K a) ds none H G Z := by
  refine ⟨fun i d H' G' e k ok _ => ?_, fun H' G' k ok _ => ?_⟩
  · have h' := U_le _ _ (k.keep _ _ h)
    obtain ⟨v, e1, rv⟩ := r.get e
    refine ⟨⟨xs, v, SqL.of h', e1⟩, fun x H'' hy => ?_⟩
    obtain ⟨rfl, hx⟩ := hy
    have := hx xs (SqL.of h')
    rw [e1] at this; cases this
    exact ⟨.refl, ok, rv.mono k.keep⟩
  · exact ⟨xs, SqL.of (U_le _ _ (k.keep _ _ h)), Nat.le_of_eq r.length.symm⟩
theorem it_listG {a : Addr} {ds : List D} : ItOk K (Itl K a) ds (some (a, ds)) H G Z := by
  refine ⟨fun i d H' G' e k ok gd => ?_, fun H' G' k ok gd => ?_⟩
  · obtain ⟨_, xs, h1, h2⟩ := ok.ok a _ gd
    obtain ⟨v, e1, rv⟩ := h2.get e
    refine ⟨⟨xs, v, SqL.of h1, e1⟩, fun x H'' hy => ?_⟩
    obtain ⟨rfl, hx⟩ := hy
    have := hx xs (SqL.of h1)
    rw [e1] at this; cases this
    exact ⟨.refl, ok, rv⟩
  · obtain ⟨_, xs, h1, h2⟩ := ok.ok a _ gd
    exact ⟨xs, SqL.of h1, Nat.le_of_eq h2.length.symm⟩
theorem it_tup {a : Addr} {xs : List V} {ds : List D} (h : SqT K (U H G Z) a xs) (r : Reps K (U H G Z) ds xs) : ItOk K (Itt K a) ds none H G Z := by
  refine ⟨fun i d H' G' e k ok _ => ?_, fun H' G' k ok _ => ?_⟩
  · have h' : SqT K H' a xs := SqT.mono (fun a o e => U_le _ _ (k.keep a o e)) h
    obtain ⟨v, e1, rv⟩ := r.get e
    refine ⟨⟨xs, v, h', e1⟩, fun x H'' hy => ?_⟩
    obtain ⟨rfl, hx⟩ := hy
    have := hx xs h'
    rw [e1] at this; cases this
    exact ⟨.refl, ok, rv.mono k.keep⟩
  · exact ⟨xs, SqT.mono (fun a o e => U_le _ _ (k.keep a o e)) h, Nat.le_of_eq r.length.symm⟩
def rngD (lo : Int) (n : Nat) : List D := (List.range n).map fun (i : Nat) => D.int (lo + i)
theorem it_range {lo : Int} {n : Nat} : ItOk K (Itr lo n) (rngD lo n) none H G Z := by
  refine ⟨fun i d H' G' e k ok _ => ?_, fun H' G' k ok _ => ?_⟩
  · have hi : i < n := by
      have := (List.getElem?_eq_some_iff.mp e).1
      simpa [rngD] using this
    have hd : d = .int (lo + i) := by
      simp [rngD, hi] at e
      exact e.symm
    subst hd
    refine ⟨hi, fun x H'' hy => ?_⟩
    obtain ⟨rfl, rfl⟩ := hy
    exact ⟨.refl, ok, .int _⟩
  · show n ≤ (rngD lo n).length
    simp [rngD]
/-- the signs of a text -/
def strD (x : Str) : List D := x.cps.toList.map fun c => D.str ⟨#[c]⟩
theorem it_str {z : Str} : ItOk K (Its z) (strD z) none H G Z := by
  refine ⟨fun i d H' G' e k ok _ => ?_, fun H' G' k ok _ => ?_⟩
  · have hi : i < z.cps.size := by
      have := (List.getElem?_eq_some_iff.mp e).1
      simpa [strD] using this
    refine ⟨hi, fun x H'' hy => ?_⟩
    obtain ⟨rfl, c, hc, rfl⟩ := hy
    have : d = .str ⟨#[c]⟩ := by
      simp [strD, hc] at e
      exact e.symm
    subst this
    exact ⟨.refl, ok, .str _⟩
  · show z.cps.size ≤ (strD z).length
    simp [strD]
end
section
variable {X : Cx} {tg e : Expr} {te : DTE} {ta : DTA} {p pos : Pos}
/-- a list, a tuple or a text -/
def dSeqI (te : DTE) : DTI := fun δ G R => te δ G fun x G1 => match x with
  | .lst ds => R ds none G1
  | .tup ds => R ds none G1
  | .str z => R (strD z) none G1
  | .ref a => match G1 a with
    | some (.lst ds) => R ds (some (a, ds)) G1
    | _ => False
  | _ => False
theorem PI.or {t u : TI} (h : PI X tg e t) (h' : PI X tg e u) : PI X tg e (fun σ H R => t σ H R ∨ u σ H R) :=
  ⟨fun pins s σ H R I q => q.elim (h.run pins s σ H R I) (h'.run pins s σ H R I)⟩
/-- an iterator over a value, by its kind -/
theorem iter_lst {pins : List (Addr × Obj)} {s : Shared} {σ : St} {H : Hp} {R : It → Hp → Prop} {a : Addr} {xs : List V} (I : Inv X pins σ H s) (hq : SqL X.K H a xs) (q : R (Itl X.K a) H) : wpAny (model X.prog X.w) X.A (pyIter (.ref a)) (PIE X pins σ tg R) X.xe s := by
  obtain ⟨its, rv, p, hz⟩ := I.list hq
  refine wpAny_pyIter_list p.isList ?_
  exact pi_one (tk := s.toks) I _ (turn_list a _) ⟨_, Heap.get?_push_size _ rfl, rfl, rfl⟩ q
theorem iter_tup {pins : List (Addr × Obj)} {s : Shared} {σ : St} {H : Hp} {R : It → Hp → Prop} {a : Addr} {xs : List V} (I : Inv X pins σ H s) (hq : SqT X.K H a xs) (q : R (Itt X.K a) H) : wpAny (model X.prog X.w) X.A (pyIter (.ref a)) (PIE X pins σ tg R) X.xe s := by
  obtain ⟨its, rv, p, hz⟩ := I.tuple hq
  refine wpAny_pyIter_tuple (show s.heap.IsTuple a its.toArray from p) ?_
  exact pi_one (tk := s.toks) I _ (turn_tuple a _) ⟨_, Heap.get?_push_size _ rfl, rfl, rfl⟩ q
theorem iter_text {pins : List (Addr × Obj)} {s : Shared} {σ : St} {H : Hp} {R : It → Hp → Prop} {x : Str} {t : Tok} (I : Inv X pins σ H s) (q : R (Its x) H) : wpAny (model X.prog X.w) X.A (pyIter (.str x t)) (PIE X pins σ tg R) X.xe s := by
  cases ha : x.cps.all (· < 128)
  · exact wpAny_pyIter_wide ha (pi_one (tk := s.toks) I _ (turn_str _ x t "str_iterator" (.inr rfl)) ⟨_, Heap.get?_push_size _ rfl, rfl, rfl⟩ q)
  · exact wpAny_pyIter_ascii ha (pi_one (tk := s.toks) I _ (turn_str _ x t "str_ascii_iterator" (.inl rfl)) ⟨_, Heap.get?_push_size _ rfl, rfl, rfl⟩ q)
/-- the value's kind picks the rule -/
theorem di_seq (he : DE X e te) : DI X tg e (dSeqI te) := by
  refine ⟨?_⟩
  rintro pins s σ H R I ⟨δ, G, Z, Q0, ok, rs, h, k⟩
  let P : VK := fun v H' => ∃ d G', (match d with
      | .lst ds => Q0 ds none G'
      | .tup ds => Q0 ds none G'
      | .str z => Q0 (strD z) none G'
      | .ref a => match G' a with
        | some (.lst ds) => Q0 ds (some (a, ds)) G'
        | _ => False
      | _ => False) ∧ Kp H G Z H' G' ∧ Ok X.K H' G' Z ∧ Rep X.K (U H' G' Z) d v
  refine thn (he.run pins s σ H P I ⟨δ, G, Z, _, ok, rs, h, fun d G' v H' q k1 ok1 r1 => ⟨d, G', q, k1, ok1, r1⟩⟩) fun u s1 hh => ?_
  obtain ⟨v, H1, I1, rv, d, G1, q, k1, ok1, r1⟩ := hh
  cases r1 with
  | lst hq rr =>
    obtain rfl : u = Value.ref _ := rv
    exact iter_lst I1 (SqL.of (U_le _ _ hq)) (k _ _ _ _ _ q k1 ok1 fun Z' z1 z2 => it_list (U_ext z2 _ _ hq) (rr.mono (U_ext z2)))
  | tup hq rr =>
    obtain rfl : u = Value.ref _ := rv
    exact iter_tup I1 (TupAt.sq U_le hq) (k _ _ _ _ _ q k1 ok1 fun Z' z1 z2 => it_tup (TupAt.sq (U_ext z2) hq) (rr.mono (U_ext z2)))
  | str z =>
    obtain ⟨t, rfl⟩ := rv
    exact iter_text I1 (k _ _ _ _ _ q k1 ok1 fun Z' z1 z2 => it_str)
  | ref a =>
    obtain rfl : u = Value.ref _ := rv
    simp only at q
    split at q
    · next ds e =>
      obtain ⟨_, xs, h1, h2⟩ := ok1.ok a _ e
      exact iter_lst I1 (SqL.of h1) (k _ _ _ _ _ q k1 ok1 fun Z' z1 z2 => it_listG)
    · exact q.elim
  | _ => exact False.elim q
/-- range(n), range(a, b) -/
def RgB (i j : Int) : Prop := -(2 ^ 62) ≤ i ∧ i < 2 ^ 62 ∧ -(2 ^ 62) ≤ j ∧ j < 2 ^ 62
def dRng1 (ta : DTE) : DTI := fun δ G R => ta δ G fun x G1 => match x with
  | .int j => RgB 0 j ∧ R (rngD 0 j.toNat) none G1
  | _ => False
def dRng2 (ta tb : DTE) : DTI := fun δ G R => ta δ G fun x G1 => tb δ G1 fun y G2 => match x, y with
  | .int i, .int j => RgB i j ∧ R (rngD i (j - i).toNat) none G2
  | _, _ => False
theorem di_range1 {a : Expr} {ta : DTE} (hg : Gl X "range") (hm : X.mg "range" = none) (ha : DE X a ta) (hs : starEach [a] X.env = [(false, eval a X.env)] := by rfl) : DI X tg (.Call (.Name "range" p) [a] [] pos) (dRng1 ta) :=
  PI.mono (pi_range1 hg hm (pa_cons ha pa_nil hs) hs) fun σ H R ⟨δ, G, Z, Q0, ok, rs, h, k⟩ =>
    ⟨δ, G, Z, _, ok, rs, h, fun x G1 v H1 h1 k1 ok1 r1 => by
      cases r1 with
      | int j => exact ⟨j, rfl, h1.1.2.2.1, h1.1.2.2.2, k _ _ _ _ _ h1.2 k1 ok1 fun Z' _ _ => it_range⟩
      | _ => exact False.elim h1⟩
theorem di_range2 {a b : Expr} {ta tb : DTE} (hg : Gl X "range") (hm : X.mg "range" = none) (ha : DE X a ta) (hb : DE X b tb) (hs : starEach [a, b] X.env = [(false, eval a X.env), (false, eval b X.env)] := by rfl) (hs2 : starEach [b] X.env = [(false, eval b X.env)] := by rfl) :
    DI X tg (.Call (.Name "range" p) [a, b] [] pos) (dRng2 ta tb) :=
  PI.mono (pi_range2 hg hm (pa_cons ha (pa_cons hb pa_nil hs2) (hs.trans (by rw [hs2]))) hs hs2) fun σ H R ⟨δ, G, Z, Q0, ok, rs, h, k⟩ =>
    ⟨δ, G, Z, _, ok, rs, h, fun x G1 v H1 h1 k1 ok1 r1 => ⟨δ, G1, Z, _, ok1, rs.mono k1.keep, h1, fun y G2 u H2 h2 k2 ok2 r2 => by
      cases r1 with
      | int i =>
        cases r2 with
        | int j => exact ⟨i, j, rfl, h2.1, k _ _ _ _ _ h2.2 (k1.trans k2) ok2 fun Z' _ _ => it_range⟩
        | _ => exact False.elim h2
      | _ => cases r2 <;> exact False.elim h2⟩⟩
/-- for (i, x) in enumerate(list) -/
def enumFrom (i : Nat) : List D → List D
  | [] => []
  | d :: r => D.tup [.int (i : Nat), d] :: enumFrom (i + 1) r
theorem enumFrom_get : ∀ {ds : List D} {n i : Nat}, (enumFrom n ds)[i]? = (ds[i]?).map fun d => D.tup [.int ((n + i : Nat) : Int), d]
  | [], n, i => by simp [enumFrom]
  | d :: r, n, 0 => by simp [enumFrom]
  | d :: r, n, i + 1 => by
    simp only [enumFrom, List.getElem?_cons_succ]
    rw [enumFrom_get]
    have e : n + 1 + i = n + (i + 1) := by omega
    rw [e]
theorem enumFrom_length : ∀ {ds : List D} {n : Nat}, (enumFrom n ds).length = ds.length
  | [], n => rfl
  | d :: r, n => by simp [enumFrom, enumFrom_length]
theorem it_enum {K : PySem.W.Frag} {H : Hp} {G : GHp} {Z : Addr → Bool} {a : Addr} {ds : List D} {gd : Gd} (h : ∀ H' G', Kq H G Z H' G' → Ok K H' G' Z → gd.ok G' → ∃ xs, H' a = some (.lst xs) ∧ Reps K (U H' G' Z) ds xs) : ItOk K (Ite K a) (enumFrom 0 ds) gd H G Z := by
  refine ⟨fun i d H' G' e k ok gd => ?_, fun H' G' k ok gd => ?_⟩
  · obtain ⟨xs, h1, h2⟩ := h H' G' k ok gd
    rw [enumFrom_get] at e
    cases e0 : ds[i]? with
    | none => rw [e0] at e; simp at e
    | some y =>
      rw [e0] at e
      simp only [Option.map_some, Option.some.injEq, Nat.zero_add] at e
      subst e
      obtain ⟨v, e1, rv⟩ := h2.get e0
      refine ⟨⟨xs, v, SqL.of h1, e1⟩, fun x H'' hy => ?_⟩
      obtain ⟨T, y', rfl, hT, rfl, hx⟩ := hy
      have := hx xs (SqL.of h1)
      rw [e1] at this; cases this
      have kl : Kp H' G' Z (upd H' T (.tup [.int (i : Nat), v])) G' := Kp.laid hT
      exact ⟨kl, ok.laid hT, .tup (.inl (U_laid ok hT)) (.cons (.int _) (.cons (rv.mono kl.keep) .nil))⟩
  · obtain ⟨xs, h1, h2⟩ := h H' G' k ok gd
    exact ⟨xs, SqL.of h1, by rw [enumFrom_length]; exact Nat.le_of_eq h2.length.symm⟩
/-- the tracked list that a guard must watch, if it is one -/
def gdOf (G : GHp) : D → Gd
  | .ref a => match G a with
    | some (.lst ds) => some (a, ds)
    | _ => none
  | _ => none
theorem ls_stay {K : PySem.W.Frag} {H : Hp} {G : GHp} {Z Z' : Addr → Bool} {x : D} {v : V} {ds : List D} (z2 : ∀ a, H a ≠ none → Z' a = Z a) (ok : Ok K H G Z) (r : Rep K (U H G Z) x v) (h : lsOf G x = some ds) :
    ∃ a xs, v = .ref a ∧ H a = some (.lst xs) ∧ ∀ H' G', Kq H G Z' H' G' → Ok K H' G' Z' → (gdOf G x).ok G' → ∃ xs, H' a = some (.lst xs) ∧ Reps K (U H' G' Z') ds xs := by
  cases r with
  | lst q rs =>
    simp only [lsOf, Option.some.injEq] at h
    subst h
    refine ⟨_, _, rfl, U_le _ _ q, fun H' G' k ok' _ => ⟨_, U_le _ _ (k.keep _ _ (U_ext z2 _ _ q)), rs.mono fun b o e => k.keep _ _ (U_ext z2 _ _ e)⟩⟩
  | ref a =>
    unfold lsOf at h
    simp only at h
    split at h
    · next ds' e =>
      cases h
      obtain ⟨_, xs, h1, h2⟩ := ok.ok a _ e
      refine ⟨a, xs, rfl, h1, fun H' G' k ok' gd => ?_⟩
      have gd : G' a = some (.lst ds) := by
        unfold gdOf Gd.ok at gd
        simp only [e] at gd
        exact gd
      obtain ⟨_, xs', h1', h2'⟩ := ok'.ok a _ gd
      exact ⟨xs', h1', h2'⟩
    · cases h
  | _ => simp [lsOf] at h
def dEnum (te : DTE) : DTI := fun δ G R => te δ G fun x G1 => match lsOf G1 x with
  | some ds => R (enumFrom 0 ds) (gdOf G1 x) G1
  | none => False
theorem di_enum {tpos : Pos} {elts : List Expr} {kk : Nat} (hg : Gl X "enumerate") (hm : X.mg "enumerate" = none) (he : DE X e te) (hs : starEach [e] X.env = [(false, eval e X.env)] := by rfl) :
    DI X (.Tuple elts kk tpos) (.Call (.Name "enumerate" p) [e] [] pos) (dEnum te) :=
  PI.mono (pi_enum hg hm (pa_cons he pa_nil hs) hs) fun σ H R ⟨δ, G, Z, Q0, ok, rs, h, k⟩ =>
    ⟨δ, G, Z, _, ok, rs, h, fun x G1 v H1 h1 k1 ok1 r1 => by
      have h1 : (match lsOf G1 x with | some ds => Q0 (enumFrom 0 ds) (gdOf G1 x) G1 | none => False) := h1
      split at h1
      · next ds e =>
        obtain ⟨a, xs, rfl, ha, _⟩ := ls_stay (fun _ _ => rfl) ok1 r1 e
        refine ⟨a, xs, rfl, SqL.of ha, k _ _ _ _ _ h1 k1 ok1 fun Z' z1 z2 => ?_⟩
        obtain ⟨a', xs', e', _, st⟩ := ls_stay z2 ok1 r1 e
        cases e'
        exact it_enum st
      · exact h1.elim⟩
/-- for (x, y) in zip(list, list) -/
def zipD : List D → List D → List D
  | a :: r, b :: s => D.tup [a, b] :: zipD r s
  | _, _ => []
theorem zipD_get : ∀ {as bs : List D} {i : Nat} {d : D}, (zipD as bs)[i]? = some d → ∃ x y, as[i]? = some x ∧ bs[i]? = some y ∧ d = .tup [x, y]
  | [], _, i, d, e => by simp [zipD] at e
  | _ :: _, [], i, d, e => by simp [zipD] at e
  | a :: r, b :: s, 0, d, e => by
    simp [zipD] at e
    exact ⟨a, b, rfl, rfl, e.symm⟩
  | a :: r, b :: s, i + 1, d, e => by
    simp only [zipD, List.getElem?_cons_succ] at e
    exact zipD_get (as := r) (bs := s) (i := i) (d := d) e
theorem zipD_length : ∀ {as bs : List D}, (zipD as bs).length = min as.length bs.length
  | [], _ => by simp [zipD]
  | _ :: _, [] => by simp [zipD]
  | a :: r, b :: s => by
    simp only [zipD, List.length_cons, zipD_length]
    omega
def dZip (ta tb : DTE) : DTI := fun δ G R => ta δ G fun x G1 => tb δ G1 fun y G2 => match lsOf G2 x, lsOf G2 y, gdOf G2 x, gdOf G2 y with
  | some as, some bs, none, none => R (zipD as bs) none G2
  | _, _, _, _ => False
theorem di_zip {e2 : Expr} {tb : DTE} {tpos : Pos} {elts : List Expr} {kk : Nat} (hg : Gl X "zip") (hm : X.mg "zip" = none) (he : DE X e te) (he2 : DE X e2 tb)
    (hs : starEach [e, e2] X.env = (false, eval e X.env) :: starEach [e2] X.env := by rfl) (hs2 : starEach [e2] X.env = (false, eval e2 X.env) :: starEach [] X.env := by rfl) (hpl : (backTo pos (starEach [e2] X.env)).any (·.1) = false := by rfl) :
    DI X (.Tuple elts kk tpos) (.Call (.Name "zip" p) [e, e2] [] pos) (dZip te tb) :=
  PI.mono (pi_zip hg hm (pa_cons he (pa_cons he2 pa_nil hs2) hs) hs hpl) fun σ H R ⟨δ, G, Z, Q0, ok, rs, h, k⟩ =>
    ⟨δ, G, Z, _, ok, rs, h, fun x G1 v H1 h1 k1 ok1 r1 => ⟨δ, G1, Z, _, ok1, rs.mono k1.keep, h1, fun y G2 u H2 h2 k2 ok2 r2 => by
      have r1 := r1.mono k2.keep
      have h2 : (match lsOf G2 x, lsOf G2 y, gdOf G2 x, gdOf G2 y with
        | some as, some bs, none, none => Q0 (zipD as bs) none G2
        | _, _, _, _ => False) := h2
      split at h2
      · next as bs e1 e2 e3 e4 =>
        obtain ⟨a, xs, rfl, ha, _⟩ := ls_stay (fun _ _ => rfl) ok2 r1 e1
        obtain ⟨b, ys, rfl, hb, _⟩ := ls_stay (fun _ _ => rfl) ok2 r2 e2
        refine ⟨a, b, xs, ys, rfl, SqL.of ha, SqL.of hb, k _ _ _ _ _ h2 (k1.trans k2) ok2 fun Z' z1 z2 => ?_⟩
        obtain ⟨a', xs', ea, _, st⟩ := ls_stay z2 ok2 r1 e1
        cases ea
        obtain ⟨b', ys', eb, _, su⟩ := ls_stay z2 ok2 r2 e2
        cases eb
        rw [e3] at st
        rw [e4] at su
        refine ⟨fun i d H' G' e k ok gd => ?_, fun H' G' k ok gd => ?_⟩
        · obtain ⟨xs, hx1, hx2⟩ := st H' G' k ok trivial
          obtain ⟨ys, hy1, hy2⟩ := su H' G' k ok trivial
          obtain ⟨dx, dy, ex, ey, rfl⟩ := zipD_get e
          obtain ⟨v, e1, rv⟩ := hx2.get ex
          obtain ⟨w, e2, rw'⟩ := hy2.get ey
          refine ⟨⟨xs, ys, v, w, SqL.of hx1, SqL.of hy1, e1, e2⟩, fun x H'' hy => ?_⟩
          obtain ⟨T, x', y', rfl, hT, rfl, hx, hy⟩ := hy
          have q1 := hx xs (SqL.of hx1)
          rw [e1] at q1; cases q1
          have q2 := hy ys (SqL.of hy1)
          rw [e2] at q2; cases q2
          have kl : Kp H' G' Z' (upd H' T (.tup [v, w])) G' := Kp.laid hT
          exact ⟨kl, ok.laid hT, .tup (.inl (U_laid ok hT)) (.cons (rv.mono kl.keep) (.cons (rw'.mono kl.keep) .nil))⟩
        · obtain ⟨xs, hx1, hx2⟩ := st H' G' k ok trivial
          obtain ⟨ys, hy1, hy2⟩ := su H' G' k ok trivial
          refine ⟨xs, ys, SqL.of hx1, SqL.of hy1, ?_⟩
          rw [zipD_length, hx2.length, hy2.length]
          omega
      · exact h2.elim⟩⟩
end

/-! ### calls -/
/-- an exception: its class, its own fields (where it has any) -/
abbrev DXK := Value → Option (List (Str × D)) → GHp → Prop
abbrev DX0 : DXK := fun _ _ _ => False
/-- a def's promise -/
abbrev DSp := List D → GHp → DK → DXK → Prop
/-- how exceptions answer one another -/
structure XLk (K : PySem.W.Frag) (Z : Addr → Bool) (E0 : DXK) (E : XK) (H : Hp) (G : GHp) : Prop where
  bare : ∀ c G' H', E0 c none G' → Kp H G Z H' G' → Ok K H' G' Z → E c none H'
  own : ∀ c fs G' H' dx xs, E0 c (some fs) G' → Kp H G Z H' G' → Ok K H' G' Z → U H' G' Z dx = some (.xd xs) → xs.map (·.1) = fs.map (·.1) → Reps K (U H' G' Z) (fs.map (·.2)) (xs.map (·.2)) → E c (some dx) H'
theorem XLk.after {K : PySem.W.Frag} {Z : Addr → Bool} {E0 : DXK} {E : XK} {H H1 : Hp} {G G1 : GHp} (x : XLk K Z E0 E H G) (k : Kp H G Z H1 G1) : XLk K Z E0 E H1 G1 :=
  ⟨fun c G' H' h q => x.bare c G' H' h (k.trans q), fun c fs G' H' dx xs h q => x.own c fs G' H' dx xs h (k.trans q)⟩
theorem XLk.none {K : PySem.W.Frag} {Z : Addr → Bool} {E : XK} {H : Hp} {G : GHp} : XLk K Z DX0 E H G := ⟨fun _ _ _ h => h.elim, fun _ _ _ _ _ _ h => h.elim⟩
def cSp (K : PySem.W.Frag) (sp : DSp) : Sp := fun vs H Q E => ∃ (ds : List D) (G : GHp) (Z : Addr → Bool) (Q0 : DK) (E0 : DXK), Ok K H G Z ∧ Reps K (U H G Z) ds vs ∧ sp ds G Q0 E0 ∧
  (∀ d G' v H', Q0 d G' → Kp H G Z H' G' → Ok K H' G' Z → Rep K (U H' G' Z) d v → Q v H') ∧ XLk K Z E0 E H G
def dCall (sp : DSp) (dd : List D) (t : DTA) : DTE := fun δ G Q => t δ G fun ds G1 => sp (ds ++ dd) G1 Q DX0
section
variable {X : Cx} {CX : CXT} {k : Nat} {f C : Addr} {fd : FuncData} {ps : List Str} {sp : DSp} {dvs : List V} {ds : List Value} {dd : List D} {E : XK} {x m : Str} {p pos apos : Pos} {e o : Expr} {es : List Expr} {ta : DTE} {t : DTA}
theorem de_call (F : FnOk X.prog X.w X.K X.mg X.base CX k f fd ps (cSp X.K sp)) (hr : Room k X.A) (hg : Gl X x) (hm : X.mg x = some (.ref f)) (hk : PySem.W.keepIn X.K (.ref f) = true) (hb : Binds X.K fd ps ds) (hd : Vals dvs ds) (hdd : ∀ W, Reps X.K W dd dvs) (hx : Passes CX X E)
    (ha : DA X (e :: es) t) (hdb : (x == ("__debug__" : Str)) = false := by decide) (he : starEach (e :: es) X.env = (false, eval e X.env) :: starEach es X.env := by rfl) (hpl : (backTo pos (starEach es X.env)).any (·.1) = false := by rfl) :
    DE X (.Call (.Name x p) (e :: es) [] pos) (dCall sp dd t) :=
  PE.mono (pe_call F hr hg hm hk hb hd hx ha hdb he hpl) fun σ H Q ⟨δ, G, Z, Q0, ok, rs, h, k⟩ =>
    ⟨δ, G, Z, _, ok, rs, h, fun ds G1 vs H1 h1 k1 ok1 r1 => ⟨_, G1, Z, Q0, _, ok1, r1.append (hdd _), h1, fun d G' v H' q k2 ok2 r2 => k _ _ _ _ q (k1.trans k2) ok2 r2, .none⟩⟩
theorem de_call0 (F : FnOk X.prog X.w X.K X.mg X.base CX k f fd ps (cSp X.K sp)) (hr : Room k X.A) (hg : Gl X x) (hm : X.mg x = some (.ref f)) (hk : PySem.W.keepIn X.K (.ref f) = true) (hb : Binds X.K fd ps ds) (hd : Vals dvs ds) (hdd : ∀ W, Reps X.K W dd dvs) (hx : Passes CX X E)
    (hdb : (x == ("__debug__" : Str)) = false := by decide) : DE X (.Call (.Name x p) [] [] pos) (dCall sp dd dNil) :=
  PE.mono (pe_call0 F hr hg hm hk hb hd hx hdb) fun σ H Q ⟨δ, G, Z, Q0, ok, rs, h, k⟩ =>
    ⟨_, G, Z, Q0, _, ok, hdd _, h, k, .none⟩
/-- f(e, .., k = v): the positional values, then the keywords', put in order by gD -/
def dCallN (n m : Nat) (sp : DSp) (gD : List D → List D → List D) (t tk : DTA) : DTE := fun δ G Q => t δ G fun ds G1 => tk δ G1 fun es G2 => ds.length = n ∧ es.length = m ∧ sp (gD ds es) G2 Q DX0
def DKw (X : Cx) (kws : List Keyword) (t : DTA) : Prop := PK X kws (cA X.K t)
theorem PK.mono {X : Cx} {e : List Keyword} {t u : TA} (h : PK X e t) (k : ∀ σ H Q, u σ H Q → t σ H Q) : PK X e u :=
  ⟨fun pos pins s σ H Q I q => h.run pos pins s σ H Q I (k σ H Q q)⟩
theorem dk_nil : DKw X [] dNil := PK.mono pk_nil fun σ H Q ⟨δ, G, Z, Q0, ok, rs, h, k⟩ => k _ _ _ _ h .refl ok .nil
theorem dk_cons {nm : Option Str} {kpos : Pos} {kws : List Keyword} {te : DTE} (ha : DE X e te) (hr : DKw X kws t) : DKw X (⟨nm, e, kpos⟩ :: kws) (dCons te t) :=
  PK.mono (pk_cons ha hr) fun σ H Q ⟨δ, G, Z, Q0, ok, rs, h, k⟩ =>
    ⟨δ, G, Z, _, ok, rs, h, fun x G1 v H1 h1 k1 ok1 r1 => ⟨δ, G1, Z, _, ok1, rs.mono k1.keep, h1, fun xs G2 us H2 h2 k2 ok2 r2 => k _ _ _ _ h2 (k1.trans k2) ok2 (.cons (r1.mono k2.keep) r2)⟩⟩
theorem de_callN {n : Nat} {ks : List Str} {kws : List Keyword} {tk : DTA} {g : List Value → List Value → List Value} {gV : List V → List V → List V} {gD : List D → List D → List D} (F : FnOk X.prog X.w X.K X.mg X.base CX k f fd ps (cSp X.K sp)) (hr : Room k X.A) (hg : Gl X x) (hm : X.mg x = some (.ref f)) (hk : PySem.W.keepIn X.K (.ref f) = true) (hb : KBn X.K fd ps n ks g gV)
    (hgD : ∀ W ds vs es us, Reps X.K W ds vs → Reps X.K W es us → Reps X.K W (gD ds es) (gV vs us)) (hx : Passes CX X E)
    (ha : DA X (e :: es) t) (hkw : DKw X kws tk) (hall : (backToKw pos (keywordEach kws X.env)).all (·.1.isSome) = true := by rfl) (hks : (backToKw pos (keywordEach kws X.env)).filterMap (·.1) = ks := by rfl)
    (hdb : (x == ("__debug__" : Str)) = false := by decide) (he : starEach (e :: es) X.env = (false, eval e X.env) :: starEach es X.env := by rfl)
    (hpl : ((backTo pos (starEach (e :: es) X.env)).any (·.1) || (backToKw pos (keywordEach kws X.env)).any (·.1.isNone)) = false := by rfl) :
    DE X (.Call (.Name x p) (e :: es) kws pos) (dCallN n ks.length sp gD t tk) :=
  PE.mono (pe_callN F hr hg hm hk hb hx ha hkw hall hks hdb he hpl) fun σ H Q ⟨δ, G, Z, Q0, ok, rs, h, k⟩ =>
    ⟨δ, G, Z, _, ok, rs, h, fun ds G1 vs H1 h1 k1 ok1 r1 => ⟨δ, G1, Z, _, ok1, rs.mono k1.keep, h1, fun es G2 us H2 h2 k2 ok2 r2 => by
      have r1' := r1.mono k2.keep
      exact ⟨r1'.length.symm.trans h2.1, r2.length.symm.trans h2.2.1, _, G2, Z, Q0, _, ok2, hgD _ _ _ _ _ r1' r2, h2.2.2, fun d G' v H' q k3 ok3 r3 => k _ _ _ _ q (k1.trans (k2.trans k3)) ok3 r3, .none⟩⟩⟩
end
/-! ### built-ins called by name -/
abbrev DRC := List D → GHp → DK → Prop
def cRC (K : PySem.W.Frag) (r : DRC) : List V → Hp → VK → Prop := fun vs H Q => ∃ (ds : List D) (G : GHp) (Z : Addr → Bool) (Q0 : DK), Ok K H G Z ∧ Reps K (U H G Z) ds vs ∧ r ds G Q0 ∧
  ∀ d G' v' H', Q0 d G' → Kp H G Z H' G' → Ok K H' G' Z → Rep K (U H' G' Z) d v' → Q v' H'
def DCall (X : Cx) (f : Value) (r : DRC) : Prop := CallR X f (cRC X.K r)
def dCB (r : DRC) (t : DTA) : DTE := fun δ G Q => t δ G fun ds G1 => r ds G1 Q
section
variable {X : Cx} {x : Str} {p pos : Pos} {e : Expr} {es : List Expr} {t : DTA} {id T : String} {r : DRC}
theorem de_callB (hc : DCall X (.builtin id) r) (hg : Gl X x) (hm : X.mg x = none) (hv : bootBuiltins x = some (.builtin id)) (ha : DA X (e :: es) t) (hn : x ≠ "__name__" := by decide) (hdb : (x == ("__debug__" : Str)) = false := by decide)
    (he : starEach (e :: es) X.env = (false, eval e X.env) :: starEach es X.env := by rfl) (hpl : (backTo pos (starEach es X.env)).any (·.1) = false := by rfl) : DE X (.Call (.Name x p) (e :: es) [] pos) (dCB r t) :=
  PE.mono (pe_callB hc hg hm hv ha hn hdb he hpl) fun σ H Q ⟨δ, G, Z, Q0, ok, rs, h, k⟩ =>
    ⟨δ, G, Z, _, ok, rs, h, fun ds G1 vs H1 h1 k1 ok1 r1 => ⟨ds, G1, Z, Q0, ok1, r1, h1, fun d G' v H' q k2 ok2 r2 => k _ _ _ _ q (k1.trans k2) ok2 r2⟩⟩
theorem de_callTy (hc : DCall X (.type T) r) (hg : Gl X x) (hm : X.mg x = none) (hv : bootBuiltins x = some (.type T)) (ha : DA X (e :: es) t) (hn : x ≠ "__name__" := by decide) (hdb : (x == ("__debug__" : Str)) = false := by decide)
    (he : starEach (e :: es) X.env = (false, eval e X.env) :: starEach es X.env := by rfl) (hpl : (backTo pos (starEach es X.env)).any (·.1) = false := by rfl) : DE X (.Call (.Name x p) (e :: es) [] pos) (dCB r t) :=
  PE.mono (pe_callTy hc hg hm hv ha hn hdb he hpl) fun σ H Q ⟨δ, G, Z, Q0, ok, rs, h, k⟩ =>
    ⟨δ, G, Z, _, ok, rs, h, fun ds G1 vs H1 h1 k1 ok1 r1 => ⟨ds, G1, Z, Q0, ok1, r1, h1, fun d G' v H' q k2 ok2 r2 => k _ _ _ _ q (k1.trans k2) ok2 r2⟩⟩
end

/-! ### a def keeps its promise -/
def dstart (N : List Str) (ds : List D) : DSt := ds.map some ++ List.replicate (N.length - ds.length) none
theorem RepSt.start {K : PySem.W.Frag} {W : Hp} {N : List Str} {ds : List D} {vs : List V} (r : Reps K W ds vs) : RepSt K W (dstart N ds) (L2.start N vs) := by
  unfold dstart L2.start
  rw [r.length]
  exact (RepSt.somes r).app (RepSt.nones _)
section
variable {P : Program} {w : World} {K : PySem.W.Frag} {mg : Str → Option Value} {base : Heap}
/-- a def that lets no exception out -/
theorem DFun.ok {x qual : Str} {st : Stmt} {f : Addr} {fd : FuncData} {N ps : List Str} {k : Nat} {sp : DSp} (F : Fun K x qual st f fd) (S : FnScope N ps (defScope st)) (len : ∀ ds G Q E, sp ds G Q E → ds.length = ps.length)
    (hbody : ∀ (cdv : Value) (A : Around) (outer : List Env) (s : Shared) (H : Hp) (E : XK) (ds : List D) (G : GHp) (Q : DK) (E0 : DXK), Room k (A.deeper (PyProof.Rows.envOfC qual (defScope st) s.heap.objs.size f cdv)) → sp ds G Q E0 →
      ∃ t, DSs (cxOf CX0 P w K mg base N qual (defScope st) f cdv A outer s H E).nox W0 (defBody st) t ∧ t { nx := fun _ G' => Q .non G', rt := Q } (dstart N ds) G) : FnOk P w K mg base CX0 (k + 1) f fd ps (cSp K sp) := by
  refine F.ok S (fun vs H Q E ⟨ds, G, Z, Q0, E0, ok, rs, h, k, x⟩ => rs.length.symm.trans (len _ _ _ _ h)) fun cdv A outer s H vs Q E hr ⟨ds, G, Z, Q0, E0, ok, rs, h, k, x⟩ => ?_
  obtain ⟨t, d, q⟩ := hbody cdv A outer s H E ds G Q0 E0 hr h
  exact ⟨_, d, _, G, Z, _, ok, RepSt.start rs, q, ⟨fun δ' G' σ' H' q k1 ok1 _ => k _ _ _ _ q k1 ok1 .non, fun _ _ _ _ q => q.elim, fun _ _ _ _ q => q.elim, fun d G' v H' q k1 ok1 r1 => k _ _ _ _ q k1 ok1 r1, fun _ _ _ _ _ q => q.elim, fun _ _ _ _ _ _ _ _ q => q.elim⟩⟩
theorem DFn.imp {CX : CXT} {k : Nat} {f : Addr} {fd : FuncData} {ps : List Str} {sp sp' : DSp} (F : FnOk P w K mg base CX k f fd ps (cSp K sp)) (h : ∀ ds G Q E, sp' ds G Q E → sp ds G Q E) : FnOk P w K mg base CX k f fd ps (cSp K sp') :=
  F.imp fun vs H Q E ⟨ds, G, Z, Q0, E0, ok, rs, q, r⟩ => ⟨ds, G, Z, Q0, E0, ok, rs, h _ _ _ _ q, r⟩
end
end DL
set_option Elab.async false
set_option linter.all false
set_option maxRecDepth 100000
set_option maxHeartbeats 1000000
/-! DL, part 4: operators, subscripts, built-ins. -/
namespace DL
open PySem PySem.Spec L2

theorem OpR.imp {X : Cx} {f : Value → Value → Sem Value} {r r' : R2} (ho : OpR X f r) (h : ∀ x y H Q, r' x y H Q → r x y H Q) : OpR X f r' := fun pins s σ H x y v u Q I rx ry q => ho pins s σ H x y v u Q I rx ry (h x y H Q q)
theorem CallR.imp {X : Cx} {f : Value} {r r' : List V → Hp → VK → Prop} (ho : CallR X f r) (h : ∀ x H Q, r' x H Q → r x H Q) : CallR X f r' := fun pins s σ H xs us Q I rx q => ho pins s σ H xs us Q I rx (h xs H Q q)
theorem UnR.imp {X : Cx} {f : Value → Sem Value} {r r' : V → Hp → VK → Prop} (ho : UnR X f r) (h : ∀ x H Q, r' x H Q → r x H Q) : UnR X f r' := fun pins s σ H xs us Q I rx q => ho pins s σ H xs us Q I rx (h xs H Q q)
theorem IxR.imp {X : Cx} {r r' : R2} (ho : IxR X r) (h : ∀ x y H Q, r' x y H Q → r x y H Q) : IxR X r' := fun va sl pins s σ H x y v u Q I rx ry q e => ho va sl pins s σ H x y v u Q I rx ry (h x y H Q q) e
theorem SlR.imp {X : Cx} {r r' : V → Option Int → Option Int → Hp → VK → Prop} (ho : SlR X r) (h : ∀ x a b H Q, r' x a b H Q → r x a b H Q) : SlR X r' := fun pins s σ H x v vl vu lo hi sl Q I rx e p1 p2 q => ho pins s σ H x v vl vu lo hi sl Q I rx e p1 p2 (h x lo hi H Q q)

/-! ### ints -/
def dI (C : Int → Int → Prop) (g : Int → Int → D) : DR2 := fun x y G Q => match x, y with
  | .int i, .int j => C i j ∧ Q (g i j) G
  | _, _ => False
def dI0 (g : Int → Int → D) : DR2 := fun x y G Q => match x, y with
  | .int i, .int j => Q (g i j) G
  | _, _ => False
section
variable {X : Cx} {f : Value → Value → Sem Value}
theorem dop_I {C : Int → Int → Prop} {g : Int → Int → V} {gd : Int → Int → D} (ho : OpR X f (rI C g)) (hr : ∀ i j W, Rep X.K W (gd i j) (g i j)) : DOp X f (dI C gd) :=
  OpR.imp ho fun v u H Q ⟨x, y, G, Z, Q0, ok, r1, r2, h, k⟩ => by
    cases r1 with
    | int i =>
      cases r2 with
      | int j => exact ⟨i, j, rfl, rfl, h.1, k _ _ _ _ h.2 .refl ok (hr _ _ _)⟩
      | _ => exact False.elim h
    | _ => cases r2 <;> exact False.elim h
theorem dop_I0 {g : Int → Int → V} {gd : Int → Int → D} (ho : OpR X f (rI0 g)) (hr : ∀ i j W, Rep X.K W (gd i j) (g i j)) : DOp X f (dI0 gd) :=
  OpR.imp ho fun v u H Q ⟨x, y, G, Z, Q0, ok, r1, r2, h, k⟩ => by
    cases r1 with
    | int i =>
      cases r2 with
      | int j => exact ⟨i, j, rfl, rfl, k _ _ _ _ h .refl ok (hr _ _ _)⟩
      | _ => exact False.elim h
    | _ => cases r2 <;> exact False.elim h
/-- a product is no too great number -/
def MulOk (i j : Int) : Prop := CMul i j ∨ CMulW i j
theorem MulOk.ok {i j : Int} (h : MulOk i j) : PySem.IntMulOk i j := h.elim (fun h => h.ok) (fun h => h.ok)
theorem op_mulX : OpR X (binaryOp .Mult) (rI MulOk fun i j => .int (i * j)) := opI fun _ _ _ _ _ _ _ hc q => PyProof.Rows.mul_int q hc.ok
/-- a divisor of either sign, below 2 ^ 9000 -/
def DivOk (j : Int) : Prop := j ≠ 0 ∧ j.natAbs.log2 < 9000
theorem op_fdivX : OpR X (binaryOp .FloorDiv) (rI (fun _ j => DivOk j) fun i j => .int (i.fdiv j)) := opI fun i j _ _ _ _ _ hc q =>
  PyProof.Rows.floordiv_int hc.1 q (.inl (PyProof.noPylong_of_log2 hc.2))
theorem dop_sub : DOp X (binaryOp .Sub) (dI0 fun i j => .int (i - j)) := dop_I0 op_sub fun i j _ => .int _
theorem dop_mul : DOp X (binaryOp .Mult) (dI MulOk fun i j => .int (i * j)) := dop_I op_mulX fun i j _ => .int _
theorem dop_fdiv : DOp X (binaryOp .FloorDiv) (dI CDivW fun i j => .int (i / j)) := dop_I op_fdivW fun i j _ => .int _
theorem dop_fdivN : DOp X (binaryOp .FloorDiv) (dI (fun _ j => DivOk j) fun i j => .int (i.fdiv j)) := dop_I op_fdivX fun i j _ => .int _
theorem dop_mod : DOp X (binaryOp .Mod) (dI (fun _ j => 0 < j) fun i j => .int (i % j)) := dop_I op_mod fun i j _ => .int _
theorem dop_pow : DOp X (binaryOp .Pow) (dI CPow fun i j => .int (i ^ j.toNat)) := dop_I op_pow fun i j _ => .int _
theorem dop_addI : DOp X (binaryOp .Add) (dI0 fun i j => .int (i + j)) := dop_I0 op_add fun i j _ => .int _
theorem diop_add : DOp X (inplaceOp .Add) (dI0 fun i j => .int (i + j)) := dop_I0 iop_add fun i j _ => .int _
theorem diop_sub : DOp X (inplaceOp .Sub) (dI0 fun i j => .int (i - j)) := dop_I0 iop_sub fun i j _ => .int _
def dNeg : DR1 := fun x G Q => match x with
  | .int i => Q (.int (-i)) G
  | _ => False
theorem dun_neg : DUn X (unaryOp .USub) dNeg :=
  UnR.imp un_neg fun v H Q ⟨x, G, Z, Q0, ok, r1, h, k⟩ => by
    cases r1 with
    | int i => exact ⟨i, rfl, k _ _ _ _ h .refl ok (.int _)⟩
    | _ => exact False.elim h
end

/-! ### + of anything -/
/-- the result list: as it stays -/
def dAddR : DR2 := fun x y G Q => match x, y with
  | .int i, .int j => Q (.int (i + j)) G
  | .str a, .str b => a.length + b.length ≤ sizeLine ∧ Q (.str (a ++ b)) G
  | .tup xs, .tup ys => xs ≠ [] ∧ xs.length + ys.length ≤ sizeLine ∧ Q (.tup (xs ++ ys)) G
  | x, y => match lsOf G x, lsOf G y with
    | some xs, some ys => xs.length + ys.length ≤ sizeLine ∧ Q (.lst (xs ++ ys)) G
    | _, _ => False
section
variable {X : Cx}
theorem Reps.nil_iff {K : PySem.W.Frag} {W : Hp} {ds : List D} {vs : List V} (r : Reps K W ds vs) : vs = [] ↔ ds = [] := by cases r <;> simp
theorem dop_add : DOp X (binaryOp .Add) dAddR :=
  OpR.imp (OpR.or op_add (OpR.or op_add_str (OpR.or op_catT op_cat))) fun v u H Q ⟨x, y, G, Z, Q0, ok, r1, r2, h, k⟩ => by
    have lst : (match lsOf G x, lsOf G y with
      | some xs, some ys => xs.length + ys.length ≤ sizeLine ∧ Q0 (.lst (xs ++ ys)) G
      | _, _ => False) → rCat v u H Q := by
      intro h
      split at h
      · next xs ys e1 e2 =>
        obtain ⟨a, vs, rfl, ha, ra⟩ := lsOf_of ok r1 e1
        obtain ⟨b, us, rfl, hb, rb⟩ := lsOf_of ok r2 e2
        refine ⟨a, b, vs, us, rfl, rfl, ha, hb, by rw [← ra.length, ← rb.length]; exact h.1, fun p hp => ?_⟩
        exact k _ _ _ _ h.2 (Kp.laid hp) (ok.laid hp) (.lst (U_laid ok hp) ((ra.append rb).mono (Kp.laid hp).keep))
      · exact h.elim
    cases r1 with
    | int i =>
      cases r2 with
      | int j => exact .inl ⟨i, j, rfl, rfl, k _ _ _ _ h .refl ok (.int _)⟩
      | _ => exact .inr (.inr (.inr (lst h)))
    | str a =>
      cases r2 with
      | str b => exact .inr (.inl ⟨a, b, rfl, rfl, h.1, k _ _ _ _ h.2 .refl ok (.str _)⟩)
      | _ => exact .inr (.inr (.inr (lst h)))
    | tup q1 s1 =>
      cases r2 with
      | tup q2 s2 =>
        refine .inr (.inr (.inl ⟨_, _, _, _, rfl, rfl, TupAt.sq U_le q1, TupAt.sq U_le q2, fun e => h.1 (s1.nil_iff.mp e), by rw [← s1.length, ← s2.length]; exact h.2.1, fun e => ?_, fun e p hp => ?_⟩))
        · have e2 := s2.nil_iff.mp e
          subst e2
          exact k _ _ _ _ h.2.2 .refl ok (by rw [List.append_nil]; exact .tup q1 s1)
        · exact k _ _ _ _ h.2.2 (Kp.laid hp) (ok.laid hp) (.tup (.inl (U_laid ok hp)) ((s1.append s2).mono (Kp.laid hp).keep))
      | _ => exact .inr (.inr (.inr (lst h)))
    | _ => cases r2 <;> exact .inr (.inr (.inr (lst h)))
/-- list + list, to be changed -/
def dCatM : DR2 := fun x y G Q => match lsOf G x, lsOf G y with
  | some xs, some ys => xs.length + ys.length ≤ sizeLine ∧ ∀ p, G p = none → Q (.ref p) (gupd G p (.lst (xs ++ ys)))
  | _, _ => False
theorem dop_catM : DOp X (binaryOp .Add) dCatM :=
  OpR.imp op_cat fun v u H Q ⟨x, y, G, Z, Q0, ok, r1, r2, h, k⟩ => by
    unfold dCatM at h
    split at h
    · next xs ys e1 e2 =>
      obtain ⟨a, vs, rfl, ha, ra⟩ := lsOf_of ok r1 e1
      obtain ⟨b, us, rfl, hb, rb⟩ := lsOf_of ok r2 e2
      refine ⟨a, b, vs, us, rfl, rfl, ha, hb, by rw [← ra.length, ← rb.length]; exact h.1, fun p hp => ?_⟩
      have hg := (ok.free hp).1
      have kk : Kp H G Z (upd H p (.lst (vs ++ us))) (gupd G p (.lst (xs ++ ys))) := Kp.laidG hp hg
      exact k _ _ _ _ (h.2 p hg) kk (ok.laidG hp ⟨_, upd_same, (ra.append rb).mono kk.keep⟩) (.ref p)
    · exact h.elim
/-- list * int -/
def dRepR (m : Bool) : DR2 := fun x y G Q => match lsOf G x, y with
  | some xs, .int n => -(2 ^ 63) ≤ n ∧ n < 2 ^ 63 ∧ xs.length * n.toNat ≤ sizeLine ∧ lcEnd m (List.replicate n.toNat xs).flatten G Q
  | _, _ => False
theorem Reps.rep {K : PySem.W.Frag} {W : Hp} {ds : List D} {vs : List V} (r : Reps K W ds vs) : ∀ n : Nat, Reps K W (List.replicate n ds).flatten (List.replicate n vs).flatten
  | 0 => .nil
  | n + 1 => by
    rw [List.replicate_succ, List.replicate_succ, List.flatten_cons, List.flatten_cons]
    exact r.append (Reps.rep r n)
/-- a new list, laid at p -/
theorem lcEnd_of {K : PySem.W.Frag} {H : Hp} {G : GHp} {Z : Addr → Bool} {Q : VK} {Q0 : DK} {m : Bool} {ds : List D} {vs : List V} {p : Addr} (ok : Ok K H G Z) (hp : H p = none) (r : Reps K (U H G Z) ds vs) (h : lcEnd m ds G Q0)
    (k : ∀ d G' v H', Q0 d G' → Kp H G Z H' G' → Ok K H' G' Z → Rep K (U H' G' Z) d v → Q v H') : Q (.ref p) (upd H p (.lst vs)) := by
  cases m with
  | false => exact k _ _ _ _ h (Kp.laid hp) (ok.laid hp) (.lst (U_laid ok hp) (r.mono (Kp.laid hp).keep))
  | true =>
    have hg := (ok.free hp).1
    have kk : Kp H G Z (upd H p (.lst vs)) (gupd G p (.lst ds)) := Kp.laidG hp hg
    exact k _ _ _ _ (h p hg) kk (ok.laidG hp ⟨_, upd_same, r.mono kk.keep⟩) (.ref p)
theorem dop_rep (m : Bool) : DOp X (binaryOp .Mult) (dRepR m) :=
  OpR.imp op_rep fun v u H Q ⟨x, y, G, Z, Q0, ok, r1, r2, h, k⟩ => by
    unfold dRepR at h
    split at h
    · next xs n e1 =>
      obtain ⟨a, vs, rfl, ha, ra⟩ := lsOf_of ok r1 e1
      cases r2
      exact ⟨a, n, vs, rfl, rfl, ha, h.1, h.2.1, by rw [← ra.length]; exact h.2.2.1, fun p hp => lcEnd_of ok hp (ra.rep _) h.2.2.2 k⟩
    · exact h.elim
end

/-! ### == -/
mutual
def D.data : D → Option PyData
  | .non => some .none
  | .bl b => some (.bool b)
  | .int i => some (.int i)
  | .str x => some (.str x)
  | .tup ds => (D.dataL ds).map .tuple
  | .lst ds => (D.dataL ds).map .list
  | _ => none
def D.dataL : List D → Option (List PyData)
  | [] => some []
  | d :: r => match D.data d, D.dataL r with
    | some x, some xs => some (x :: xs)
    | _, _ => none
end
def pdOf (G : GHp) : D → Option PyData
  | .ref a => match G a with
    | some (.lst ds) => (D.dataL ds).map .list
    | _ => none
  | d => d.data
section
variable {K : PySem.W.Frag} {W H : Hp}
mutual
theorem Rep.dp (le : ∀ a o, W a = some o → H a = some o) : ∀ {d : D} {v : V} {p : PyData}, Rep K W d v → d.data = some p → Dp K H v p
  | _, _, p, .non, e => by simp only [D.data, Option.some.injEq] at e; subst e; exact .non
  | _, _, p, .bl b, e => by simp only [D.data, Option.some.injEq] at e; subst e; exact .bl b
  | _, _, p, .int b, e => by simp only [D.data, Option.some.injEq] at e; subst e; exact .int b
  | _, _, p, .str b, e => by simp only [D.data, Option.some.injEq] at e; subst e; exact .str b
  | _, _, p, .ty b, e => by simp [D.data] at e
  | _, _, p, .ref b, e => by simp [D.data] at e
  | _, _, p, .scr _ _, e => by simp [D.data] at e
  | _, _, p, .dct _ _ _, e => by simp [D.data] at e
  | _, _, p, .dcT _ _ _, e => by simp [D.data] at e
  | _, _, p, .tup (ds := ds) h r, e => by
    simp only [D.data] at e
    cases q : D.dataL ds with
    | none => rw [q] at e; simp at e
    | some ps =>
      rw [q] at e
      simp only [Option.map_some, Option.some.injEq] at e
      subst e
      exact .tup (TupAt.sq le h) (Reps.dp le r q)
  | _, _, p, .lst (ds := ds) h r, e => by
    simp only [D.data] at e
    cases q : D.dataL ds with
    | none => rw [q] at e; simp at e
    | some ps =>
      rw [q] at e
      simp only [Option.map_some, Option.some.injEq] at e
      subst e
      exact .lst (SqL.of (le _ _ h)) (Reps.dp le r q)
theorem Reps.dp (le : ∀ a o, W a = some o → H a = some o) : ∀ {ds : List D} {vs : List V} {ps : List PyData}, Reps K W ds vs → D.dataL ds = some ps → DpAll K H vs ps
  | _, _, ps, .nil, e => by simp only [D.dataL, Option.some.injEq] at e; subst e; exact .nil
  | _, _, ps, .cons (d := d) (ds := ds) h r, e => by
    simp only [D.dataL] at e
    split at e
    · next x xs e1 e2 =>
      cases e
      exact .cons (Rep.dp le h e1) (Reps.dp le r e2)
    · cases e
end
end
theorem pd_of {K : PySem.W.Frag} {H : Hp} {G : GHp} {Z : Addr → Bool} {x : D} {v : V} {p : PyData} (ok : Ok K H G Z) (r : Rep K (U H G Z) x v) (h : pdOf G x = some p) : Dp K H v p := by
  cases r with
  | ref a =>
    unfold pdOf at h
    simp only at h
    split at h
    · next ds e =>
      obtain ⟨_, xs, h1, h2⟩ := ok.ok a _ e
      cases q : D.dataL ds with
      | none => rw [q] at h; simp at h
      | some ps =>
        rw [q] at h
        simp only [Option.map_some, Option.some.injEq] at h
        subst h
        exact .lst (SqL.of h1) (Reps.dp U_le h2 q)
    · cases h
  | tup q s => exact Rep.dp U_le (.tup q s) h
  | lst q s => exact Rep.dp U_le (.lst q s) h
  | non => exact Rep.dp (K := K) (W := U H G Z) U_le .non h
  | bl b => exact Rep.dp (K := K) (W := U H G Z) U_le (.bl b) h
  | int b => exact Rep.dp (K := K) (W := U H G Z) U_le (.int b) h
  | str b => exact Rep.dp (K := K) (W := U H G Z) U_le (.str b) h
  | ty b => exact Rep.dp (K := K) (W := U H G Z) U_le (.ty b) h
  | scr q s => exact Rep.dp U_le (.scr q s) h
  | dct q e s => exact Rep.dp U_le (.dct q e s) h
  | dcT q e s => exact Rep.dp U_le (.dcT q e s) h
def dEqR : DR2 := fun x y G Q => match x, y with
  | .int i, .int j => Q (.bl (decide (i = j))) G
  | .str i, .str j => Q (.bl (decide (i = j))) G
  | .bl i, .bl j => Q (.bl (decide (i = j))) G
  | x, y => match pdOf G x, pdOf G y with
    | some p, some q => SeqAt.shaped p = true ∧ SeqAt.shaped q = true ∧ Q (.bl (PyData.eqv p q)) G
    | _, _ => False
def dNeR : DR2 := fun x y G Q => match x, y with
  | .int i, .int j => Q (.bl (!decide (i = j))) G
  | .str i, .str j => Q (.bl (!decide (i = j))) G
  | .bl i, .bl j => Q (.bl (!decide (i = j))) G
  | x, y => match pdOf G x, pdOf G y with
    | some p, some q => SeqAt.shaped p = true ∧ SeqAt.shaped q = true ∧ Q (.bl (!PyData.eqv p q)) G
    | _, _ => False
section
variable {X : Cx}
theorem dop_eq (hu : X.A.units + 64 < cLine) : DOp X (compareOp .Eq) dEqR :=
  OpR.imp (OpR.or op_eq (op_eqD hu)) fun v u H Q ⟨x, y, G, Z, Q0, ok, r1, r2, h, k⟩ => by
    have gen : (match pdOf G x, pdOf G y with
      | some p, some q => SeqAt.shaped p = true ∧ SeqAt.shaped q = true ∧ Q0 (.bl (PyData.eqv p q)) G
      | _, _ => False) → rEqD X.K v u H Q := by
      intro h
      split at h
      · next p q e1 e2 => exact ⟨p, q, pd_of ok r1 e1, pd_of ok r2 e2, h.1, h.2.1, k _ _ _ _ h.2.2 .refl ok (.bl _)⟩
      · exact h.elim
    cases r1 with
    | int i =>
      cases r2 with
      | int j => exact .inl ⟨rfl, by have := k _ _ _ _ h .refl ok (.bl _); simpa using this⟩
      | _ => exact .inr (gen h)
    | str i =>
      cases r2 with
      | str j => exact .inl ⟨rfl, by have := k _ _ _ _ h .refl ok (.bl _); simpa using this⟩
      | _ => exact .inr (gen h)
    | bl i =>
      cases r2 with
      | bl j => exact .inl ⟨rfl, by have := k _ _ _ _ h .refl ok (.bl _); simpa using this⟩
      | _ => exact .inr (gen h)
    | _ => cases r2 <;> exact .inr (gen h)
theorem dop_ne (hu : X.A.units + 64 < cLine) : DOp X (compareOp .NotEq) dNeR :=
  OpR.imp (OpR.or op_ne (op_neD hu)) fun v u H Q ⟨x, y, G, Z, Q0, ok, r1, r2, h, k⟩ => by
    have gen : (match pdOf G x, pdOf G y with
      | some p, some q => SeqAt.shaped p = true ∧ SeqAt.shaped q = true ∧ Q0 (.bl (!PyData.eqv p q)) G
      | _, _ => False) → rNeD X.K v u H Q := by
      intro h
      split at h
      · next p q e1 e2 => exact ⟨p, q, pd_of ok r1 e1, pd_of ok r2 e2, h.1, h.2.1, k _ _ _ _ h.2.2 .refl ok (.bl _)⟩
      · exact h.elim
    cases r1 with
    | int i =>
      cases r2 with
      | int j => exact .inl ⟨rfl, by have := k _ _ _ _ h .refl ok (.bl _); simpa using this⟩
      | _ => exact .inr (gen h)
    | str i =>
      cases r2 with
      | str j => exact .inl ⟨rfl, by have := k _ _ _ _ h .refl ok (.bl _); simpa using this⟩
      | _ => exact .inr (gen h)
    | bl i =>
      cases r2 with
      | bl j => exact .inl ⟨rfl, by have := k _ _ _ _ h .refl ok (.bl _); simpa using this⟩
      | _ => exact .inr (gen h)
    | _ => cases r2 <;> exact .inr (gen h)

/-! ### <, <=, >, >= of ints and texts -/
def dCmpR (f : Int → Int → Bool) (g : List Nat → List Nat → Bool) : DR2 := fun x y G Q => match x, y with
  | .int i, .int j => Q (.bl (f i j)) G
  | .str a, .str b => Q (.bl (g a.cps.toList b.cps.toList)) G
  | _, _ => False
theorem dop_cmp {op : CmpOp} {f : Int → Int → Bool} {g : List Nat → List Nat → Bool} (h1 : OpR X (compareOp op) (rI0 fun i j => .bl (f i j)))
    (h2 : OpR X (compareOp op) (fun x y H Q => ∃ i j, x = .str i ∧ y = .str j ∧ Q (.bl (g i.cps.toList j.cps.toList)) H)) : DOp X (compareOp op) (dCmpR f g) :=
  OpR.imp (OpR.or h1 h2) fun v u H Q ⟨x, y, G, Z, Q0, ok, r1, r2, h, k⟩ => by
    cases r1 with
    | int i =>
      cases r2 with
      | int j => exact .inl ⟨i, j, rfl, rfl, k _ _ _ _ h .refl ok (.bl _)⟩
      | _ => exact False.elim h
    | str i =>
      cases r2 with
      | str j => exact .inr ⟨i, j, rfl, rfl, k _ _ _ _ h .refl ok (.bl _)⟩
      | _ => exact False.elim h
    | _ => cases r2 <;> exact False.elim h
theorem dop_lt : DOp X (compareOp .Lt) (dCmpR (fun i j => decide (i < j)) (fun a b => decide (a < b))) := dop_cmp op_lt op_lt_str
theorem dop_le : DOp X (compareOp .LtE) (dCmpR (fun i j => decide (i ≤ j)) (fun a b => !decide (b < a))) := dop_cmp op_le op_le_str
theorem dop_gt : DOp X (compareOp .Gt) (dCmpR (fun i j => decide (j < i)) (fun a b => decide (b < a))) := dop_cmp op_gt op_gt_str
theorem dop_ge : DOp X (compareOp .GtE) (dCmpR (fun i j => decide (j ≤ i)) (fun a b => !decide (a < b))) := dop_cmp op_ge op_ge_str

/-! ### is -/
def isNon : D → Bool
  | .non => true
  | _ => false
/-- is None, is True, is False -/
def dIsR : DR2 := fun x y G Q => match y, x with
  | .non, x => Q (.bl (isNon x)) G
  | .bl j, .bl i => Q (.bl (decide (i = j))) G
  | _, _ => False
def dIsNR : DR2 := fun x y G Q => match y, x with
  | .non, x => Q (.bl (!isNon x)) G
  | .bl j, .bl i => Q (.bl (!decide (i = j))) G
  | _, _ => False
theorem isNon_of {K : PySem.W.Frag} {W : Hp} {x : D} {v : V} (r : Rep K W x v) : decide (v = .non) = isNon x := by cases r <;> rfl
theorem dop_is : DOp X (compareOp .Is) dIsR :=
  OpR.imp (OpR.or op_isN op_isBl) fun v u H Q ⟨x, y, G, Z, Q0, ok, r1, r2, h, k⟩ => by
    cases r2 with
    | non => exact .inl ⟨rfl, k _ _ _ _ h .refl ok (by rw [isNon_of r1]; exact .bl _)⟩
    | bl j =>
      cases r1 with
      | bl i => exact .inr ⟨i, j, rfl, rfl, k _ _ _ _ h .refl ok (.bl _)⟩
      | _ => exact False.elim h
    | _ => cases r1 <;> exact False.elim h
theorem dop_isN : DOp X (compareOp .IsNot) dIsNR :=
  OpR.imp (OpR.or op_notN op_notBl) fun v u H Q ⟨x, y, G, Z, Q0, ok, r1, r2, h, k⟩ => by
    cases r2 with
    | non => exact .inl ⟨rfl, k _ _ _ _ h .refl ok (by rw [isNon_of r1]; exact .bl _)⟩
    | bl j =>
      cases r1 with
      | bl i => exact .inr ⟨i, j, rfl, rfl, k _ _ _ _ h .refl ok (.bl _)⟩
      | _ => exact False.elim h
    | _ => cases r1 <;> exact False.elim h
end

/-! ### subscripts -/
/-- a place of any sign -/
def atD (ds : List D) (i : Int) (Q : D → Prop) : Prop := match atI ds i with
  | some d => Q d
  | none => False
theorem atI_rep {K : PySem.W.Frag} {W : Hp} {ds : List D} {vs : List V} {i : Int} {d : D} (r : Reps K W ds vs) (h : atI ds i = some d) : ∃ v, atI vs i = some v ∧ Rep K W d v := by
  unfold atI at h ⊢
  rw [← r.length]
  cases e : ixN ds.length i with
  | none => rw [e] at h; simp at h
  | some j =>
    rw [e] at h
    exact r.get h
def dIxR : DR2 := fun x y G Q => match y with
  | .int i => match x with
    | .tup ds => atD ds i fun d => Q d G
    | .scr ds => atD ds i fun d => Q d G
    | .str z => z.length ≤ sizeLine ∧ ∃ c, atI z.cps.toList i = some c ∧ Q (.str ⟨#[c]⟩) G
    | x => match lsOf G x with
      | some ds => atD ds i fun d => Q d G
      | none => False
  | _ => False
def DIx (X : Cx) (r : DR2) : Prop := IxR X (cR2 X.K r)
section
variable {X : Cx} {a b : Expr} {ta tb : DTE} {pos : Pos}
theorem de_ix {r : DR2} (hr : DIx X r) (ha : DE X a ta) (hb : DE X b tb) (hs : PlainIx b) : DE X (.Subscript a b pos) (dOp r ta tb) :=
  PE.mono (pe_ix hr ha hb hs) fun _ _ _ h => op_split h
theorem dix_seq : DIx X dIxR :=
  IxR.imp (ix_seq) fun v u H Q ⟨x, y, G, Z, Q0, ok, r1, r2, h, k⟩ => by
    unfold dIxR at h
    split at h
    · next i =>
      cases r2
      have lst : (match lsOf G x with | some ds => atD ds i fun d => Q0 d G | none => False) → rIxL X.K v (.int i) H Q := by
        intro h
        split at h
        · next ds e =>
          obtain ⟨a, vs, rfl, ha, ra⟩ := lsOf_of ok r1 e
          unfold atD at h
          split at h
          · next d ed =>
            obtain ⟨w, e1, rw'⟩ := atI_rep ra ed
            exact ⟨a, vs, i, w, rfl, rfl, SqL.of ha, e1, k _ _ _ _ h .refl ok rw'⟩
          · exact h.elim
        · exact h.elim
      cases r1 with
      | tup q s =>
        have h : atD _ i fun d => Q0 d G := h
        unfold atD at h
        split at h
        · next d ed =>
          obtain ⟨w, e1, rw'⟩ := atI_rep s ed
          exact .inr (.inl ⟨_, _, i, w, rfl, rfl, TupAt.sq U_le q, e1, k _ _ _ _ h .refl ok rw'⟩)
        · exact h.elim
      | scr q s =>
        have h : atD _ i fun d => Q0 d G := h
        unfold atD at h
        split at h
        · next d ed =>
          obtain ⟨w, e1, rw'⟩ := atI_rep s ed
          exact .inl ⟨_, _, i, w, rfl, rfl, SqL.mono U_le q, e1, k _ _ _ _ h .refl ok rw'⟩
        · exact h.elim
      | str z =>
        obtain ⟨hz, c, hc, q⟩ := h
        exact .inr (.inr ⟨z, i, c, rfl, rfl, hz, hc, k _ _ _ _ q .refl ok (.str _)⟩)
      | _ => exact .inl (lst h)
    · exact h.elim
end
/-! slices -/
abbrev DTO := DSt → GHp → (Option Int → GHp → Prop) → Prop
def cO (K : PySem.W.Frag) (t : DTO) : TO := fun σ H Q => ∃ (δ : DSt) (G : GHp) (Z : Addr → Bool) (Q0 : Option Int → GHp → Prop), Ok K H G Z ∧ RepSt K (U H G Z) δ σ ∧ t δ G Q0 ∧
  ∀ b G' H', Q0 b G' → Kp H G Z H' G' → Ok K H' G' Z → Q b H'
def DO (X : Cx) (e : Option Expr) (t : DTO) : Prop := PO X e (cO X.K t)
theorem PO.mono {X : Cx} {e : Option Expr} {t u : TO} (h : PO X e t) (k : ∀ σ H Q, u σ H Q → t σ H Q) : PO X e u :=
  ⟨fun pins s σ H Q I q => h.run pins s σ H Q I (k σ H Q q)⟩
def dNoPart : DTO := fun _ G Q => Q none G
def dPart (t : DTE) : DTO := fun δ G Q => t δ G fun x G1 => match x with
  | .int i => Q (some i) G1
  | _ => False
/-- the items of ds[lo:hi] -/
def cutD (ds : List D) (lo hi : Option Int) : List D := (ds.drop (HT.sIx ds.length 0 lo)).take (HT.sIx ds.length ds.length hi - HT.sIx ds.length 0 lo)
theorem Reps.cut {K : PySem.W.Frag} {W : Hp} {ds : List D} {vs : List V} (r : Reps K W ds vs) (lo hi : Option Int) : Reps K W (cutD ds lo hi) (cutV vs lo hi) := by
  unfold cutD cutV
  rw [r.length]
  exact (r.drop _).take _
def dSlR (m : Bool) : D → Option Int → Option Int → GHp → DK → Prop := fun x lo hi G Q => match x with
  | .str z => z.length ≤ sizeLine ∧ Q (.str (cutS z lo hi)) G
  | .tup ds => ¬ (HT.sIx ds.length 0 lo = 0 ∧ HT.sIx ds.length ds.length hi = ds.length) ∧ Q (.tup (cutD ds lo hi)) G
  | x => match lsOf G x with
    | some ds => lcEnd m (cutD ds lo hi) G Q
    | none => False
def dSl (r : D → Option Int → Option Int → GHp → DK → Prop) (te : DTE) (tl th : DTO) : DTE := fun δ G Q => te δ G fun x G1 => tl δ G1 fun l G2 => th δ G2 fun u G3 => r x l u G3 Q
section
variable {X : Cx} {e : Expr} {te : DTE} {lo hi : Option Expr} {tl th : DTO} {pos p2 : Pos}
theorem do_none : DO X none dNoPart := PO.mono po_none fun σ H Q ⟨δ, G, Z, Q0, ok, rs, h, k⟩ => k _ _ _ h .refl ok
theorem do_some (h : DE X e te) : DO X (some e) (dPart te) :=
  PO.mono (po_some h) fun σ H Q ⟨δ, G, Z, Q0, ok, rs, h, k⟩ =>
    ⟨δ, G, Z, _, ok, rs, h, fun x G1 v H1 h1 k1 ok1 r1 => by
      cases r1 with
      | int i => exact ⟨i, rfl, k _ _ _ h1 k1 ok1⟩
      | _ => exact False.elim h1⟩
def cSl (K : PySem.W.Frag) (r : D → Option Int → Option Int → GHp → DK → Prop) : V → Option Int → Option Int → Hp → VK → Prop := fun v lo hi H Q => ∃ (x : D) (G : GHp) (Z : Addr → Bool) (Q0 : DK), Ok K H G Z ∧ Rep K (U H G Z) x v ∧ r x lo hi G Q0 ∧
  ∀ d G' v' H', Q0 d G' → Kp H G Z H' G' → Ok K H' G' Z → Rep K (U H' G' Z) d v' → Q v' H'
theorem slr (m : Bool) : SlR X (cSl X.K (dSlR m)) :=
  SlR.imp (SlR.or sl_list (SlR.or sl_tup sl_str)) fun v lo hi H Q ⟨x, G, Z, Q0, ok, r1, h, k⟩ => by
    have lst : (match lsOf G x with | some ds => lcEnd m (cutD ds lo hi) G Q0 | none => False) → rSlL X.K v lo hi H Q := by
      intro h
      split at h
      · next ds e =>
        obtain ⟨a, vs, rfl, ha, ra⟩ := lsOf_of ok r1 e
        exact ⟨a, vs, rfl, SqL.of ha, fun p hp => lcEnd_of ok hp (ra.cut lo hi) h k⟩
      · exact h.elim
    cases r1 with
    | str z => exact .inr (.inr ⟨z, rfl, h.1, k _ _ _ _ h.2 .refl ok (.str _)⟩)
    | tup q s =>
      refine .inr (.inl ⟨_, _, rfl, TupAt.sq U_le q, by rw [← s.length]; exact h.1, fun p hp => ?_⟩)
      exact k _ _ _ _ h.2 (Kp.laid hp) (ok.laid hp) (.tup (.inl (U_laid ok hp)) ((s.cut lo hi).mono (Kp.laid hp).keep))
    | _ => exact .inl (lst h)
theorem de_slice (m : Bool) (he : DE X e te) (hl : DO X lo tl) (hu : DO X hi th) : DE X (.Subscript e (.Slice lo hi none p2) pos) (dSl (dSlR m) te tl th) :=
  PE.mono (pe_slice (slr m) he hl hu) fun σ H Q ⟨δ, G, Z, Q0, ok, rs, h, k⟩ =>
    ⟨δ, G, Z, _, ok, rs, h, fun x G1 v H1 h1 k1 ok1 r1 => ⟨δ, G1, Z, _, ok1, rs.mono k1.keep, h1, fun l G2 H2 h2 k2 ok2 => ⟨δ, G2, Z, _, ok2, rs.mono (k1.trans k2).keep, h2, fun u G3 H3 h3 k3 ok3 =>
      ⟨x, G3, Z, Q0, ok3, r1.mono (k2.trans k3).keep, h3, fun d G' v' H' q k4 ok4 r4 => k _ _ _ _ q (k1.trans (k2.trans (k3.trans k4))) ok4 r4⟩⟩⟩⟩
/-- xs[::-1] -/
def dRevR (m : Bool) (te : DTE) : DTE := fun δ G Q => te δ G fun x G1 => match lsOf G1 x with
  | some ds => lcEnd m ds.reverse G1 Q
  | none => False
theorem de_rev (m : Bool) {k : Nat} {p1 p3 p4 : Pos} (he : DE X e te) : DE X (.Subscript e (.Slice none none (some (.UnaryOp .USub (.Constant (.int 1) k p1) p2)) p3) pos) (dRevR m te) :=
  PE.mono (pe_revL he) fun σ H Q ⟨δ, G, Z, Q0, ok, rs, h, k⟩ =>
    ⟨δ, G, Z, _, ok, rs, h, fun x G1 v H1 h1 k1 ok1 r1 => by
      have h1 : (match lsOf G1 x with | some ds => lcEnd m ds.reverse G1 Q0 | none => False) := h1
      split at h1
      · next ds e =>
        obtain ⟨a, vs, rfl, ha, ra⟩ := lsOf_of ok1 r1 e
        exact ⟨a, vs, rfl, SqL.of ha, fun p hp => lcEnd_of ok1 hp ra.reverse h1 fun d G' v' H' q k2 ok2 r2 => k _ _ _ _ q (k1.trans k2) ok2 r2⟩
      · exact h1.elim⟩
/-- xs[i] = v -/
def dSetL : D → D → D → GHp → (GHp → Prop) → Prop := fun o i v G Q => match o, i with
  | .ref p, .int k => match G p with
    | some (.lst ds) => match ixN ds.length k with
      | some j => Q (gupd G p (.lst (ds.set j v)))
      | none => False
    | _ => False
  | _, _ => False
theorem dSetL_inv {o i v : D} {G : GHp} {Q : GHp → Prop} (h : dSetL o i v G Q) : ∃ p n ds j, o = .ref p ∧ i = .int n ∧ G p = some (.lst ds) ∧ ixN ds.length n = some j ∧ Q (gupd G p (.lst (ds.set j v))) := by
  cases o with
  | ref p =>
    cases i with
    | int n =>
      unfold dSetL at h
      simp only at h
      cases eg : G p with
      | none => rw [eg] at h; exact h.elim
      | some o =>
        rw [eg] at h
        cases o with
        | lst ds =>
          simp only at h
          cases ej : ixN ds.length n with
          | none => rw [ej] at h; exact h.elim
          | some j => rw [ej] at h; exact ⟨p, n, ds, j, rfl, rfl, eg, ej, h⟩
        | _ => exact h.elim
    | _ => exact False.elim h
  | _ => exact False.elim h
def dSub (te to ti : DTE) : DTS := fun D δ G => te δ G fun v G1 => to δ G1 fun o G2 => ti δ G2 fun i G3 => dSetL o i v G3 fun G4 => D.nx δ G4
theorem ds_sub {o i : Expr} {to ti : DTE} {tpos : Pos} (he : DE X e te) (ho : DE X o to) (hi : DE X i ti)
    (ha : ∀ v, assign (.Subscript o i tpos) X.env v = (do
      let ov ← holding [v] (eval o X.env)
      let iv ← holding [v, ov] (eval i X.env)
      standAt tpos
      holding [v, ov, iv] (setItem ov iv v)
      release [v, ov, iv] []) := by intro _; rfl)
    (hs : swapsWithSole [.Subscript o i tpos] e pos.line X.env = pure false := by rfl) (hw : swappedStores [.Subscript o i tpos] e X.env = pure none := by rfl)
    (h1 : (assignEach [.Subscript o i tpos] X.env).map (·.2) = [assign (.Subscript o i tpos) X.env] := by rfl) : DS X W (.Assign [.Subscript o i tpos] e pos) (dSub te to ti) :=
  PS.mono (ps_asg he (pg_sub ho hi set_list ha) hs hw h1) fun E σ H ⟨δ, G, Z, D0, ok, rs, h, l⟩ =>
    ⟨δ, G, Z, _, ok, rs, h, fun v G1 v' H1 h1 k1 ok1 r1 => ⟨δ, G1, Z, _, ok1, rs.mono k1.keep, h1, fun o G2 o' H2 h2 k2 ok2 r2 => ⟨δ, G2, Z, _, ok2, rs.mono (k1.trans k2).keep, h2, fun i G3 i' H3 h3 k3 ok3 r3 => by
      have q1 := r1.mono (k2.trans k3).keep
      have q2 := r2.mono k3.keep
      obtain ⟨p, n, ds, j, rfl, rfl, eg, ej, h3⟩ := dSetL_inv h3
      cases q2
      cases r3
      obtain ⟨hz, xs, hx, rx⟩ := ok3.ok p _ eg
      refine ⟨p, xs, n, j, rfl, rfl, hx, by rw [← rx.length]; exact ej, ?_⟩
      have kk : Kp H3 G3 Z (upd H3 p (.lst (xs.set j v'))) (gupd G3 p (.lst (ds.set j v))) := Kp.wrote eg hz
      have k13 := k1.trans (k2.trans k3)
      exact l.nx _ _ _ _ h3 (k13.trans kk) (ok3.wrote eg ⟨_, upd_same, ((rx.set q1 j)).mono kk.keep⟩) (rs.mono (k13.trans kk).keep)⟩⟩⟩
end
end DL
set_option Elab.async false
set_option linter.all false
set_option maxRecDepth 100000
set_option maxHeartbeats 1000000
/-! DL, part 5: built-in functions and methods. -/
namespace DL
open PySem PySem.Spec L2

/-! ### one and two arguments -/
def dR1 (r : D → GHp → DK → Prop) : DRC := fun ds G Q => match ds with
  | [x] => r x G Q
  | _ => False
def dR2 (r : D → D → GHp → DK → Prop) : DRC := fun ds G Q => match ds with
  | [x, y] => r x y G Q
  | _ => False
section
variable {X : Cx} {f : Value}
theorem dcall1 {r0 : List V → Hp → VK → Prop} {r : D → GHp → DK → Prop} (ho : CallR X f r0) (h : ∀ x v H G Z (Q : VK) (Q0 : DK), Ok X.K H G Z → Rep X.K (U H G Z) x v → r x G Q0 →
    (∀ d G' v' H', Q0 d G' → Kp H G Z H' G' → Ok X.K H' G' Z → Rep X.K (U H' G' Z) d v' → Q v' H') → r0 [v] H Q) : DCall X f (dR1 r) :=
  CallR.imp ho fun vs H Q ⟨ds, G, Z, Q0, ok, rs, q, k⟩ => by
    rcases rs with _ | ⟨r1, rs⟩
    · exact False.elim q
    rcases rs with _ | ⟨r2, rs⟩
    · exact h _ _ _ _ _ _ _ ok r1 q k
    · exact False.elim q
theorem dcall2 {r0 : List V → Hp → VK → Prop} {r : D → D → GHp → DK → Prop} (ho : CallR X f r0) (h : ∀ x y v u H G Z (Q : VK) (Q0 : DK), Ok X.K H G Z → Rep X.K (U H G Z) x v → Rep X.K (U H G Z) y u → r x y G Q0 →
    (∀ d G' v' H', Q0 d G' → Kp H G Z H' G' → Ok X.K H' G' Z → Rep X.K (U H' G' Z) d v' → Q v' H') → r0 [v, u] H Q) : DCall X f (dR2 r) :=
  CallR.imp ho fun vs H Q ⟨ds, G, Z, Q0, ok, rs, q, k⟩ => by
    rcases rs with _ | ⟨r1, rs⟩
    · exact False.elim q
    rcases rs with _ | ⟨r2, rs⟩
    · exact False.elim q
    rcases rs with _ | ⟨r3, rs⟩
    · exact h _ _ _ _ _ _ _ _ _ ok r1 r2 q k
    · exact False.elim q
/-! len -/
def dLenR (x : D) (G : GHp) (Q : DK) : Prop := match x with
  | .str y => y.length ≤ sizeLine ∧ Q (.int y.length) G
  | .tup ds => Q (.int ds.length) G
  | .scr ds => Q (.int ds.length) G
  | x => match lsOf G x with
    | some ds => Q (.int ds.length) G
    | none => False
theorem dcall_len : DCall X (.builtin "len") (dR1 dLenR) :=
  dcall1 call_len fun x v H G Z Q Q0 ok r h k => by
    have lst : (match lsOf G x with | some ds => Q0 (.int ds.length) G | none => False) → ∃ x n, [v] = [x] ∧ LenV X.K x H n ∧ Q (.int n) H := by
      intro h
      split at h
      · next ds e =>
        obtain ⟨a, vs, rfl, ha, ra⟩ := lsOf_of ok r e
        exact ⟨_, vs.length, rfl, .inl ⟨vs, SqL.of ha, rfl⟩, k _ _ _ _ h .refl ok (by rw [ra.length]; exact .int _)⟩
      · exact h.elim
    cases r with
    | str y => exact ⟨_, _, rfl, ⟨h.1, rfl⟩, k _ _ _ _ h.2 .refl ok (.int _)⟩
    | tup q s => exact ⟨_, _, rfl, .inr ⟨_, TupAt.sq U_le q, rfl⟩, k _ _ _ _ h .refl ok (by rw [s.length]; exact .int _)⟩
    | scr q s => exact ⟨_, _, rfl, .inl ⟨_, SqL.mono U_le q, rfl⟩, k _ _ _ _ h .refl ok (by rw [s.length]; exact .int _)⟩
    | _ => exact lst h
/-! abs, int, max and min of two ints -/
def dAbsR (x : D) (G : GHp) (Q : DK) : Prop := match x with
  | .int i => Q (.int (i.natAbs : Int)) G
  | _ => False
theorem abs_ite (i : Int) : (if i < 0 then -i else i) = (i.natAbs : Int) := by split <;> omega
theorem dcall_abs : DCall X (.builtin "abs") (dR1 dAbsR) :=
  dcall1 call_abs fun x v H G Z Q Q0 ok r h k => by
    cases r with
    | int i => exact ⟨i, rfl, k _ _ _ _ h .refl ok (by rw [abs_ite]; exact .int _)⟩
    | _ => exact False.elim h
def dIntR (x : D) (G : GHp) (Q : DK) : Prop := match x with
  | .int i => Q (.int i) G
  | .bl b => Q (.int (if b then 1 else 0)) G
  | _ => False
theorem dcall_int : DCall X (.type "int") (dR1 dIntR) :=
  dcall1 call_int1 fun x v H G Z Q Q0 ok r h k => by
    cases r with
    | int i => exact .inl ⟨i, rfl, k _ _ _ _ h .refl ok (.int _)⟩
    | bl i => exact .inr ⟨i, rfl, k _ _ _ _ h .refl ok (.int _)⟩
    | _ => exact False.elim h
def dMax2R (x y : D) (G : GHp) (Q : DK) : Prop := match x, y with
  | .int i, .int j => Q (.int (max i j)) G
  | _, _ => False
def dMin2R (x y : D) (G : GHp) (Q : DK) : Prop := match x, y with
  | .int i, .int j => Q (.int (min i j)) G
  | _, _ => False
theorem max_ite (i j : Int) : (if j > i then j else i) = max i j := by split <;> omega
theorem min_ite (i j : Int) : (if j < i then j else i) = min i j := by split <;> omega
theorem dcall_max2 (hc : X.calm = true) : DCall X (.builtin "max") (dR2 dMax2R) :=
  dcall2 (call_max2 hc) fun x y v u H G Z Q Q0 ok r1 r2 h k => by
    cases r1 with
    | int i =>
      cases r2 with
      | int j => exact ⟨i, j, rfl, k _ _ _ _ h .refl ok (by rw [max_ite]; exact .int _)⟩
      | _ => exact False.elim h
    | _ => cases r2 <;> exact False.elim h
theorem dcall_min2 (hc : X.calm = true) : DCall X (.builtin "min") (dR2 dMin2R) :=
  dcall2 (call_min2 hc) fun x y v u H G Z Q Q0 ok r1 r2 h k => by
    cases r1 with
    | int i =>
      cases r2 with
      | int j => exact ⟨i, j, rfl, k _ _ _ _ h .refl ok (by rw [min_ite]; exact .int _)⟩
      | _ => exact False.elim h
    | _ => cases r2 <;> exact False.elim h
/-! lists of ints -/
def intsOf : List D → Option (List Int)
  | [] => some []
  | .int i :: r => (intsOf r).map (i :: ·)
  | _ :: _ => none
theorem intsOf_map : ∀ ns : List Int, intsOf (ns.map D.int) = some ns
  | [] => rfl
  | n :: r => by simp [intsOf, intsOf_map r]
theorem intsOf_eq : ∀ {ds : List D} {ns : List Int}, intsOf ds = some ns → ds = ns.map D.int
  | [], ns, e => by simp [intsOf] at e; subst e; rfl
  | d :: r, ns, e => by
    cases d with
    | int i =>
      simp only [intsOf] at e
      cases q : intsOf r with
      | none => rw [q] at e; simp at e
      | some ms =>
        rw [q] at e
        simp at e
        subst e
        rw [List.map_cons, ← intsOf_eq q]
    | _ => simp [intsOf] at e
def intsG (G : GHp) (x : D) : Option (List Int) := (lsOf G x).bind intsOf
theorem intsG_of {K : PySem.W.Frag} {H : Hp} {G : GHp} {Z : Addr → Bool} {x : D} {v : V} {ns : List Int} (ok : Ok K H G Z) (r : Rep K (U H G Z) x v) (h : intsG G x = some ns) : ∃ a, v = .ref a ∧ H a = some (.lst (ns.map V.int)) := by
  unfold intsG at h
  cases e : lsOf G x with
  | none => rw [e] at h; simp at h
  | some ds =>
    rw [e] at h
    simp only [Option.bind_some] at h
    obtain ⟨a, vs, rfl, ha, ra⟩ := lsOf_of ok r e
    rw [intsOf_eq h] at ra
    exact ⟨a, rfl, by rw [ha, ra.ints]⟩
def maxI : List Int → Int
  | [] => 0
  | [a] => a
  | a :: b :: r => max a (maxI (b :: r))
def minI : List Int → Int
  | [] => 0
  | [a] => a
  | a :: b :: r => min a (minI (b :: r))
theorem maxI_mem : ∀ {ns : List Int}, ns ≠ [] → maxI ns ∈ ns ∧ ∀ y ∈ ns, y ≤ maxI ns
  | [a], _ => by simp [maxI]
  | a :: b :: r, _ => by
    have ih := maxI_mem (ns := b :: r) (by simp)
    rw [maxI]
    refine ⟨?_, fun y hy => ?_⟩
    · by_cases h : a ≤ maxI (b :: r)
      · rw [Int.max_eq_right h]; exact List.mem_cons_of_mem _ ih.1
      · rw [Int.max_eq_left (by omega)]; exact List.mem_cons_self
    · rcases List.mem_cons.mp hy with rfl | hy
      · omega
      · have := ih.2 y hy; omega
theorem minI_mem : ∀ {ns : List Int}, ns ≠ [] → minI ns ∈ ns ∧ ∀ y ∈ ns, minI ns ≤ y
  | [a], _ => by simp [minI]
  | a :: b :: r, _ => by
    have ih := minI_mem (ns := b :: r) (by simp)
    rw [minI]
    refine ⟨?_, fun y hy => ?_⟩
    · by_cases h : a ≤ minI (b :: r)
      · rw [Int.min_eq_left h]; exact List.mem_cons_self
      · rw [Int.min_eq_right (by omega)]; exact List.mem_cons_of_mem _ ih.1
    · rcases List.mem_cons.mp hy with rfl | hy
      · omega
      · have := ih.2 y hy; omega
def dOnInts (C : List Int → Prop) (g : List Int → D) (x : D) (G : GHp) (Q : DK) : Prop := match intsG G x with
  | some ns => C ns ∧ Q (g ns) G
  | none => False
theorem dcall_sum (hc : X.calm = true) : DCall X (.builtin "sum") (dR1 (dOnInts (fun _ => True) fun ns => .int ns.sum)) :=
  dcall1 (cr_sum hc) fun x v H G Z Q Q0 ok r h k => by
    unfold dOnInts at h
    split at h
    · next ns e =>
      obtain ⟨a, rfl, ha⟩ := intsG_of ok r e
      exact ⟨a, ns, rfl, SqL.of ha, k _ _ _ _ h.2 .refl ok (.int _)⟩
    · exact h.elim
theorem dcall_maxL (hc : X.calm = true) : DCall X (.builtin "max") (dR1 (dOnInts (fun ns => ns ≠ []) fun ns => .int (maxI ns))) :=
  dcall1 (cr_max hc) fun x v H G Z Q Q0 ok r h k => by
    unfold dOnInts at h
    split at h
    · next ns e =>
      obtain ⟨a, rfl, ha⟩ := intsG_of ok r e
      refine ⟨a, ns, rfl, SqL.of ha, List.length_pos_iff.mpr h.1, fun m hm hle => ?_⟩
      have e : m = maxI ns := by
        have h1 := maxI_mem h.1
        have h2 := hle _ h1.1
        have h3 := h1.2 _ hm
        omega
      subst e
      exact k _ _ _ _ h.2 .refl ok (.int _)
    · exact h.elim
theorem dcall_minL (hc : X.calm = true) : DCall X (.builtin "min") (dR1 (dOnInts (fun ns => ns ≠ []) fun ns => .int (minI ns))) :=
  dcall1 (cr_min hc) fun x v H G Z Q Q0 ok r h k => by
    unfold dOnInts at h
    split at h
    · next ns e =>
      obtain ⟨a, rfl, ha⟩ := intsG_of ok r e
      refine ⟨a, ns, rfl, SqL.of ha, List.length_pos_iff.mpr h.1, fun m hm hle => ?_⟩
      have e : m = minI ns := by
        have h1 := minI_mem h.1
        have h2 := hle _ h1.1
        have h3 := h1.2 _ hm
        omega
      subst e
      exact k _ _ _ _ h.2 .refl ok (.int _)
    · exact h.elim
/-! sorted of ints -/
def insI (n : Int) : List Int → List Int
  | [] => [n]
  | a :: r => if n ≤ a then n :: a :: r else a :: insI n r
def sortI : List Int → List Int
  | [] => []
  | a :: r => insI a (sortI r)
theorem insI_perm (n : Int) : ∀ l, (insI n l).Perm (n :: l)
  | [] => .refl _
  | a :: r => by
    rw [insI]
    split
    · exact .refl _
    · exact (List.Perm.cons a (insI_perm n r)).trans (.swap _ _ _)
theorem insI_sorted (n : Int) : ∀ {l}, l.Pairwise (· ≤ ·) → (insI n l).Pairwise (· ≤ ·)
  | [], _ => by simp [insI]
  | a :: r, h => by
    rw [insI]
    obtain ⟨h1, h2⟩ := List.pairwise_cons.mp h
    split
    · next hn =>
      refine List.pairwise_cons.mpr ⟨fun y hy => ?_, h⟩
      rcases List.mem_cons.mp hy with rfl | hy
      · exact hn
      · have := h1 y hy; omega
    · next hn =>
      refine List.pairwise_cons.mpr ⟨fun y hy => ?_, insI_sorted n h2⟩
      rcases List.mem_cons.mp ((insI_perm n r).mem_iff.mp hy) with rfl | hy
      · omega
      · exact h1 y hy
theorem sortI_perm : ∀ l, (sortI l).Perm l
  | [] => .refl _
  | a :: r => (insI_perm a _).trans (.cons a (sortI_perm r))
theorem sortI_sorted : ∀ l, (sortI l).Pairwise (· ≤ ·)
  | [] => .nil
  | a :: r => insI_sorted a (sortI_sorted r)
theorem sorted_unique {l m : List Int} (hp : l.Perm m) (hl : l.Pairwise (· ≤ ·)) (hm : m.Pairwise (· ≤ ·)) : l = m := by
  induction l generalizing m with
  | nil => exact (List.nil_perm.mp hp).symm
  | cons a r ih =>
    cases m with
    | nil => exact absurd hp (by simp)
    | cons b s =>
      obtain ⟨h1, h2⟩ := List.pairwise_cons.mp hl
      obtain ⟨h3, h4⟩ := List.pairwise_cons.mp hm
      have e : a = b := by
        have ha : a ∈ b :: s := hp.mem_iff.mp List.mem_cons_self
        have hb : b ∈ a :: r := hp.mem_iff.mpr List.mem_cons_self
        rcases List.mem_cons.mp ha with ea | ha
        · exact ea
        · rcases List.mem_cons.mp hb with eb | hb
          · exact eb.symm
          · have := h3 a ha
            have := h1 b hb
            omega
      subst e
      rw [ih (List.Perm.cons_inv hp) h2 h4]
def dSortedR (m : Bool) (x : D) (G : GHp) (Q : DK) : Prop := match intsG G x with
  | some ns => lcEnd m ((sortI ns).map .int) G Q
  | none => False
theorem dcall_sorted (m : Bool) : DCall X (.builtin "sorted") (dR1 (dSortedR m)) :=
  dcall1 cr_sortedI fun x v H G Z Q Q0 ok r h k => by
    unfold dSortedR at h
    split at h
    · next ns e =>
      obtain ⟨a, rfl, ha⟩ := intsG_of ok r e
      refine ⟨a, ns, rfl, SqL.of ha, fun ns' p hp hs hn => ?_⟩
      have e : ns' = sortI ns := sorted_unique (hp.trans (sortI_perm ns).symm) hs (sortI_sorted ns)
      subst e
      exact lcEnd_of ok hn (Reps.of_ints _) h k
    · exact h.elim
/-! list(x), tuple(x) -/
def sqOf (G : GHp) : D → Option (List D)
  | .tup ds => some ds
  | x => lsOf G x
def dListR (m : Bool) (x : D) (G : GHp) (Q : DK) : Prop := match sqOf G x with
  | some ds => lcEnd m ds G Q
  | none => False
theorem dcall_list (m : Bool) : DCall X (.type "list") (dR1 (dListR m)) :=
  dcall1 call_list_of fun x v H G Z Q Q0 ok r h k => by
    have lst : (match lsOf G x with | some ds => lcEnd m ds G Q0 | none => False) → ∃ p ys, [v] = [V.ref p] ∧ (SqL X.K H p ys ∨ SqT X.K H p ys) ∧ ∀ l, H l = none → Q (.ref l) (upd H l (.lst ys)) := by
      intro h
      split at h
      · next ds e =>
        obtain ⟨a, vs, rfl, ha, ra⟩ := lsOf_of ok r e
        exact ⟨a, vs, rfl, .inl (SqL.of ha), fun p hp => lcEnd_of ok hp ra h k⟩
      · exact h.elim
    cases r with
    | tup q s => exact ⟨_, _, rfl, .inr (TupAt.sq U_le q), fun p hp => lcEnd_of ok hp s h k⟩
    | _ => exact lst h
def dTupleR (x : D) (G : GHp) (Q : DK) : Prop := match sqOf G x with
  | some ds => Q (.tup ds) G
  | none => False
theorem dcall_tuple : DCall X (.type "tuple") (dR1 dTupleR) :=
  dcall1 call_tuple_of fun x v H G Z Q Q0 ok r h k => by
    have lst : (match lsOf G x with | some ds => Q0 (.tup ds) G | none => False) → ∃ p ys, [v] = [V.ref p] ∧ ((SqL X.K H p ys ∧ ∀ l, H l = none → Q (.ref l) (upd H l (.tup ys))) ∨ (SqT X.K H p ys ∧ Q (.ref p) H)) := by
      intro h
      split at h
      · next ds e =>
        obtain ⟨a, vs, rfl, ha, ra⟩ := lsOf_of ok r e
        exact ⟨a, vs, rfl, .inl ⟨SqL.of ha, fun p hp => k _ _ _ _ h (Kp.laid hp) (ok.laid hp) (.tup (.inl (U_laid ok hp)) (ra.mono (Kp.laid hp).keep))⟩⟩
      · exact h.elim
    cases r with
    | tup q s => exact ⟨_, _, rfl, .inr ⟨TupAt.sq U_le q, k _ _ _ _ h .refl ok (.tup q s)⟩⟩
    | _ => exact lst h
/-! all, any of bools -/
def bsOf : List D → Option (List Bool)
  | [] => some []
  | .bl i :: r => (bsOf r).map (i :: ·)
  | _ :: _ => none
theorem bsOf_map : ∀ ns : List Bool, bsOf (ns.map D.bl) = some ns
  | [] => rfl
  | n :: r => by simp [bsOf, bsOf_map r]
theorem bsOf_eq : ∀ {ds : List D} {ns : List Bool}, bsOf ds = some ns → ds = ns.map D.bl
  | [], ns, e => by simp [bsOf] at e; subst e; rfl
  | d :: r, ns, e => by
    cases d with
    | bl i =>
      simp only [bsOf] at e
      cases q : bsOf r with
      | none => rw [q] at e; simp at e
      | some ms =>
        rw [q] at e
        simp at e
        subst e
        rw [List.map_cons, ← bsOf_eq q]
    | _ => simp [bsOf] at e
def dOnBls (g : List Bool → Bool) (x : D) (G : GHp) (Q : DK) : Prop := match (lsOf G x).bind bsOf with
  | some ns => Q (.bl (g ns)) G
  | none => False
theorem bls_of {K : PySem.W.Frag} {H : Hp} {G : GHp} {Z : Addr → Bool} {x : D} {v : V} {ns : List Bool} (ok : Ok K H G Z) (r : Rep K (U H G Z) x v) (h : (lsOf G x).bind bsOf = some ns) : ∃ a, v = .ref a ∧ H a = some (.lst (ns.map V.bl)) := by
  cases e : lsOf G x with
  | none => rw [e] at h; simp at h
  | some ds =>
    rw [e] at h
    simp only [Option.bind_some] at h
    obtain ⟨a, vs, rfl, ha, ra⟩ := lsOf_of ok r e
    rw [bsOf_eq h] at ra
    exact ⟨a, rfl, by rw [ha, ra.bls]⟩
theorem dcall_all (hc : X.calm = true) : DCall X (.builtin "all") (dR1 (dOnBls fun bs => bs.all id)) :=
  dcall1 (cr_all hc) fun x v H G Z Q Q0 ok r h k => by
    unfold dOnBls at h
    split at h
    · next ns e =>
      obtain ⟨a, rfl, ha⟩ := bls_of ok r e
      exact ⟨a, ns, rfl, SqL.of ha, k _ _ _ _ h .refl ok (.bl _)⟩
    · exact h.elim
theorem dcall_any (hc : X.calm = true) : DCall X (.builtin "any") (dR1 (dOnBls fun bs => bs.any id)) :=
  dcall1 (cr_any hc) fun x v H G Z Q Q0 ok r h k => by
    unfold dOnBls at h
    split at h
    · next ns e =>
      obtain ⟨a, rfl, ha⟩ := bls_of ok r e
      exact ⟨a, ns, rfl, SqL.of ha, k _ _ _ _ h .refl ok (.bl _)⟩
    · exact h.elim
/-! isinstance -/
def tgOf (G : GHp) : D → Option Tg
  | .non => some .non
  | .bl _ => some .bool
  | .int _ => some .int
  | .str _ => some .str
  | .tup _ => some .tup
  | .lst _ => some .lst
  | .ref a => match G a with
    | some (.lst _) => some .lst
    | some (.dK _) => some .dct
    | some (.exo _ _) => some .exc
    | _ => none
  | _ => none
def isA : Tg → Tg → Bool
  | .exc, _ => false
  | .bool, .int => true
  | a, b => decide (a = b)
theorem kit_isA : ∀ a c : Tg, a ≠ .exc → kitB a.name c.name = some (isA a c) := by
  intro a c h
  cases a <;> first | exact absurd rfl h | (cases c <;> decide +kernel)
theorem tg_of {K : PySem.W.Frag} {H : Hp} {G : GHp} {Z : Addr → Bool} {x : D} {v : V} {t : Tg} (ok : Ok K H G Z) (r : Rep K (U H G Z) x v) (h : tgOf G x = some t) (hx : t ≠ .exc) : TyX K H v (.type t.name) := by
  cases r with
  | non => cases h; exact .base .non
  | bl b => cases h; exact .base (.bl b)
  | int b => cases h; exact .base (.int b)
  | str b => cases h; exact .base (.str b)
  | ty b => cases h
  | scr q s => cases h
  | dct q e s => cases h
  | dcT q e s => cases h
  | lst q s => cases h; exact .base (.lst (U_le _ _ q))
  | tup q s =>
    cases h
    rcases TupAt.sq U_le q with (q | ⟨o, q⟩) | ⟨o, its, n, e, c, _⟩
    · exact .base (.tup q)
    · exact .fTuple q
    · exact .kTuple e c
  | ref a =>
    unfold tgOf at h
    simp only at h
    split at h
    · next ds e =>
      cases h
      obtain ⟨_, xs, h1, _⟩ := ok.ok a _ e
      exact .base (.lst h1)
    · next ds e =>
      cases h
      obtain ⟨_, xs, h1, _⟩ := ok.ok a _ e
      exact .base (.dK h1)
    · cases h; exact absurd rfl hx
    · cases h
/-- such a thing is an exception of one's own -/
theorem exo_of {K : PySem.W.Frag} {H : Hp} {G : GHp} {Z : Addr → Bool} {x : D} {v : V} (ok : Ok K H G Z) (r : Rep K (U H G Z) x v) (h : tgOf G x = some .exc) : ∃ (a C dx : Addr) (xs : List (Str × V)), v = .ref a ∧ ExoF K C ∧ H a = some (L2.exo a C (some dx)) ∧ H dx = some (L2.exd dx xs) := by
  cases r with
  | ref a =>
    unfold tgOf at h
    simp only at h
    split at h
    · cases h
    · cases h
    · next C fs e =>
      obtain ⟨_, f0, dx, xs, h1, h2, _⟩ := ok.ok a _ e
      exact ⟨a, C, dx, xs, rfl, f0, h1, U_le _ _ h2⟩
    · cases h
  | _ => cases h
end
namespace ExoX
open PySem.W
variable {prog : Program} {w : World} {A : Around} {E : Value → Shared → Prop} {s : Shared} {K : Frag} {x D : Addr} {ox : Obj} {od : Option Obj}
/-- x.__class__ of an exception with a dict of its own -/
theorem class_of {Q : Option Value → Shared → Prop} (c : ExcC K D) (KI : K.In s.heap) (I : InstAt s.heap x ox D od) (h : Q (some (.ref D)) { s with toks := s.toks + 1 }) : wpAny (model prog w) A (getAttr? (.ref x) "__class__") Q E s := by
  obtain ⟨cd, hcd, _⟩ := any_some c.hd
  have hf : findObj K D od "__class__" = some (.bind (.builtin "getset_descriptor.__get__") (.builtin "object.__class__")) := by
    unfold findObj
    rw [hcd, Option.bind_some, c.ha, Option.bind_some]
    simp [c.hn, c.ht]
  obtain ⟨hp, g, d, t, os⟩ := s
  have ty := I.type (M := model prog w)
  have l1 := looks_findIn (M := model prog w) KI c.hg
  have l2 := looks_findIn (M := model prog w) KI c.hk
  have l3 := looks_find (M := model prog w) KI I hf
  have sub : Looks (model prog w) hp (isInstance (.ref x) (.type "BaseException")) true := ty.andThen (looks_subIn KI c.hs)
  have n0 : (false && onTheHeap (Value.builtin "BaseException.__getattribute__")) = false := rfl
  have n1 : (onTheHeap (Value.ref D) && Value.builtin "BaseException.__getattribute__" == Value.builtin "object.__getattribute__") = false := by
    rw [show (Value.builtin "BaseException.__getattribute__" == Value.builtin "object.__getattribute__") = false by decide +kernel, Bool.and_false]
  unfold getAttr? getAttrBy? getAttrBy
  apply wpAny_bind
  apply wpAny_mkText
  apply wpAny_bind
  apply wpAny_attempt
  apply wpAny_holding
  apply wpAny_bind
  apply ty.at
  apply wpAny_bind
  apply l1.at
  show wpAny _ _ (if (onTheHeap (Value.ref D) && Value.builtin "BaseException.__getattribute__" == Value.builtin "object.__getattribute__") = true then _ else _) _ _ _
  rw [n1]
  rw [if_neg Bool.false_ne_true]
  unfold getAttrByItsOwn hookBefore
  apply wpAny_bind
  rw [if_pos (show onTheHeap (Value.ref D) = true from rfl)]
  apply l2.at
  apply wpAny_bind
  apply wpAny_attempt
  apply wpAny_holding
  unfold callGetattribute
  rw [n0]
  rw [if_neg Bool.false_ne_true]
  unfold boundAndCalled
  rw [PySem.F.excAttr_ValueError.ga.bind (.ref x)]
  apply wpAny_bind
  apply wpAny_pure
  show wpAny _ _ (call (.builtin "BaseException.__getattribute__") [.ref x, .str "__class__" t]) _ _ _
  apply wpAny_call
  apply codeAny_call_builtin PySem.F.excAttr_ValueError.ga.plain PySem.F.entry_bexc_ga
  refine @check_slot (model prog w) _ _ ⟨hp, g, d, t + 1, os⟩ "BaseException.__getattribute__" "BaseException" "__getattribute__" (.ref x) [.str "__class__" t] [] _ (by decide +kernel) (by decide +kernel) sub (PySem.F.args_bexc_ga (.ref x) (.str "__class__" t)) ?_
  unfold Builtin.«object.__getattribute__»
  refine wpAny_bind (wpAny_of_eq (a := ((Value.ref x : Value), [Value.str "__class__" t])) (by first | rfl | (simp only [slotArgs]; rfl)) ?_)
  apply wpAny_bind
  apply wpAny_pure
  apply wpAny_bind
  apply ty.at
  apply wpAny_bind
  apply l3.at
  show wpAny _ _ (holding [Value.builtin "object.__class__"] (call (.builtin "getset_descriptor.__get__") [.builtin "object.__class__", .ref x, .ref D]) >>= ret) _ _ _
  refine wpAny_bind (wpAny_holding (wpAny_call (class_get (s := ⟨hp, g, d, t + 1, os⟩) (ox := ox) (od := od) KI I c.hm ?_)))
  apply wpAny_pure
  show wpAny _ _ (handedOut (.ref D)) _ _ _
  rw [handedOut_of (v := .ref D) rfl]
  first
    | exact wpAny_pure (wpAny_pure h)
    | exact wpAny_pure h
    | exact wpAny_pure (wpAny_bind (wpAny_pure (wpAny_pure h)))
theorem kitx (c : ExcC K D) : KitX K (.ref x) (.ref D) (fun h => InstAt h x ox D od) where
  ty := fun _ _ _ I => I.type
  it := by
    intro _ _ KI _ A' Q' E' s' k q
    obtain ⟨cd, hcd, _⟩ := any_some c.hd
    unfold clsIn at hcd
    split at hcd
    · next ho =>
      unfold isType loadHead
      exact wpAny_bind (wpAny_loadPart (k _ _ (KI _ _ ho)) (wpAny_pure q))
    · cases hcd
  ne := by
    intro h tp dd its n sl KI htp
    obtain ⟨cd, hcd, _⟩ := any_some c.hd
    refine Bool.eq_false_iff.mpr fun q => ?_
    obtain rfl : D = tp := Value.ref.inj (beq_iff_eq.mp q)
    unfold clsIn at hcd
    split at hcd
    · next ho =>
      have z := (KI _ _ ho).symm.trans htp
      cases z
    · cases hcd
  ca := fun KI I k => class_of c KI I k
end ExoX
section
variable {X : Cx}
def dIsiR (x y : D) (G : GHp) (Q : DK) : Prop := match tgOf G x, y with
  | some t, .ty c => Q (.bl (isA t c)) G
  | _, _ => False
theorem inst_exo {P : Program} {w : World} {H : Hp} {h : Heap} (hok : HOk P w H h) {a C dx : Addr} {xs : List (Str × V)} (e1 : H a = some (L2.exo a C (some dx))) (e2 : H dx = some (L2.exd dx xs)) : ∃ ox od, PySem.W.InstAt h a ox C (some od) := by
  have o1 := hok a _ e1
  have o2 := hok dx _ e2
  obtain ⟨⟨t1, h1⟩, _, _⟩ := o1
  obtain ⟨⟨mA, h2, _⟩, _, _⟩ := o2
  obtain ⟨od, ho, _⟩ := lookIn_ns h2
  exact ⟨_, od, h1, rfl, rfl, ho⟩
theorem dcall_isi : DCall X (.builtin "isinstance") (dR2 dIsiR) := by
  have base : DCall X (.builtin "isinstance") (dR2 fun x y G Q => dIsiR x y G Q ∧ tgOf G x ≠ some .exc) := dcall2 call_isi fun x y v u H G Z Q Q0 ok r1 r2 h k => by
    obtain ⟨h, hx⟩ := h
    unfold dIsiR at h
    split at h
    · next t c e =>
      cases r2
      have ht : t ≠ .exc := fun q => hx (by rw [e, q])
      exact ⟨v, _, _, _, _, rfl, .ty _, tg_of ok r1 e ht, kit_ty (kit_isA t c ht), k _ _ _ _ h .refl ok (.bl _)⟩
    · exact h.elim
  intro pins s σ H xs us Q I rv ⟨ds, G, Z, Q0, ok, rs, h, k⟩
  match ds, h, rs with
  | [x, y], h, rs =>
    by_cases hx : tgOf G x = some .exc
    · rcases rs with _ | ⟨r1, ra⟩
      rcases ra with _ | ⟨r2, rb⟩
      cases rb
      obtain ⟨a, C, dx, fs, rfl, f0, e1, e2⟩ := exo_of ok r1 hx
      have h : dIsiR x y G Q0 := h
      unfold dIsiR at h
      rw [hx] at h
      cases r2 with
      | ty c =>
        obtain ⟨u1, u2, rfl, q1, q2⟩ := vals2 rv
        obtain rfl : u1 = .ref a := q1
        obtain rfl : u2 = .type c.name := q2
        obtain ⟨ox, od, J⟩ := inst_exo I.hok e1 e2
        exact PySem.W.kia_one (ExoX.kitx f0.c) I.kIn J (f0.n c) (fun z => nomatch z) fun tk => ⟨.bl false, H, I.kept (t' := tk) fun _ _ z => z, rfl, k _ _ _ _ h .refl ok (.bl _)⟩
      | _ => exact h.elim
    · exact base pins s σ H xs us Q I rv ⟨[x, y], G, Z, Q0, ok, rs, ⟨h, hx⟩, k⟩
end
/-- isinstance(x, (c1, c2, ..)) with written classes -/
def tysT (cs : List Tg) : TE := fun _ H Q => ∀ p, H p = none → Q (.ref p) (upd H p (.tup (cs.map fun c => V.ty c.name)))
def dIsiT (cs : List Tg) (te : DTE) : DTE := fun δ G Q => te δ G fun x G1 => match tgOf G1 x with
  | some .exc => False
  | some t => Q (.bl (cs.any fun c => isA t c)) G1
  | none => False
theorem kitAny_of {K : PySem.W.Frag} {t : Tg} (ht : t ≠ .exc) : ∀ cs : List Tg, PySem.W.kitAny K (.type t.name) (cs.map fun c => Value.type c.name) = some (cs.any fun c => isA t c)
  | [] => kitAny_nil
  | c :: cs => by
    refine kitAny_cons (kit_ty (kit_isA t c ht)) (fun e => ?_) (fun e => ?_)
    · rw [kitAny_of ht cs, List.any_cons, e, Bool.false_or]
    · rw [List.any_cons, e, Bool.true_or]
section
variable {X : Cx} {p pos : Pos} {e tt : Expr} {te : DTE} {cs : List Tg}
theorem clsv_all : ∀ cs : List Tg, Paired ClsV (cs.map fun c => V.ty c.name) (cs.map fun c => Value.type c.name)
  | [] => .nil
  | c :: cs => .cons (.ty _) (clsv_all cs)
theorem de_isiT (he : DE X e te) (ht : PE X tt (tysT cs)) (hg : Gl X "isinstance") (hm : X.mg "isinstance" = none)
    (hs : starEach [e, tt] X.env = (false, eval e X.env) :: starEach [tt] X.env := by rfl) (hs2 : starEach [tt] X.env = (false, eval tt X.env) :: starEach [] X.env := by rfl) (hpl : (backTo pos (starEach [tt] X.env)).any (·.1) = false := by rfl) :
    DE X (.Call (.Name "isinstance" p) [e, tt] [] pos) (dIsiT cs te) :=
  PE.mono (pe_callB call_isiT hg hm (by decide +kernel) (pa_cons he (pa_cons ht pa_nil hs2) hs) (by decide) (by decide) hs hpl) fun σ H Q ⟨δ, G, Z, Q0, ok, rs, h, k⟩ =>
    ⟨δ, G, Z, _, ok, rs, h, fun x G1 v H1 h1 k1 ok1 r1 => fun p hp => by
      have h1 : (match tgOf G1 x with | some .exc => False | some t => Q0 (.bl (cs.any fun c => isA t c)) G1 | none => False) := h1
      split at h1
      · exact h1.elim
      · next t ht e =>
        have ht : t ≠ .exc := fun q => ht q
        have kl : Kp H1 G1 Z (upd H1 p (.tup (cs.map fun c => V.ty c.name))) G1 := Kp.laid hp
        have okl := ok1.laid (o := .tup (cs.map fun c => V.ty c.name)) hp
        exact ⟨v, p, _, _, _, _, rfl, upd_same, clsv_all cs, tg_of okl (r1.mono kl.keep) e ht, kitAny_of ht cs, k _ _ _ _ h1 (k1.trans kl) okl (.bl _)⟩
      · exact h1.elim⟩
/-- the tuple of written classes -/
theorem pa_tys : ∀ {es : List Expr} {cs : List Tg}, PA X es (fun _ H Q => Q (cs.map fun c => V.ty c.name) H) → cs.length ≤ sizeLine → ∀ {x1 : Nat} {pos : Pos}, PE X (.Tuple es x1 pos) (tysT cs) :=
  fun h hz _ _ => PE.mono (pe_tup h) fun σ H Q q => ⟨by rw [List.length_map]; exact hz, q⟩
theorem pa_ty0 : PA X [] (fun _ H Q => Q (([] : List Tg).map fun c => V.ty c.name) H) := pa_nil
theorem pa_tyc {es : List Expr} {c : Tg} {cs : List Tg} (h : PE X e (tC (.ty c.name))) (hr : PA X es (fun _ H Q => Q (cs.map fun c => V.ty c.name) H)) (hs : starEach (e :: es) X.env = (false, eval e X.env) :: starEach es X.env := by rfl) :
    PA X (e :: es) (fun _ H Q => Q ((c :: cs).map fun c => V.ty c.name) H) := pa_cons h hr hs
end

/-! ### in, not in -/
def flatD : D → Bool
  | .non => true
  | .bl _ => true
  | .int _ => true
  | .str _ => true
  | _ => false
def eqD : D → D → Bool
  | .non, .non => true
  | .bl a, .bl b => a == b
  | .bl a, .int b => (if a then 1 else 0) == b
  | .int a, .bl b => a == (if b then 1 else 0)
  | .int a, .int b => a == b
  | .str a, .str b => a == b
  | _, _ => false
theorem Rep.flat {K : PySem.W.Frag} {W : Hp} {x : D} {v : V} (r : Rep K W x v) (h : flatD x = true) : flatV v = true := by cases r <;> first | rfl | (simp [flatD] at h)
theorem Reps.flat {K : PySem.W.Frag} {W : Hp} : ∀ {ds : List D} {vs : List V}, Reps K W ds vs → ds.all flatD = true → vs.all flatV = true
  | _, _, .nil, _ => rfl
  | _, _, .cons h r, e => by
    rw [List.all_cons, Bool.and_eq_true] at e ⊢
    exact ⟨h.flat e.1, Reps.flat r e.2⟩
theorem Rep.eqD {K : PySem.W.Frag} {W : Hp} {x y : D} {v u : V} (r : Rep K W x v) (q : Rep K W y u) (hx : flatD x = true) (hy : flatD y = true) : eqV v u = DL.eqD x y := by
  cases r <;> cases q <;> first | rfl | (simp [flatD] at hx) | (simp [flatD] at hy)
def inD (x : D) (ds : List D) : Bool := ds.any fun y => eqD y x
theorem inD_of {K : PySem.W.Frag} {W : Hp} {x : D} {v : V} (r : Rep K W x v) (hx : flatD x = true) : ∀ {ds : List D} {vs : List V}, Reps K W ds vs → ds.all flatD = true → inV v vs = inD x ds
  | _, _, .nil, _ => rfl
  | _, _, .cons h q, e => by
    rw [List.all_cons, Bool.and_eq_true] at e
    have ih := inD_of r hx q e.2
    unfold inV inD at *
    rw [List.any_cons, List.any_cons, ih, h.eqD r e.1 hx]
/-- flat things in a list or tuple; one sign in a text -/
def dInR (neg : Bool) : DR2 := fun x y G Q => match y with
  | .str z => ∃ c, x = .str ⟨#[c]⟩ ∧ Q (.bl (if neg then !decide (c ∈ z.cps.toList) else decide (c ∈ z.cps.toList))) G
  | y => match sqOf G y with
    | some ds => flatD x = true ∧ ds.all flatD = true ∧ Q (.bl (if neg then !inD x ds else inD x ds)) G
    | none => False
section
variable {X : Cx}
theorem in_flat {K : PySem.W.Frag} {H : Hp} {G : GHp} {Z : Addr → Bool} {x y : D} {v u : V} {neg : Bool} {Q : VK} {Q0 : DK} (ok : Ok K H G Z) (r1 : Rep K (U H G Z) x v) (r2 : Rep K (U H G Z) y u)
    (h : match sqOf G y with
      | some ds => flatD x = true ∧ ds.all flatD = true ∧ Q0 (.bl (if neg then !inD x ds else inD x ds)) G
      | none => False) (k : ∀ d G' v' H', Q0 d G' → Kp H G Z H' G' → Ok K H' G' Z → Rep K (U H' G' Z) d v' → Q v' H') : rIn K neg v u H Q := by
  have lst : (match lsOf G y with
      | some ds => flatD x = true ∧ ds.all flatD = true ∧ Q0 (.bl (if neg then !inD x ds else inD x ds)) G
      | none => False) → rIn K neg v u H Q := by
    intro h
    split at h
    · next ds e =>
      obtain ⟨a, vs, rfl, ha, ra⟩ := lsOf_of ok r2 e
      exact ⟨a, vs, rfl, .inl (SqL.of ha), r1.flat h.1, ra.flat h.2.1, k _ _ _ _ h.2.2 .refl ok (by rw [inD_of r1 h.1 ra h.2.1]; exact .bl _)⟩
    · exact h.elim
  cases r2 with
  | tup q s => exact ⟨_, _, rfl, .inr (TupAt.sq U_le q), r1.flat h.1, s.flat h.2.1, k _ _ _ _ h.2.2 .refl ok (by rw [inD_of r1 h.1 s h.2.1]; exact .bl _)⟩
  | _ => exact lst h
theorem dop_in : DOp X (compareOp .In) (dInR false) :=
  OpR.imp (OpR.or op_in_sign op_in_seq) fun v u H Q ⟨x, y, G, Z, Q0, ok, r1, r2, h, k⟩ => by
    cases r2 with
    | str z =>
      obtain ⟨c, rfl, q⟩ := h
      cases r1
      exact .inl ⟨c, z, rfl, rfl, k _ _ _ _ q .refl ok (.bl _)⟩
    | non => exact .inr (in_flat ok r1 .non h k)
    | bl b => exact .inr (in_flat ok r1 (.bl b) h k)
    | int b => exact .inr (in_flat ok r1 (.int b) h k)
    | ty b => exact .inr (in_flat ok r1 (.ty b) h k)
    | scr q s => exact .inr (in_flat ok r1 (.scr q s) h k)
    | ref b => exact .inr (in_flat ok r1 (.ref b) h k)
    | tup q s => exact .inr (in_flat ok r1 (.tup q s) h k)
    | lst q s => exact .inr (in_flat ok r1 (.lst q s) h k)
    | dct q e s => exact .inr (in_flat ok r1 (.dct q e s) h k)
    | dcT q e s => exact .inr (in_flat ok r1 (.dcT q e s) h k)
theorem dop_notIn : DOp X (compareOp .NotIn) (dInR true) :=
  OpR.imp (OpR.or op_notIn_sign op_notIn_seq) fun v u H Q ⟨x, y, G, Z, Q0, ok, r1, r2, h, k⟩ => by
    cases r2 with
    | str z =>
      obtain ⟨c, rfl, q⟩ := h
      cases r1
      exact .inl ⟨c, z, rfl, rfl, k _ _ _ _ q .refl ok (.bl _)⟩
    | non => exact .inr (in_flat ok r1 .non h k)
    | bl b => exact .inr (in_flat ok r1 (.bl b) h k)
    | int b => exact .inr (in_flat ok r1 (.int b) h k)
    | ty b => exact .inr (in_flat ok r1 (.ty b) h k)
    | scr q s => exact .inr (in_flat ok r1 (.scr q s) h k)
    | ref b => exact .inr (in_flat ok r1 (.ref b) h k)
    | tup q s => exact .inr (in_flat ok r1 (.tup q s) h k)
    | lst q s => exact .inr (in_flat ok r1 (.lst q s) h k)
    | dct q e s => exact .inr (in_flat ok r1 (.dct q e s) h k)
    | dcT q e s => exact .inr (in_flat ok r1 (.dcT q e s) h k)
end

/-! ### methods of lists -/
abbrev DMt := D → List D → GHp → DK → Prop
def cMt (K : PySem.W.Frag) (r : DMt) : V → List V → Hp → VK → Prop := fun v us H Q => ∃ (x : D) (ds : List D) (G : GHp) (Z : Addr → Bool) (Q0 : DK), Ok K H G Z ∧ Rep K (U H G Z) x v ∧ Reps K (U H G Z) ds us ∧ r x ds G Q0 ∧
  ∀ d G' v' H', Q0 d G' → Kp H G Z H' G' → Ok K H' G' Z → Rep K (U H' G' Z) d v' → Q v' H'
theorem MtR.imp {X : Cx} {id : String} {r r' : V → List V → Hp → VK → Prop} (ho : MtR X id r) (h : ∀ x xs H Q, r' x xs H Q → r x xs H Q) : MtR X id r' := fun pins s σ H x xs v us Q I rx rs q => ho pins s σ H x xs v us Q I rx rs (h x xs H Q q)
/-- the receiver is a list -/
def dMtL (r : DMt) (to : DTE) (t : DTA) : DTE := fun δ G Q => to δ G fun x G1 => match lsOf G1 x with
  | some _ => t δ G1 fun ds G2 => r x ds G2 Q
  | none => False
section
variable {X : Cx} {o e : Expr} {es : List Expr} {to : DTE} {t : DTA} {name : Str} {apos cpos : Pos} {id : String} {r : DMt}
theorem de_mtL (slot : Slot "list" name id) (hty : typeOf (.builtin id) = pure (.type "method_descriptor")) (hm : MtR X id (cMt X.K r)) (ho : DE X o to) (ha : DA X (e :: es) t)
    (hbase : attributeBase o name X.env (eval o X.env) = eval o X.env := by rfl)
    (hfew : ((backTo cpos (starEach (e :: es) X.env)).all (fun x => !x.1) && (backToKw cpos (keywordEach [] X.env)).all (fun x => x.1.isSome)
      && decide ((e :: es).length + ([] : List Keyword).length + (if ([] : List Keyword).isEmpty then 0 else 1) < 30)) = true := by rfl)
    (hline : (apos.endLine == cpos.line) = true := by rfl) (hs : starEach (e :: es) X.env = (false, eval e X.env) :: starEach es X.env := by rfl) (hplain : (backTo cpos (starEach es X.env)).any (·.1) = false := by rfl) :
    DE X (.Call (.Attribute o name apos) (e :: es) [] cpos) (dMtL r to t) :=
  PE.mono (pe_bm PySem.F.plainAttrs_list slot hty hm ho ha hbase hfew hline hs hplain) fun σ H Q ⟨δ, G, Z, Q0, ok, rs, h, k⟩ =>
    ⟨δ, G, Z, _, ok, rs, h, fun x G1 v H1 h1 k1 ok1 r1 => by
      have h1 : (match lsOf G1 x with | some _ => t δ G1 fun ds G2 => r x ds G2 Q0 | none => False) := h1
      split at h1
      · next ds0 e =>
        obtain ⟨a, vs, rfl, ha, ra⟩ := lsOf_of ok1 r1 e
        exact ⟨.inl ⟨rfl, vs, SqL.of ha⟩, δ, G1, Z, _, ok1, rs.mono k1.keep, h1, fun ds G2 us H2 h2 k2 ok2 r2 => ⟨x, ds, G2, Z, Q0, ok2, r1.mono k2.keep, r2, h2, fun d G' v' H' q k3 ok3 r3 => k _ _ _ _ q (k1.trans (k2.trans k3)) ok3 r3⟩⟩
      · exact h1.elim⟩
theorem de_mtL0 (slot : Slot "list" name id) (hty : typeOf (.builtin id) = pure (.type "method_descriptor")) (hm : MtR X id (cMt X.K r)) (ho : DE X o to)
    (hbase : attributeBase o name X.env (eval o X.env) = eval o X.env := by rfl) (hline : (apos.endLine == cpos.line) = true := by rfl) : DE X (.Call (.Attribute o name apos) [] [] cpos) (dMtL r to dNil) :=
  PE.mono (pe_bm0 PySem.F.plainAttrs_list slot hty hm ho hbase hline) fun σ H Q ⟨δ, G, Z, Q0, ok, rs, h, k⟩ =>
    ⟨δ, G, Z, _, ok, rs, h, fun x G1 v H1 h1 k1 ok1 r1 => by
      have h1 : (match lsOf G1 x with | some _ => r x [] G1 Q0 | none => False) := h1
      split at h1
      · next ds0 e =>
        obtain ⟨a, vs, rfl, ha, ra⟩ := lsOf_of ok1 r1 e
        exact ⟨.inl ⟨rfl, vs, SqL.of ha⟩, x, [], G1, Z, Q0, ok1, r1, .nil, h1, fun d G' v' H' q k3 ok3 r3 => k _ _ _ _ q (k1.trans k3) ok3 r3⟩
      · exact h1.elim⟩
/-- the tracked list itself -/
def onL (x : D) (G : GHp) (f : Addr → List D → Prop) : Prop := match x with
  | .ref a => match G a with
    | some (.lst ds) => f a ds
    | _ => False
  | _ => False
theorem onL_inv {x : D} {G : GHp} {f : Addr → List D → Prop} (h : onL x G f) : ∃ a ds, x = .ref a ∧ G a = some (.lst ds) ∧ f a ds := by
  cases x with
  | ref a =>
    unfold onL at h
    simp only at h
    cases e : G a with
    | none => rw [e] at h; exact h.elim
    | some o =>
      rw [e] at h
      cases o with
      | lst ds => exact ⟨a, ds, rfl, e, h⟩
      | _ => exact h.elim
  | _ => exact False.elim h
theorem wrote_l {K : PySem.W.Frag} {H : Hp} {G : GHp} {Z : Addr → Bool} {a : Addr} {ds ds' : List D} {vs' : List V} (ok : Ok K H G Z) (e : G a = some (.lst ds)) (r : Reps K (U H G Z) ds' vs') :
    Kp H G Z (upd H a (.lst vs')) (gupd G a (.lst ds')) ∧ Ok K (upd H a (.lst vs')) (gupd G a (.lst ds')) Z := by
  have hz := (ok.ok a _ e).1
  have kk : Kp H G Z (upd H a (.lst vs')) (gupd G a (.lst ds')) := Kp.wrote e hz
  exact ⟨kk, ok.wrote e ⟨_, upd_same, r.mono kk.keep⟩⟩
def dAppend : DMt := fun x ds G Q => match ds with
  | [y] => onL x G fun a xs => xs.length < sizeLine ∧ Q .non (gupd G a (.lst (xs ++ [y])))
  | _ => False
theorem dmt_append : MtR X "list.append" (cMt X.K dAppend) :=
  MtR.imp mt_append fun v us H Q ⟨x, ds, G, Z, Q0, ok, r, rs, h, k⟩ => by
    rcases rs with _ | ⟨r1, rs⟩
    · exact False.elim h
    rcases rs with _ | ⟨r2, rs⟩
    · obtain ⟨a, xs, rfl, e, h1, h2⟩ := onL_inv h
      cases r
      obtain ⟨hz, vs, hv, rv⟩ := ok.ok a _ e
      obtain ⟨kk, ok'⟩ := wrote_l ok e (rv.append (.cons r1 .nil))
      exact ⟨a, vs, _, rfl, rfl, hv, by rw [← rv.length]; exact h1, k _ _ _ _ h2 kk ok' .non⟩
    · exact False.elim h
def dExtend : DMt := fun x ds G Q => match ds with
  | [y] => onL x G fun a xs => match lsOf G y with
    | some zs => xs.length + zs.length ≤ sizeLine ∧ Q .non (gupd G a (.lst (xs ++ zs)))
    | none => False
  | _ => False
theorem dmt_extend : MtR X "list.extend" (cMt X.K dExtend) :=
  MtR.imp mt_extend fun v us H Q ⟨x, ds, G, Z, Q0, ok, r, rs, h, k⟩ => by
    rcases rs with _ | ⟨r1, rs⟩
    · exact False.elim h
    rcases rs with _ | ⟨r2, rs⟩
    · obtain ⟨a, xs, rfl, e, h⟩ := onL_inv h
      split at h
      · next zs ez =>
        cases r
        obtain ⟨hz, vs, hv, rv⟩ := ok.ok a _ e
        obtain ⟨b, us, rfl, hb, rb⟩ := lsOf_of ok r1 ez
        obtain ⟨kk, ok'⟩ := wrote_l ok e (rv.append rb)
        exact ⟨a, b, vs, us, rfl, rfl, hv, hb, by rw [← rv.length, ← rb.length]; exact h.1, k _ _ _ _ h.2 kk ok' .non⟩
      · exact h.elim
    · exact False.elim h
/-- xs.pop(), xs.pop(i) -/
def dPop : DMt := fun x ds G Q => match ds with
  | [] => onL x G fun a xs => match xs[xs.length - 1]? with
    | some y => Q y (gupd G a (.lst xs.dropLast))
    | none => False
  | [.int i] => onL x G fun a xs => match ixN xs.length i with
    | some j => match xs[j]? with
      | some y => -(2 ^ 63) ≤ i ∧ i < 2 ^ 63 ∧ Q y (gupd G a (.lst (xs.eraseIdx j)))
      | none => False
    | none => False
  | _ => False
theorem Reps.eraseIdx {K : PySem.W.Frag} {W : Hp} : ∀ {ds : List D} {vs : List V} (i : Nat), Reps K W ds vs → Reps K W (ds.eraseIdx i) (vs.eraseIdx i)
  | _, _, _, .nil => .nil
  | _, _, 0, .cons h r => r
  | _, _, i + 1, .cons h r => .cons h (Reps.eraseIdx i r)
theorem Reps.dropLast {K : PySem.W.Frag} {W : Hp} {ds : List D} {vs : List V} (r : Reps K W ds vs) : Reps K W ds.dropLast vs.dropLast := by
  rw [List.dropLast_eq_take, List.dropLast_eq_take, r.length]
  exact r.take _
theorem dmt_pop : MtR X "list.pop" (cMt X.K dPop) :=
  MtR.imp (MtR.or mt_pop mt_popAt) fun v us H Q ⟨x, ds, G, Z, Q0, ok, r, rs, h, k⟩ => by
    rcases rs with _ | ⟨r1, rs⟩
    · obtain ⟨a, xs, rfl, e, h⟩ := onL_inv h
      split at h
      · next y ey =>
        cases r
        obtain ⟨hz, vs, hv, rv⟩ := ok.ok a _ e
        obtain ⟨w, e1, r1⟩ := rv.get ey
        obtain ⟨kk, ok'⟩ := wrote_l ok e rv.dropLast
        exact .inl ⟨a, vs, w, rfl, rfl, hv, by rw [← rv.length]; exact e1, k _ _ _ _ h kk ok' (r1.mono kk.keep)⟩
      · exact h.elim
    rcases rs with _ | ⟨r2, rs⟩
    · cases r1 with
      | int i =>
        obtain ⟨a, xs, rfl, e, h⟩ := onL_inv h
        split at h
        · next j ej =>
          split at h
          · next y ey =>
            cases r
            obtain ⟨hz, vs, hv, rv⟩ := ok.ok a _ e
            obtain ⟨w, e1, r1⟩ := rv.get ey
            obtain ⟨kk, ok'⟩ := wrote_l ok e (rv.eraseIdx j)
            obtain ⟨s1, s2, s3, s4⟩ := ixN_seq ej
            exact .inr ⟨a, vs, i, j, w, rfl, rfl, hv, h.1, h.2.1, by rw [← rv.length]; exact s1, e1, k _ _ _ _ h.2.2 kk ok' (r1.mono kk.keep)⟩
          · exact h.elim
        · exact h.elim
      | _ => exact False.elim h
    · cases r1 <;> exact False.elim h
def dReverse : DMt := fun x ds G Q => match ds with
  | [] => onL x G fun a xs => Q .non (gupd G a (.lst xs.reverse))
  | _ => False
theorem dmt_reverse : MtR X "list.reverse" (cMt X.K dReverse) :=
  MtR.imp mt_reverse fun v us H Q ⟨x, ds, G, Z, Q0, ok, r, rs, h, k⟩ => by
    rcases rs with _ | ⟨r1, rs⟩
    · obtain ⟨a, xs, rfl, e, h⟩ := onL_inv h
      cases r
      obtain ⟨hz, vs, hv, rv⟩ := ok.ok a _ e
      obtain ⟨kk, ok'⟩ := wrote_l ok e rv.reverse
      exact ⟨a, vs, rfl, rfl, hv, k _ _ _ _ h kk ok' .non⟩
    · exact False.elim h
def dClear : DMt := fun x ds G Q => match ds with
  | [] => onL x G fun a _ => Q .non (gupd G a (.lst []))
  | _ => False
theorem dmt_clear : MtR X "list.clear" (cMt X.K dClear) :=
  MtR.imp mt_clear fun v us H Q ⟨x, ds, G, Z, Q0, ok, r, rs, h, k⟩ => by
    rcases rs with _ | ⟨r1, rs⟩
    · obtain ⟨a, xs, rfl, e, h⟩ := onL_inv h
      cases r
      obtain ⟨hz, vs, hv, rv⟩ := ok.ok a _ e
      obtain ⟨kk, ok'⟩ := wrote_l ok e .nil
      exact ⟨a, vs, rfl, rfl, hv, k _ _ _ _ h kk ok' .non⟩
    · exact False.elim h
end
end DL
set_option Elab.async false
set_option linter.all false
set_option maxRecDepth 100000
set_option maxHeartbeats 1000000
/-! DL, part 6: keywords alone, more statements, defs by their number of parameters, the law's end. -/
namespace DL
open PySem PySem.Spec L2

/-! ### keywords -/
/-- the values in the parameters' order -/
def kperm {α : Type} (ix : List Nat) (us ws : List α) : List α := ix.filterMap fun i => (us ++ ws)[i]?
theorem Reps.pick {K : PySem.W.Frag} {W : Hp} {ds : List D} {vs : List V} (r : Reps K W ds vs) : ∀ ix : List Nat, Reps K W (ix.filterMap fun i => ds[i]?) (ix.filterMap fun i => vs[i]?)
  | [] => .nil
  | i :: ix => by
    have ih := Reps.pick r ix
    rw [List.filterMap_cons, List.filterMap_cons]
    cases e : ds[i]? with
    | none =>
      have e2 : vs[i]? = none := by
        rw [List.getElem?_eq_none_iff] at e ⊢
        rw [← r.length]; exact e
      rw [e2]; exact ih
    | some d =>
      obtain ⟨v, e2, r2⟩ := r.get e
      rw [e2]; exact .cons r2 ih
theorem Reps.kperm {K : PySem.W.Frag} {W : Hp} (ix : List Nat) {ds es : List D} {vs us : List V} (r : Reps K W ds vs) (q : Reps K W es us) : Reps K W (DL.kperm ix ds es) (DL.kperm ix vs us) := (r.append q).pick ix
theorem Vals.pick {vs : List V} {us : List Value} (r : Vals vs us) : ∀ ix : List Nat, Vals (ix.filterMap fun i => vs[i]?) (ix.filterMap fun i => us[i]?)
  | [] => .nil
  | i :: ix => by
    have ih := Vals.pick r ix
    rw [List.filterMap_cons, List.filterMap_cons]
    cases e : vs[i]? with
    | none => rw [r.none_of e]; exact ih
    | some d =>
      obtain ⟨v, e2, r2⟩ := r.get e
      rw [e2]; exact .cons r2 ih
/-- a plain def called with keywords -/
theorem kbn_of {K : PySem.W.Frag} {fd : FuncData} {ps ks : List Str} {n : Nat} (ix : List Nat) (h : ∀ (s : Shared) (us ws : List Value), us.length = n → ws.length = ks.length → BindsTo s fd ⟨us, ks.zip ws⟩ (ps.zip (kperm ix us ws))) : KBn K fd ps n ks (kperm ix) (kperm ix) :=
  ⟨fun s us ws _ h1 h2 => h s us ws h1 h2, fun r z => Vals.pick (Vals.append r z) ix⟩
section
variable {X : Cx} {CX : CXT} {k : Nat} {f C : Addr} {fd : FuncData} {ps ks : List Str} {E : XK} {x m : Str} {p pos apos : Pos} {e o : Expr} {es : List Expr} {kws : List Keyword}
theorem pe_callN0 {sp : Sp} {tk : TA} {g : List Value → List Value → List Value} {gV : List V → List V → List V} (F : FnOk X.prog X.w X.K X.mg X.base CX k f fd ps sp) (hr : Room k X.A) (hg : Gl X x) (hm : X.mg x = some (.ref f)) (hk : PySem.W.keepIn X.K (.ref f) = true) (hb : KBn X.K fd ps 0 ks g gV) (hx : Passes CX X E)
    (hkw : PK X kws tk) (hall : (backToKw pos (keywordEach kws X.env)).all (·.1.isSome) = true := by rfl) (hks : (backToKw pos (keywordEach kws X.env)).filterMap (·.1) = ks := by rfl)
    (hdb : (x == ("__debug__" : Str)) = false := by decide) (hpl : ((backTo pos (starEach [] X.env)).any (·.1) || (backToKw pos (keywordEach kws X.env)).any (·.1.isNone)) = false := by rfl) :
    PE X (.Call (.Name x p) [] kws pos) (fun σ H Q => tk σ H fun zs H2 => zs.length = ks.length ∧ sp (gV [] zs) H2 Q E) := by
  constructor
  intro pins s σ H Q I h
  apply wpAny_Call_Name_kw
  apply ld_glob I hg hm _ hdb
  apply PySem.W.callWith_KW0 (h₀ := X.base) I.ok.mod.kin hk hall _ hpl
  refine thn (hkw.run pos pins s σ H _ I h) fun ws s2 ⟨zs, H2, I2, rz, l2, q2⟩ => ⟨I2.kIn, ?_⟩
  rw [hks]
  exact run_fnN (us := []) F hr hb hx I2 .nil rz rfl l2 q2
theorem de_callN0 {sp : DSp} {tk : DTA} {g : List Value → List Value → List Value} {gV : List V → List V → List V} {gD : List D → List D → List D} (F : FnOk X.prog X.w X.K X.mg X.base CX k f fd ps (cSp X.K sp)) (hr : Room k X.A) (hg : Gl X x) (hm : X.mg x = some (.ref f)) (hk : PySem.W.keepIn X.K (.ref f) = true) (hb : KBn X.K fd ps 0 ks g gV)
    (hgD : ∀ W ds vs es us, Reps X.K W ds vs → Reps X.K W es us → Reps X.K W (gD ds es) (gV vs us)) (hx : Passes CX X E)
    (hkw : DKw X kws tk) (hall : (backToKw pos (keywordEach kws X.env)).all (·.1.isSome) = true := by rfl) (hks : (backToKw pos (keywordEach kws X.env)).filterMap (·.1) = ks := by rfl)
    (hdb : (x == ("__debug__" : Str)) = false := by decide) (hpl : ((backTo pos (starEach [] X.env)).any (·.1) || (backToKw pos (keywordEach kws X.env)).any (·.1.isNone)) = false := by rfl) :
    DE X (.Call (.Name x p) [] kws pos) (dCallN 0 ks.length sp gD dNil tk) :=
  PE.mono (pe_callN0 F hr hg hm hk hb hx hkw hall hks hdb hpl) fun σ H Q ⟨δ, G, Z, Q0, ok, rs, h, k⟩ =>
    ⟨δ, G, Z, _, ok, rs, h, fun es G2 us H2 h2 k2 ok2 r2 => ⟨r2.length.symm.trans h2.2.1, _, G2, Z, Q0, _, ok2, hgD _ _ _ _ _ .nil r2, h2.2.2, fun d G' v H' q k3 ok3 r3 => k _ _ _ _ q (k2.trans k3) ok3 r3, .none⟩⟩
end

/-! ### more statements -/
section
variable {X : Cx} {e : Expr} {te : DTE} {pos : Pos}
/-- name op= e -/
def dAug (i : Nat) (te : DTE) (r : DR2) : DTS := fun D δ G => match δ[i]? with
  | some (some x) => te δ G fun y G1 => r x y G1 fun z G2 => D.nx (δ.set i (some z)) G2
  | _ => False
theorem ds_aug {i : Nat} {x : Str} {op : Operator} {r : DR2} {pos' : Pos} (hN : X.N.Nodup) (hi : X.N[i]? = some x) (hx : Loc X.env.scope x) (he : DE X e te) (ho : DOp X (inplaceOp op) r) (hf : X.fn x = true ∨ X.env.scope.names.lookup x = some .local := by first | exact .inl rfl | exact .inr rfl | assumption) :
    DS X W (.AugAssign (.Name x pos') op e pos) (dAug i te r) :=
  PS.mono (ps_aug hN hi hx he (show PIp X op (cR2 X.K r) from ho) hf) fun E σ H ⟨δ, G, Z, D0, ok, rs, h, l⟩ => by
    unfold dAug at h
    split at h
    · next d ed =>
      obtain ⟨v, ev, rv⟩ := rs.get ed
      exact ⟨v, ev, δ, G, Z, _, ok, rs, h, fun y G1 u H1 h1 k1 ok1 r1 => ⟨d, y, G1, Z, _, ok1, rv.mono k1.keep, r1, h1, fun z G2 w H2 h2 k2 ok2 r2 => l.nx _ _ _ _ h2 (k1.trans k2) ok2 ((rs.mono (k1.trans k2).keep).set r2 i)⟩⟩
    · exact h.elim
/-- a, b, c = x, y, z -/
def dPar3 (i j l : Nat) (ta : DTA) : DTS := fun D δ G => ta δ G fun ds G1 => match ds with
  | [u, v, w] => D.nx (((δ.set i (some u)).set j (some v)).set l (some w)) G1
  | _ => False
theorem ds_par3 {i j l : Nat} {x y z : Str} {a b c : Expr} {ta : DTA} {px py pz pt : Pos} {kt k2 pt2} (hc : X.calm = true) (hN : X.N.Nodup) (hi : X.N[i]? = some x) (hj : X.N[j]? = some y) (hl : X.N[l]? = some z) (hij : i ≠ j) (hil : i ≠ l) (hjl : j ≠ l)
    (hx : X.env.scope.names.lookup x = some .local) (hy : X.env.scope.names.lookup y = some .local) (hz : X.env.scope.names.lookup z = some .local) (ha : DA X [a, b, c] ta)
    (hw : swappedStores [.Tuple [.Name x px, .Name y py, .Name z pz] kt pt] (.Tuple [a, b, c] k2 pt2) X.env = pure (some [x, y, z]))
    (hs : swapsWithSole [.Tuple [.Name x px, .Name y py, .Name z pz] kt pt] (.Tuple [a, b, c] k2 pt2) pos.line X.env = pure false := by rfl) :
    DS X W (.Assign [.Tuple [.Name x px, .Name y py, .Name z pz] kt pt] (.Tuple [a, b, c] k2 pt2) pos) (dPar3 i j l ta) :=
  PS.mono (ps_par3 hc hN hi hj hl hij hil hjl hx hy hz ha hw hs) fun E σ H ⟨δ, G, Z, D0, ok, rs, h, l⟩ =>
    ⟨δ, G, Z, _, ok, rs, h, fun ds G1 vs H1 h1 k1 ok1 r1 => by
      rcases r1 with _ | ⟨ra, r1⟩
      · exact False.elim h1
      rcases r1 with _ | ⟨rb, r1⟩
      · exact False.elim h1
      rcases r1 with _ | ⟨rc, r1⟩
      · exact False.elim h1
      rcases r1 with _ | ⟨rd, r1⟩
      · exact ⟨_, _, _, rfl, l.nx _ _ _ _ h1 k1 ok1 ((((rs.mono k1.keep).set ra _).set rb _).set rc _)⟩
      · exact False.elim h1⟩
/-- list(range(..)) -/
def dListRg1 (m : Bool) (ta : DTE) : DTE := fun δ G Q => ta δ G fun x G1 => match x with
  | .int n => RgOk 0 n ∧ lcEnd m (rngD 0 n.toNat) G1 Q
  | _ => False
def dListRg2 (m : Bool) (ta tb : DTE) : DTE := fun δ G Q => ta δ G fun x G1 => tb δ G1 fun y G2 => match x, y with
  | .int i, .int j => RgOk i j ∧ lcEnd m (rngD i (j - i).toNat) G2 Q
  | _, _ => False
theorem rg_rep {K : PySem.W.Frag} {W : Hp} (a b : Int) : Reps K W (rngD a (b - a).toNat) (rgV a b) := by
  unfold rngD rgV
  have e1 : (List.range (b - a).toNat).map (fun (i : Nat) => D.int (a + i)) = ((List.range (b - a).toNat).map fun (i : Nat) => (a + i : Int)).map D.int := by rw [List.map_map]; rfl
  have e2 : (List.range (b - a).toNat).map (fun (i : Nat) => V.int (a + i)) = ((List.range (b - a).toNat).map fun (i : Nat) => (a + i : Int)).map V.int := by rw [List.map_map]; rfl
  rw [e1, e2]
  exact Reps.of_ints _
theorem de_listRg1 (m : Bool) {a : Expr} {ta : DTE} {p p2 pos2 : Pos} (hc : X.calm = true) (hg : Gl X "list") (hm : X.mg "list" = none) (hg2 : Gl X "range") (hm2 : X.mg "range" = none) (ha : DE X a ta)
    (na : starEach [a] X.env = (false, eval a X.env) :: starEach [] X.env := by rfl) (nl : starEach [Expr.Call (.Name "range" p2) [a] [] pos2] X.env = (false, eval (.Call (.Name "range" p2) [a] [] pos2) X.env) :: starEach [] X.env := by rfl) :
    DE X (.Call (.Name "list" p) [.Call (.Name "range" p2) [a] [] pos2] [] pos) (dListRg1 m ta) :=
  PE.mono (pe_listRg hc hg hm (prg_1 hg2 hm2 ha na) nl) fun σ H Q ⟨δ, G, Z, Q0, ok, rs, h, k⟩ =>
    ⟨δ, G, Z, _, ok, rs, h, fun x G1 v H1 h1 k1 ok1 r1 => by
      cases r1 with
      | int n =>
        have h1 : RgOk 0 n ∧ lcEnd m (rngD 0 n.toNat) G1 Q0 := h1
        refine ⟨n, rfl, h1.1, fun q hq => lcEnd_of (m := m) ok1 hq (rg_rep 0 n) ?_ fun d G' v' H' q k2 ok2 r2 => k _ _ _ _ q (k1.trans k2) ok2 r2⟩
        rw [show (n - 0) = n by omega]
        exact h1.2
      | _ => exact False.elim h1⟩
theorem de_listRg2 (m : Bool) {a b : Expr} {ta tb : DTE} {p p2 pos2 : Pos} (hc : X.calm = true) (hg : Gl X "list") (hm : X.mg "list" = none) (hg2 : Gl X "range") (hm2 : X.mg "range" = none) (ha : DE X a ta) (hb : DE X b tb)
    (na : starEach [a, b] X.env = (false, eval a X.env) :: starEach [b] X.env := by rfl) (nb : starEach [b] X.env = (false, eval b X.env) :: starEach [] X.env := by rfl) (hp : (backTo pos2 (starEach [b] X.env)).any (·.1) = false := by rfl)
    (nl : starEach [Expr.Call (.Name "range" p2) [a, b] [] pos2] X.env = (false, eval (.Call (.Name "range" p2) [a, b] [] pos2) X.env) :: starEach [] X.env := by rfl) :
    DE X (.Call (.Name "list" p) [.Call (.Name "range" p2) [a, b] [] pos2] [] pos) (dListRg2 m ta tb) :=
  PE.mono (pe_listRg hc hg hm (prg_2 hg2 hm2 ha hb na nb hp) nl) fun σ H Q ⟨δ, G, Z, Q0, ok, rs, h, k⟩ =>
    ⟨δ, G, Z, _, ok, rs, h, fun x G1 v H1 h1 k1 ok1 r1 => ⟨δ, G1, Z, _, ok1, rs.mono k1.keep, h1, fun y G2 u H2 h2 k2 ok2 r2 => by
      cases r1 with
      | int i =>
        cases r2 with
        | int j => exact ⟨i, j, rfl, rfl, h2.1, fun q hq => lcEnd_of ok2 hq (rg_rep i j) h2.2 fun d G' v' H' q k3 ok3 r3 => k _ _ _ _ q (k1.trans (k2.trans k3)) ok3 r3⟩
        | _ => exact False.elim h2
      | _ => cases r2 <;> exact False.elim h2⟩⟩
/-- str(n) -/
def dStrR (x : D) (G : GHp) (Q : DK) : Prop := match x with
  | .int i => i.natAbs.log2 < 1920 ∧ Q (.str (toString i)) G
  | _ => False
theorem dcall_str : DCall X (.type "str") (dR1 dStrR) :=
  dcall1 call_str_int fun x v H G Z Q Q0 ok r h k => by
    cases r with
    | int i => exact ⟨i, rfl, h.1, k _ _ _ _ h.2 .refl ok (.str _)⟩
    | _ => exact False.elim h
/-- sep.join(a list of texts) -/
def strsOf : List D → Option (List Str)
  | [] => some []
  | .str i :: r => (strsOf r).map (i :: ·)
  | _ :: _ => none
theorem strsOf_map : ∀ ns : List Str, strsOf (ns.map D.str) = some ns
  | [] => rfl
  | n :: r => by simp [strsOf, strsOf_map r]
theorem strsOf_eq : ∀ {ds : List D} {ns : List Str}, strsOf ds = some ns → ds = ns.map D.str
  | [], ns, e => by simp [strsOf] at e; subst e; rfl
  | d :: r, ns, e => by
    cases d with
    | str i =>
      simp only [strsOf] at e
      cases q : strsOf r with
      | none => rw [q] at e; simp at e
      | some ms =>
        rw [q] at e
        simp at e
        subst e
        rw [List.map_cons, ← strsOf_eq q]
    | _ => simp [strsOf] at e
def dJoin (to te : DTE) : DTE := fun δ G Q => to δ G fun x G1 => match x with
  | .str a => te δ G1 fun y G2 => match (lsOf G2 y).bind strsOf with
    | some ys => (ys.map (·.length)).sum + ys.length * a.length ≤ 16777216 ∧ Q (.str (Txt.join a ys)) G2
    | none => False
  | _ => False
theorem de_join {o : Expr} {to : DTE} {apos : Pos} (ho : DE X o to) (he : DE X e te) (hs : starEach [e] X.env = [(false, eval e X.env)] := by rfl) (hbase : attributeBase o "join" X.env (eval o X.env) = eval o X.env := by rfl) (hline : (apos.endLine == pos.line) = true := by rfl) :
    DE X (.Call (.Attribute o "join" apos) [e] [] pos) (dJoin to te) :=
  PE.mono (pe_join ho he hs hbase hline) fun σ H Q ⟨δ, G, Z, Q0, ok, rs, h, k⟩ =>
    ⟨δ, G, Z, _, ok, rs, h, fun x G1 v H1 h1 k1 ok1 r1 => by
      cases r1 with
      | str a =>
        refine ⟨⟨a, rfl⟩, δ, G1, Z, _, ok1, rs.mono k1.keep, h1, fun y G2 u H2 h2 k2 ok2 r2 => ?_⟩
        have h2 : (match (lsOf G2 y).bind strsOf with
          | some ys => (ys.map (·.length)).sum + ys.length * a.length ≤ 16777216 ∧ Q0 (.str (Txt.join a ys)) G2
          | none => False) := h2
        split at h2
        · next ys e =>
          cases el : lsOf G2 y with
          | none => rw [el] at e; simp at e
          | some ds =>
            rw [el] at e
            simp only [Option.bind_some] at e
            obtain ⟨b, vs, rfl, hb, rb⟩ := lsOf_of ok2 r2 el
            rw [strsOf_eq e] at rb
            exact ⟨a, b, ys, rfl, rfl, .inl (SqL.of (by rw [hb, rb.strs])), h2.1, k _ _ _ _ h2.2 (k1.trans k2) ok2 (.str _)⟩
        · exact h2.elim
      | _ => exact False.elim h1⟩
end

/-! ### defs by their number of parameters -/
def sp0 (p : GHp → DK → DXK → Prop) : DSp := fun ds G Q E => match ds with
  | [] => p G Q E
  | _ => False
def sp1 (p : D → GHp → DK → DXK → Prop) : DSp := fun ds G Q E => match ds with
  | [a] => p a G Q E
  | _ => False
def sp2 (p : D → D → GHp → DK → DXK → Prop) : DSp := fun ds G Q E => match ds with
  | [a, b] => p a b G Q E
  | _ => False
def sp3 (p : D → D → D → GHp → DK → DXK → Prop) : DSp := fun ds G Q E => match ds with
  | [a, b, c] => p a b c G Q E
  | _ => False
def sp4 (p : D → D → D → D → GHp → DK → DXK → Prop) : DSp := fun ds G Q E => match ds with
  | [a, b, c, d] => p a b c d G Q E
  | _ => False
def sp5 (p : D → D → D → D → D → GHp → DK → DXK → Prop) : DSp := fun ds G Q E => match ds with
  | [a, b, c, d, e] => p a b c d e G Q E
  | _ => False
/-- where a body starts: the parameters, then no values -/
abbrev DRun (t : DTS) (δ : DSt) (G : GHp) (Q : DK) : Prop := t { nx := fun _ G' => Q .non G', rt := Q } δ G
section
variable {P : Program} {w : World} {K : PySem.W.Frag} {mg : Str → Option Value} {base : Heap} {x qual : Str} {st : Stmt} {f : Addr} {fd : FuncData} {N ps : List Str} {k : Nat} {t : DTS} {l : DSt} {dv : List V} {kv : List (Str × V)}
abbrev Der (P : Program) (w : World) (K : PySem.W.Frag) (mg : Str → Option Value) (base : Heap) (N : List Str) (qual : Str) (st : Stmt) (f : Addr) (k : Nat) (t : DTS) : Prop :=
  ∀ (cdv : Value) (A : Around) (outer : List Env) (s : Shared) (H : Hp) (E : XK), Room k (A.deeper (PyProof.Rows.envOfC qual (defScope st) s.heap.objs.size f cdv)) → DSs (cxOf CX0 P w K mg base N qual (defScope st) f cdv A outer s H E).nox W0 (defBody st) t
theorem DFunD.ok {sp : DSp} (F : FunD K x qual (defArgs st) (defBody st) (defScope st) dv kv f fd) (S : FnScope N ps (defScope st)) (len : ∀ ds G Q E, sp ds G Q E → ds.length = ps.length)
    (hbody : ∀ (cdv : Value) (A : Around) (outer : List Env) (s : Shared) (H : Hp) (E : XK) (ds : List D) (G : GHp) (Q : DK) (E0 : DXK), Room k (A.deeper (PyProof.Rows.envOfC qual (defScope st) s.heap.objs.size f cdv)) → sp ds G Q E0 →
      ∃ t, DSs (cxOf CX0 P w K mg base N qual (defScope st) f cdv A outer s H E).nox W0 (defBody st) t ∧ t { nx := fun _ G' => Q .non G', rt := Q } (dstart N ds) G) : FnOk P w K mg base CX0 (k + 1) f fd ps (cSp K sp) := by
  refine F.ok S (fun vs H Q E ⟨ds, G, Z, Q0, E0, ok, rs, h, k, x⟩ => rs.length.symm.trans (len _ _ _ _ h)) fun cdv A outer s H vs Q E hr ⟨ds, G, Z, Q0, E0, ok, rs, h, k, x⟩ => ?_
  obtain ⟨t, d, q⟩ := hbody cdv A outer s H E ds G Q0 E0 hr h
  exact ⟨_, PSs.nox d, _, G, Z, _, ok, RepSt.start rs, q, ⟨fun δ' G' σ' H' q k1 ok1 _ => k _ _ _ _ q k1 ok1 .non, fun _ _ _ _ q => q.elim, fun _ _ _ _ q => q.elim, fun d G' v H' q k1 ok1 r1 => k _ _ _ _ q k1 ok1 r1, fun _ _ _ _ _ q => q.elim, fun _ _ _ _ _ _ _ _ q => q.elim⟩⟩
theorem DFun.ok0 {p : GHp → DK → DXK → Prop} (F : FunD K x qual (defArgs st) (defBody st) (defScope st) dv kv f fd) (S : FnScope N ps (defScope st)) (hp : ps.length = 0) (hl : List.replicate (N.length - 0) none = l) (d : Der P w K mg base N qual st f k t) (rd : ∀ G Q E, p G Q E → DRun t l G Q) :
    FnOk P w K mg base CX0 (k + 1) f fd ps (cSp K (sp0 p)) :=
  DFunD.ok F S (fun ds G Q E h => by
    match ds, h with
    | [], _ => exact hp.symm) fun cdv A outer s H E ds G Q E0 hr h => by
    match ds, h with
    | [], h => exact ⟨t, d cdv A outer s H E hr, by subst hl; exact rd G Q E0 h⟩
theorem DFun.ok1 {p : D → GHp → DK → DXK → Prop} (F : FunD K x qual (defArgs st) (defBody st) (defScope st) dv kv f fd) (S : FnScope N ps (defScope st)) (hp : ps.length = 1) (hl : List.replicate (N.length - 1) none = l) (d : Der P w K mg base N qual st f k t) (rd : ∀ a G Q E, p a G Q E → DRun t (some a :: l) G Q) :
    FnOk P w K mg base CX0 (k + 1) f fd ps (cSp K (sp1 p)) :=
  DFunD.ok F S (fun ds G Q E h => by
    match ds, h with
    | [_], _ => exact hp.symm) fun cdv A outer s H E ds G Q E0 hr h => by
    match ds, h with
    | [a], h => exact ⟨t, d cdv A outer s H E hr, by subst hl; exact rd a G Q E0 h⟩
theorem DFun.ok2 {p : D → D → GHp → DK → DXK → Prop} (F : FunD K x qual (defArgs st) (defBody st) (defScope st) dv kv f fd) (S : FnScope N ps (defScope st)) (hp : ps.length = 2) (hl : List.replicate (N.length - 2) none = l) (d : Der P w K mg base N qual st f k t) (rd : ∀ a b G Q E, p a b G Q E → DRun t (some a :: some b :: l) G Q) :
    FnOk P w K mg base CX0 (k + 1) f fd ps (cSp K (sp2 p)) :=
  DFunD.ok F S (fun ds G Q E h => by
    match ds, h with
    | [_, _], _ => exact hp.symm) fun cdv A outer s H E ds G Q E0 hr h => by
    match ds, h with
    | [a, b], h => exact ⟨t, d cdv A outer s H E hr, by subst hl; exact rd a b G Q E0 h⟩
theorem DFun.ok3 {p : D → D → D → GHp → DK → DXK → Prop} (F : FunD K x qual (defArgs st) (defBody st) (defScope st) dv kv f fd) (S : FnScope N ps (defScope st)) (hp : ps.length = 3) (hl : List.replicate (N.length - 3) none = l) (d : Der P w K mg base N qual st f k t) (rd : ∀ a b c G Q E, p a b c G Q E → DRun t (some a :: some b :: some c :: l) G Q) :
    FnOk P w K mg base CX0 (k + 1) f fd ps (cSp K (sp3 p)) :=
  DFunD.ok F S (fun ds G Q E h => by
    match ds, h with
    | [_, _, _], _ => exact hp.symm) fun cdv A outer s H E ds G Q E0 hr h => by
    match ds, h with
    | [a, b, c], h => exact ⟨t, d cdv A outer s H E hr, by subst hl; exact rd a b c G Q E0 h⟩
theorem DFun.ok4 {p : D → D → D → D → GHp → DK → DXK → Prop} (F : FunD K x qual (defArgs st) (defBody st) (defScope st) dv kv f fd) (S : FnScope N ps (defScope st)) (hp : ps.length = 4) (hl : List.replicate (N.length - 4) none = l) (d : Der P w K mg base N qual st f k t) (rd : ∀ a b c e G Q E, p a b c e G Q E → DRun t (some a :: some b :: some c :: some e :: l) G Q) :
    FnOk P w K mg base CX0 (k + 1) f fd ps (cSp K (sp4 p)) :=
  DFunD.ok F S (fun ds G Q E h => by
    match ds, h with
    | [_, _, _, _], _ => exact hp.symm) fun cdv A outer s H E ds G Q E0 hr h => by
    match ds, h with
    | [a, b, c, e], h => exact ⟨t, d cdv A outer s H E hr, by subst hl; exact rd a b c e G Q E0 h⟩
theorem DFun.ok5 {p : D → D → D → D → D → GHp → DK → DXK → Prop} (F : FunD K x qual (defArgs st) (defBody st) (defScope st) dv kv f fd) (S : FnScope N ps (defScope st)) (hp : ps.length = 5) (hl : List.replicate (N.length - 5) none = l) (d : Der P w K mg base N qual st f k t) (rd : ∀ a b c e g G Q E, p a b c e g G Q E → DRun t (some a :: some b :: some c :: some e :: some g :: l) G Q) :
    FnOk P w K mg base CX0 (k + 1) f fd ps (cSp K (sp5 p)) :=
  DFunD.ok F S (fun ds G Q E h => by
    match ds, h with
    | [_, _, _, _, _], _ => exact hp.symm) fun cdv A outer s H E ds G Q E0 hr h => by
    match ds, h with
    | [a, b, c, e, g], h => exact ⟨t, d cdv A outer s H E hr, by subst hl; exact rd a b c e g G Q E0 h⟩
end
/-- a def of the text: its address, what stands at its name, how its arguments bind -/
structure FnT (K : PySem.W.Frag) (mg : Str → Option Value) (name : Str) (st : Stmt) (ps : List Str) where
  f : Addr
  fd : FuncData
  F : FunD K name name (defArgs st) (defBody st) (defScope st) [] [] f fd
  m : mg name = some (.ref f)
  b : Binds K fd ps []

/-- a plain def called with keywords -/
theorem kb_of_fun {K : PySem.W.Frag} {x qual : Str} {params : Arguments} {body : List Stmt} {scope : Scope} {f : Addr} {fd : FuncData} {ps ks : List Str} {n : Nat} (F : FunD K x qual params body scope [] [] f fd) (ix : List Nat)
    (h : ∀ (kV doc pm : Value) (an : Option Addr) (cdv ct : Value) (us ws : List Value), us.length = n → ws.length = ks.length → bindArgs (PySem.W.fnOf x qual params body scope .none kV doc pm an cdv ct) ⟨us, ks.zip ws⟩ = pure (ps.zip (kperm ix us ws))) : KBn K fd ps n ks (kperm ix) (kperm ix) := by
  obtain ⟨oc, od, dV, kV, doc, pm, an, cdv, ct, osl, rfl, _, _, hd, _⟩ := F.ex
  have e : dV = .none := by
    rcases hd with ⟨_, e⟩ | ⟨e, _⟩
    · exact e
    · exact absurd rfl e
  subst e
  exact kbn_of ix fun s us ws h1 h2 => .of_eq (h kV doc pm an cdv ct us ws h1 h2)

/-! ### the law -/
/-- the law's promise: at every script of at most n ints, each of at most 2 ^ 20 bits, it returns True -/
def spLaw (n : Nat) : DSp := sp1 fun a G Q _ => ∃ ns : List Int, a = .scr (ns.map .int) ∧ ns.length ≤ n ∧ (∀ z ∈ ns, Builtin.Int.intBits z ≤ 1048576) ∧ (∀ a, G a = none) ∧ Q (.bl true) G
theorem law_sp {K : PySem.W.Frag} {H : Hp} {a : Addr} {ns : List Int} {n : Nat} (hn : ns.length ≤ n) (hb : ∀ z ∈ ns, Builtin.Int.intBits z ≤ 1048576) (hs : SqL K H a (ns.map V.int)) :
    cSp K (spLaw n) [.ref a] H (fun v _ => v = .bl true) (fun _ _ _ => False) := by
  refine ⟨[.scr (ns.map .int)], fun _ => none, fun _ => false, fun d _ => d = .bl true, DX0, ⟨fun _ _ e => (nomatch e), fun _ e => (nomatch e)⟩, .cons (.scr (SqL.mono (fun b o e => U_of rfl rfl e) hs) (Reps.of_ints _)) .nil, ⟨ns, rfl, hn, hb, fun _ => rfl, rfl⟩, fun d G' v H' q _ _ r => ?_, .none⟩
  subst q
  cases r
  rfl
theorem walk_law {l : PySem.W.OpenLaw} {n k : Nat} {q : Program} {loose : List Str} {XP : (Str → Option Value) → Heap → Prop} {YP : World → Heap → Prop} {d : DefRec} {K : Params → PySem.W.Frag} {x : Str}
    (hn : l.most = some n) (hn2 : n ≤ sizeLine) (hdf : d.params.defaults = []) (hr : Room k callerA)
    (hY : ∀ (w : World) (h : Heap), YP w h → (K w.params).In h)
    (F : ∀ (w : World) (mg : Str → Option Value) (fa : Addr) (h : Heap), (K w.params).In h → h.Ns mainGlobals mg → mg d.name = some (.ref fa) →
      ∃ fd : FuncData, (∀ (s : Shared) (u : Value), BindsTo s fd ⟨[u], []⟩ [(x, u)]) ∧
        ∀ base : Heap, (K w.params).In base → base.Ns mainGlobals mg → FnOk l.prog w (K w.params) mg base CX0 k fa fd [x] (cSp (K w.params) (spLaw n))) :
    PySem.W.WalkO q loose XP YP l.row.toRowW d [] (fun f vs => PySem.call f vs) :=
  walk_ofB hn hn2 hdf hr hY F (fun w H a ns hl hb _ hS => law_sp hl hb hS) fun _ _ _ _ _ z => z
theorem walk_lawE {l : PySem.W.OpenLaw} {n k : Nat} {q : Program} {loose : List Str} {XP : (Str → Option Value) → Heap → Prop} {YP : World → Heap → Prop} {d : DefRec} {x : Str}
    (hn : l.most = some n) (hn2 : n ≤ sizeLine) (hdf : d.params.defaults = []) (hr : Room k callerA)
    (F : ∀ (w : World) (mg : Str → Option Value) (fa : Addr) (h : Heap), YP w h → h.Ns mainGlobals mg → mg d.name = some (.ref fa) →
      ∃ (K : PySem.W.Frag) (fd : FuncData), K.In h ∧ (∀ (s : Shared) (u : Value), BindsTo s fd ⟨[u], []⟩ [(x, u)]) ∧ ∀ base : Heap, K.In base → base.Ns mainGlobals mg → FnOk l.prog w K mg base CX0 k fa fd [x] (cSp K (spLaw n))) :
    PySem.W.WalkO q loose XP YP l.row.toRowW d [] (fun f vs => PySem.call f vs) := by
  apply Att.attach_callB hn hdf
  intro w s₀ s₁ mg mb fa o pm cd doc a vs ns g y ho hd hcd hmg hobj hints hlen hbits hg
  obtain ⟨K, fd, KX, hb, hF⟩ := F w mg fa _ y g.T.g hmg
  exact law_call KX g.T.g g.T.b g.T.builtins g.T.nolimit hg hobj hints (Nat.le_trans hlen hn2) hr hF hb (fun H _ hS => law_sp hlen hbits hS) fun _ _ _ z => z
end DL
set_option Elab.async false
set_option linter.all false
set_option maxRecDepth 100000
set_option maxHeartbeats 1000000
/-! DL, part 7: how readings are shown: loops by what remains, the small heap, trees, the law's draws. -/
namespace DL
open PySem PySem.Spec L2

/-! ### loops -/
theorem for_ind {gd : Gd} {g : Tgt} {tb : DTS} {E : DEnds} {α : Type} {enc : α → D} (I : List α → DSt → GHp → Prop) (hd : ∀ δ G, I [] δ G → gd.ok G ∧ E.nx δ G)
    (hs : ∀ x r δ G, I (x :: r) δ G → gd.ok G ∧ ∃ δ', g.set (enc x) δ = some δ' ∧ ∀ N : DSt → GHp → Prop, (∀ δ G, I r δ G → N δ G) → tb { E with nx := N, ct := N, bk := E.nx } δ' G) :
    ∀ (xs : List α) (δ : DSt) (G : GHp), I xs δ G → dForL gd g tb (xs.map enc) E δ G
  | [], δ, G, h => hd δ G h
  | x :: r, δ, G, h => by
    obtain ⟨h1, δ', e, h2⟩ := hs x r δ G h
    refine ⟨h1, ?_⟩
    rw [e]
    exact h2 _ fun δ G q => for_ind I hd hs r δ G q
theorem while_ind {c : DTT} {tb : DTS} {E : DEnds} {δ : DSt} {G : GHp} (I : Nat → DSt → GHp → Prop) (n : Nat) (h0 : I n δ G)
    (hs : ∀ n δ G, I n δ G → ∀ N : DSt → GHp → Prop, (∀ m δ G, m < n → I m δ G → N δ G) → c δ G fun b G1 => dIte b (tb { E with nx := N, ct := N, bk := E.nx } δ G1) (E.nx δ G1)) : dWhile c tb E δ G := by
  refine ⟨n + 1, ?_⟩
  have key : ∀ n m δ G, m ≤ n → I m δ G → dWhN c tb (n + 1) E δ G := by
    intro n
    induction n with
    | zero =>
      intro m δ G hm h
      exact hs m δ G h _ fun k δ G hk _ => absurd hk (by omega)
    | succ n ih =>
      intro m δ G hm h
      exact hs m δ G h _ fun k δ G hk q => ih k δ G (by omega) q
  exact key n n δ G (Nat.le_refl _) h0
theorem lc_ind {m : Bool} {gd : Gd} {g : Tgt} {tt : DTT} {te : DTE} {δw : DSt} {Q : DK} {α : Type} {enc : α → D} (I : List α → List D → GHp → Prop) (hd : ∀ acc G, I [] acc G → gd.ok G ∧ lcEnd m acc G Q)
    (hs : ∀ x r acc G, I (x :: r) acc G → gd.ok G ∧ ∃ δ', g.set (enc x) δw = some δ' ∧ ∀ N : List D → GHp → Prop, (∀ acc G, I r acc G → N acc G) →
      tt δ' G fun b G1 => dIte b (te δ' G1 fun y G2 => acc.length < sizeLine ∧ N (acc ++ [y]) G2) (N acc G1)) :
    ∀ (xs : List α) (acc : List D) (G : GHp), I xs acc G → dLcL m gd g tt te δw (xs.map enc) acc G Q
  | [], acc, G, h => hd acc G h
  | x :: r, acc, G, h => by
    obtain ⟨h1, δ', e, h2⟩ := hs x r acc G h
    refine ⟨h1, ?_⟩
    rw [e]
    exact h2 _ fun acc G q => lc_ind I hd hs r acc G q
/-- te gives v, and leaves all as it is -/
def Ev (te : DTE) (δ : DSt) (G : GHp) (v : D) : Prop := ∀ R : DK, R v G → te δ G R
def EvT (t : DTT) (δ : DSt) (G : GHp) (b : Bool) : Prop := ∀ R : Bool → GHp → Prop, R b G → t δ G R
theorem evT_yes {δ : DSt} {G : GHp} : EvT dYes δ G true := fun _ h => h
/-- a comprehension that changes nothing -/
theorem lc_map {m : Bool} {gd : Gd} {i : Nat} {tt : DTT} {te : DTE} {δw : DSt} {G : GHp} {Q : DK} {α : Type} {enc : α → D} {keep : α → Bool} {f : α → D} {xs : List α} (hz : xs.length ≤ sizeLine) (hg : gd.ok G)
    (ht : ∀ x ∈ xs, EvT tt (δw.set i (some (enc x))) G (keep x)) (he : ∀ x ∈ xs, keep x = true → Ev te (δw.set i (some (enc x))) G (f x)) (h : lcEnd m ((xs.filter keep).map f) G Q) :
    dLcL m gd (.nm i) tt te δw (xs.map enc) [] G Q := by
  refine lc_ind (fun r acc G' => G' = G ∧ ∃ pre, xs = pre ++ r ∧ acc = (pre.filter keep).map f) ?_ ?_ xs [] G ⟨rfl, [], rfl, rfl⟩
  · rintro acc _ ⟨rfl, pre, e, rfl⟩
    rw [List.append_nil] at e
    subst e
    exact ⟨hg, h⟩
  · rintro x r acc _ ⟨rfl, pre, e, rfl⟩
    refine ⟨hg, _, rfl, fun N hN => ?_⟩
    have hx : x ∈ xs := by rw [e]; simp
    refine ht x hx _ ⟨fun hk => ?_, fun hk => ?_⟩
    · refine he x hx hk _ ⟨?_, hN _ _ ⟨rfl, pre ++ [x], by rw [e]; simp, ?_⟩⟩
      · have h1 : ((pre.filter keep).map f).length ≤ pre.length := by rw [List.length_map]; exact List.length_filter_le _ _
        have h2 : xs.length = pre.length + (r.length + 1) := by rw [e]; simp
        omega
      · rw [List.filter_append, List.map_append]
        simp [hk]
    · refine hN _ _ ⟨rfl, pre ++ [x], by rw [e]; simp, ?_⟩
      rw [List.filter_append, List.map_append]
      simp [hk]

/-! ### the small heap -/
theorem gne {G : GHp} {p q : Addr} {o : GO} (h : G q = some o) (h' : G p = none) : q ≠ p := fun e => by rw [e, h'] at h; cases h
theorem lsOf_ref {G : GHp} {p : Addr} {ds : List D} (h : G p = some (.lst ds)) : lsOf G (.ref p) = some ds := by unfold lsOf; simp only [h]
theorem lsOf_lst {G : GHp} {ds : List D} : lsOf G (.lst ds) = some ds := rfl
theorem pdOf_ref {G : GHp} {p : Addr} {ds : List D} (h : G p = some (.lst ds)) : pdOf G (.ref p) = (D.dataL ds).map .list := by unfold pdOf; simp only [h]
theorem gupd_at {G : GHp} {a b : Addr} {o u : GO} (h : b ≠ a) (q : G b = some u) : gupd G a o b = some u := (gupd_ne h).trans q
theorem gupd_none {G : GHp} {a b : Addr} {o : GO} (h : gupd G a o b = none) : b ≠ a ∧ G b = none := by
  by_cases e : b = a
  · subst e; rw [gupd_same] at h; cases h
  · exact ⟨e, by rw [gupd_ne e] at h; exact h⟩
theorem gupd_comm {G : GHp} {a b : Addr} {o u : GO} (h : a ≠ b) : gupd (gupd G a o) b u = gupd (gupd G b u) a o := by
  funext c; unfold gupd
  by_cases e1 : c = a
  · by_cases e2 : c = b
    · exact absurd (e1.symm.trans e2) h
    · simp [e1, h]
  · by_cases e2 : c = b
    · subst e2; simp [e1]
    · simp [e1, e2]
/-- what was tracked at p is tracked no more -/
def gdel (G : GHp) (p : Addr) : GHp := fun b => if b = p then none else G b
theorem gdel_gupd {G : GHp} {p : Addr} {o : GO} (h : G p = none) : gdel (gupd G p o) p = G := by
  funext b; unfold gdel gupd
  split
  · next e => rw [e, h]
  · rfl
theorem gdel_ne {G : GHp} {p b : Addr} (h : b ≠ p) : gdel G p b = G b := by unfold gdel; rw [if_neg h]
theorem gdel_same {G : GHp} {p : Addr} : gdel G p p = none := by unfold gdel; rw [if_pos rfl]

/-! ### trees: lists at the addresses in S become trees -/
mutual
inductive Tree (G : GHp) (S : Addr → Prop) : D → D → Prop
  | same (d : D) : Tree G S d d
  | ref {a : Addr} {ds ts : List D} : S a → G a = some (.lst ds) → Trees G S ds ts → Tree G S (.ref a) (.lst ts)
  | tup {ds ts : List D} : Trees G S ds ts → Tree G S (.tup ds) (.tup ts)
  | lst {ds ts : List D} : Trees G S ds ts → Tree G S (.lst ds) (.lst ts)
inductive Trees (G : GHp) (S : Addr → Prop) : List D → List D → Prop
  | nil : Trees G S [] []
  | cons {d t : D} {ds ts : List D} : Tree G S d t → Trees G S ds ts → Trees G S (d :: ds) (t :: ts)
end
theorem Trees.same {G : GHp} {S : Addr → Prop} : ∀ ds : List D, Trees G S ds ds
  | [] => .nil
  | d :: r => .cons (.same d) (Trees.same r)
theorem Trees.append {G : GHp} {S : Addr → Prop} : ∀ {ds ts es us : List D}, Trees G S ds ts → Trees G S es us → Trees G S (ds ++ es) (ts ++ us)
  | _, _, _, _, .nil, q => q
  | _, _, _, _, .cons h r, q => .cons h (Trees.append r q)
theorem Trees.length {G : GHp} {S : Addr → Prop} : ∀ {ds ts : List D}, Trees G S ds ts → ds.length = ts.length
  | _, _, .nil => rfl
  | _, _, .cons h r => by simp [Trees.length r]
theorem Trees.get {G : GHp} {S : Addr → Prop} : ∀ {ds ts : List D} {i : Nat} {d : D}, Trees G S ds ts → ds[i]? = some d → ∃ t, ts[i]? = some t ∧ Tree G S d t
  | _, _, 0, d, .cons h r, e => by
    simp at e; subst e; exact ⟨_, rfl, h⟩
  | _, _, i + 1, d, .cons h r, e => by
    obtain ⟨v, h1, h2⟩ := Trees.get (i := i) (d := d) r (by simpa using e)
    exact ⟨v, by simpa using h1, h2⟩
theorem Trees.get' {G : GHp} {S : Addr → Prop} : ∀ {ds ts : List D} {i : Nat} {t : D}, Trees G S ds ts → ts[i]? = some t → ∃ d, ds[i]? = some d ∧ Tree G S d t
  | _, _, 0, d, .cons h r, e => by
    simp at e; subst e; exact ⟨_, rfl, h⟩
  | _, _, i + 1, d, .cons h r, e => by
    obtain ⟨v, h1, h2⟩ := Trees.get' (i := i) (t := d) r (by simpa using e)
    exact ⟨v, by simpa using h1, h2⟩
section
variable {K : PySem.W.Frag} {H : Hp} {G G' : GHp} {Z : Addr → Bool} {S : Addr → Prop}
mutual
theorem Tree.rep (ok : Ok K H G Z) (k : ∀ a o, U H G Z a = some o → U H G' Z a = some o) (hS : ∀ a, S a → G' a = none) : ∀ {d t : D} {v : V}, Tree G S d t → Rep K (U H G Z) d v → Rep K (U H G' Z) t v
  | _, _, _, .same d, r => r.mono k
  | _, _, _, .ref (a := a) hs hg ts, r => by
    cases r
    obtain ⟨hz, xs, hx, rx⟩ := ok.ok a _ hg
    exact .lst (U_of (hS a hs) hz hx) (Trees.rep ok k hS ts rx)
  | _, _, _, .tup ts, r => by
    cases r with
    | tup q rr => exact .tup (TupAt.mono k q) (Trees.rep ok k hS ts rr)
  | _, _, _, .lst ts, r => by
    cases r with
    | lst q rr => exact .lst (k _ _ q) (Trees.rep ok k hS ts rr)
theorem Trees.rep (ok : Ok K H G Z) (k : ∀ a o, U H G Z a = some o → U H G' Z a = some o) (hS : ∀ a, S a → G' a = none) : ∀ {ds ts : List D} {vs : List V}, Trees G S ds ts → Reps K (U H G Z) ds vs → Reps K (U H G' Z) ts vs
  | _, _, _, .nil, r => by cases r; exact .nil
  | _, _, _, .cons h q, r => by
    cases r with
    | cons r rr => exact .cons (Tree.rep ok k hS h r) (Trees.rep ok k hS q rr)
end
end
/-- slots told by trees, or forgotten -/
inductive TreeO (G : GHp) (S : Addr → Prop) : Option D → Option D → Prop
  | no (o : Option D) : TreeO G S o none
  | so {d t : D} : Tree G S d t → TreeO G S (some d) (some t)
abbrev TreeSt (G : GHp) (S : Addr → Prop) (δ δ' : DSt) : Prop := Paired (TreeO G S) δ δ'
theorem TreeSt.same {G : GHp} {S : Addr → Prop} : ∀ δ : DSt, TreeSt G S δ δ
  | [] => .nil
  | none :: r => .cons (.no _) (TreeSt.same r)
  | some d :: r => .cons (.so (.same d)) (TreeSt.same r)
theorem TreeSt.set {G : GHp} {S : Addr → Prop} {d t : D} (q : Tree G S d t) : ∀ {δ : DSt} {i : Nat}, δ[i]? = some (some d) → TreeSt G S δ (δ.set i (some t))
  | [], i, e => by simp at e
  | o :: r, 0, e => by
    simp at e; subst e
    exact .cons (.so q) (TreeSt.same r)
  | o :: r, i + 1, e => by
    have ih := TreeSt.set q (δ := r) (i := i) (by simpa using e)
    refine .cons ?_ ih
    cases o with
    | none => exact .no _
    | some d => exact .so (.same d)
/-- THE GHOST: the lists at S become trees; of the others those that G' tells stay tracked, with trees in them -/
theorem View.tree {K : PySem.W.Frag} {δ δ' : DSt} {G G' : GHp} (S : Addr → Prop) (hS : ∀ a, S a → G' a = none) (hG : ∀ a o, G' a = some o → G a = some o ∨ ∃ ds ts, G a = some (.lst ds) ∧ o = .lst ts ∧ Trees G S ds ts) (hd : TreeSt G S δ δ') : View K δ G δ' G' := by
  intro H Z σ ok rs
  have none_of : ∀ a, G a = none → G' a = none := fun a e => by
    cases e' : G' a with
    | none => rfl
    | some o =>
      rcases hG a o e' with q | ⟨ds, ts, q, _⟩ <;> (rw [e] at q; cases q)
  have k : ∀ a o, U H G Z a = some o → U H G' Z a = some o := fun a o e => by
    obtain ⟨e1, e2, e3⟩ := U_some e
    exact U_of (none_of a e1) e2 e3
  refine ⟨⟨k, fun _ _ _ e => e⟩, ⟨fun a o e => ?_, ok.hid⟩, ?_⟩
  · rcases hG a o e with q | ⟨ds, ts, q, rfl, tr⟩
    · obtain ⟨z, g⟩ := ok.ok a o q
      exact ⟨z, g.mono k rfl⟩
    · obtain ⟨z, xs, hx, rx⟩ := ok.ok a _ q
      exact ⟨z, xs, hx, Trees.rep ok k hS tr rx⟩
  · have key : ∀ {δ δ' : DSt} {σ : L2.St}, TreeSt G S δ δ' → RepSt K (U H G Z) δ σ → RepSt K (U H G' Z) δ' σ := by
      intro δ δ' σ h
      induction h generalizing σ with
      | nil => intro r; cases r; exact .nil
      | cons q t ih =>
        intro r
        cases r with
        | cons r1 r2 =>
          refine .cons ?_ (ih r2)
          cases q with
          | no o => exact .no _
          | so q =>
            cases r1 with
            | so r1 => exact .so (Tree.rep ok k hS q r1)
    exact key hd rs
theorem View.refl {K : PySem.W.Frag} {δ : DSt} {G : GHp} : View K δ G δ G := fun H Z σ ok rs => ⟨.refl, ok, rs⟩

/-- a tracked list is tracked no more -/
theorem View.forget {K : PySem.W.Frag} {δ : DSt} {G : GHp} {q : Addr} {o : GO} (h : G q = none) : View K δ (gupd G q o) δ G :=
  View.tree (fun a => a = q) (fun a e => by rw [e]; exact h) (fun a u e => .inl (by rw [gupd_ne (fun e2 => by rw [e2, h] at e; cases e)]; exact e)) (TreeSt.same δ)
/-! ### places in lists -/
theorem atI_of_lt {α : Type} {xs : List α} {i : Int} (h0 : 0 ≤ i) (h1 : i < xs.length) : atI xs i = xs[i.toNat]? := by
  unfold atI ixN
  rw [if_pos h0, if_pos h1]
  rfl
theorem atD_of {ds : List D} {i : Int} {Q : D → Prop} (h0 : 0 ≤ i) (h1 : i < ds.length) (h : ∀ d ∈ ds, Q d) : atD ds i Q := by
  unfold atD
  rw [atI_of_lt h0 h1]
  have hl : i.toNat < ds.length := by omega
  rw [List.getElem?_eq_getElem hl]
  exact h _ (List.getElem_mem hl)
theorem atD_get {ds : List D} {i : Int} {d : D} {Q : D → Prop} (h0 : 0 ≤ i) (h1 : i < ds.length) (e : ds[i.toNat]? = some d) (h : Q d) : atD ds i Q := by
  unfold atD
  rw [atI_of_lt h0 h1, e]
  exact h
theorem atD_nat {ds : List D} {i : Nat} {d : D} {Q : D → Prop} (e : ds[i]? = some d) (h : Q d) : atD ds (i : Int) Q := by
  have hl := (List.getElem?_eq_some_iff.mp e).1
  exact atD_get (by omega) (by omega) (by simpa using e) h
theorem atI_neg1 {α : Type} {xs : List α} (h : xs ≠ []) : atI xs (-1) = some (xs.getLast h) := by
  have hl : 0 < xs.length := List.length_pos_iff.mpr h
  unfold atI ixN
  rw [if_neg (by omega), if_pos (by omega)]
  have e : ((-1 : Int) + (xs.length : Int)).toNat = xs.length - 1 := by omega
  show xs[((-1 : Int) + (xs.length : Int)).toNat]? = _
  rw [e, List.getLast_eq_getElem, List.getElem?_eq_getElem]
theorem atD_last {ds : List D} {d : D} {Q : D → Prop} (h : Q d) : atD (ds ++ [d]) (-1) Q := by
  unfold atD
  rw [atI_neg1 (by simp)]
  simpa using h

/-! ### a law's draws: a box of three numbers -/
structure Bx where
  a : Int
  b : Int
  c : Int
def Bx.go (s : Bx) : GO := .lst [.int s.a, .int s.b, .int s.c]
structure Bx.Ok (s : Bx) (k : Nat) : Prop where
  a0 : 0 ≤ s.a
  b0 : 0 ≤ s.b
  b1 : s.b < 2147483648
  c0 : 0 ≤ s.c
  c1 : s.c ≤ k
theorem Bx.Ok.mono {s : Bx} {j k : Nat} (h : s.Ok j) (hk : j ≤ k) : s.Ok k := ⟨h.a0, h.b0, h.b1, h.c0, by have := h.c1; omega⟩
/-- box, many: any number below many is drawn -/
def spTake : DSp := sp2 fun x m G Q _ => ∃ (p : Addr) (s : Bx) (k : Nat) (n : Int), x = .ref p ∧ G p = some s.go ∧ s.Ok k ∧ k < 2 ^ 30 ∧ m = .int n ∧ 0 < n ∧ n.natAbs < 2 ^ 1000 ∧
  ∀ (v : Int) (s' : Bx), 0 ≤ v → v < n → s'.Ok (k + 1) → Q (.int v) (gupd G p s'.go)
/-- a new box -/
def spBox : DSp := sp1 fun x G Q _ => ∃ z : Int, x = .int z ∧ ∀ (p : Addr) (s : Bx), G p = none → s.Ok 0 → Q (.ref p) (gupd G p s.go)
/-- the k-th number of the script, or one that is made up -/
def spCell : DSp := sp2 fun x m G Q _ => ∃ (ns : List Int) (k : Int), x = .scr (ns.map .int) ∧ m = .int k ∧ 0 ≤ k ∧ k < 2 ^ 40 ∧ ∀ z : Int, Q (.int z) G
end DL
set_option Elab.async false
set_option linter.all false
set_option maxRecDepth 100000
set_option maxHeartbeats 1000000
/-! DL, part 8: max, min, sorted of tuples of ints, too. -/
namespace DL
open PySem PySem.Spec L2 PyProof.Rows

section
variable {prog : Program} {w : World} {A : Around} {E : Value → Shared → Prop} {s : Shared} {l : Addr}
theorem best_gtT {xs : Array (Int × Tok)} {Q : Value → Shared → Prop} (hh : A.handled = none) (hl : s.heap.IsTuple l (intItems xs)) (hne : 0 < xs.size)
    (h : ∀ v h' tk, (intItems xs)[argBest (fun i j => decide (numAt xs i > numAt xs j)) (xs.size - 1)]? = some v → (∀ b o, s.heap.get? b = some o → h'.get? b = some o) → Q v { s with heap := h', toks := tk }) :
    wpAny (model prog w) A (call (.builtin "max") [.ref l]) Q E s := by
  have hlt : l < s.heap.objs.size := by obtain ⟨_, e, _⟩ := hl; exact Heap.lt_size e
  refine call_max_walk (wpAny_pyIter_tuple hl ?_)
  refine ⟨_, _, _, _, _, _, _, rfl, Walks.tuple (A := A.in1) hh _ l (Nat.ne_of_lt hlt) (intItems xs), ⟨⟨_, Heap.get?_push_size _ rfl, rfl, rfl⟩, hl.push _⟩, fun b hb => ?_, by simpa [intItems] using hne, CmpOf.ints_gt (numAt xs) (fun _ _ => intItems_at), fun v h' tk hP hk => ?_⟩
  · show b < (s.heap.push _).objs.size
    rw [Heap.size_push]
    simp only [List.mem_cons, List.not_mem_nil, or_false] at hb
    rcases hb with rfl | rfl
    · exact Nat.lt_succ_self _
    · exact Nat.lt_succ_of_lt hlt
  · refine h v h' tk (by simpa [intItems] using hP) fun b o e => hk b o (fun hm => ?_) (Heap.get?_push_of_some _ e)
    simp only [List.mem_cons, List.not_mem_nil, or_false] at hm
    exact absurd (hm ▸ Heap.lt_size e) (Nat.lt_irrefl _)
theorem best_ltT {xs : Array (Int × Tok)} {Q : Value → Shared → Prop} (hh : A.handled = none) (hl : s.heap.IsTuple l (intItems xs)) (hne : 0 < xs.size)
    (h : ∀ v h' tk, (intItems xs)[argBest (fun i j => decide (numAt xs i < numAt xs j)) (xs.size - 1)]? = some v → (∀ b o, s.heap.get? b = some o → h'.get? b = some o) → Q v { s with heap := h', toks := tk }) :
    wpAny (model prog w) A (call (.builtin "min") [.ref l]) Q E s := by
  have hlt : l < s.heap.objs.size := by obtain ⟨_, e, _⟩ := hl; exact Heap.lt_size e
  refine call_min_walk (wpAny_pyIter_tuple hl ?_)
  refine ⟨_, _, _, _, _, _, _, rfl, Walks.tuple (A := A.in1) hh _ l (Nat.ne_of_lt hlt) (intItems xs), ⟨⟨_, Heap.get?_push_size _ rfl, rfl, rfl⟩, hl.push _⟩, fun b hb => ?_, by simpa [intItems] using hne, CmpOf.ints_lt (numAt xs) (fun _ _ => intItems_at), fun v h' tk hP hk => ?_⟩
  · show b < (s.heap.push _).objs.size
    rw [Heap.size_push]
    simp only [List.mem_cons, List.not_mem_nil, or_false] at hb
    rcases hb with rfl | rfl
    · exact Nat.lt_succ_self _
    · exact Nat.lt_succ_of_lt hlt
  · refine h v h' tk (by simpa [intItems] using hP) fun b o e => hk b o (fun hm => ?_) (Heap.get?_push_of_some _ e)
    simp only [List.mem_cons, List.not_mem_nil, or_false] at hm
    exact absurd (hm ▸ Heap.lt_size e) (Nat.lt_irrefl _)
variable {its : List Value} {ns : List Int} {Q : Value → Shared → Prop}
theorem max_rawT (hh : A.handled = none) (hl : s.heap.IsTuple l its.toArray) (hi : IntsAre its ns) (hne : ns ≠ [])
    (h : ∀ h' tk t', (∀ b o, s.heap.get? b = some o → h'.get? b = some o) → Q (.int (maxI ns) t') { s with heap := h', toks := tk }) : wpAny (model prog w) A (call (.builtin "max") [.ref l]) Q E s := by
  obtain ⟨xs, e⟩ := hi.allInts.items
  have hn : numsOf (intItems xs).toList = ns := by rw [← e]; exact hi.numsOf
  rw [nums_intItems] at hn
  subst hn
  rw [e] at hl
  have hsz : 0 < xs.size := by
    have := List.length_pos_iff.mpr hne
    simpa using this
  refine best_gtT hh hl hsz fun v h' tk hv hk => ?_
  obtain ⟨t, rfl⟩ := intItems_at hv
  obtain ⟨h1, h2⟩ := argBest_gt (numAt xs) (xs.size - 1)
  have e : numAt xs (argBest (fun i j => decide (numAt xs i > numAt xs j)) (xs.size - 1)) = maxI (List.map (fun x => x.fst) xs.toList) := by
    have h3 := maxI_mem hne
    have h4 : numAt xs (argBest (fun i j => decide (numAt xs i > numAt xs j)) (xs.size - 1)) ∈ List.map (fun x => x.fst) xs.toList := by
      rw [numAt_eq]; exact PySem.getD_mem (by rw [List.length_map, Array.length_toList]; omega)
    have h5 := h3.2 _ h4
    obtain ⟨j, hj, ej⟩ := mem_getD h3.1
    rw [List.length_map, Array.length_toList] at hj
    have h6 := h2 j (by omega)
    rw [numAt_eq] at h6
    have : maxI (List.map (fun x => x.fst) xs.toList) ≤ numAt xs (argBest (fun i j => decide (numAt xs i > numAt xs j)) (xs.size - 1)) := by rw [← ej]; exact h6
    omega
  rw [e]
  exact h h' tk t hk
theorem min_rawT (hh : A.handled = none) (hl : s.heap.IsTuple l its.toArray) (hi : IntsAre its ns) (hne : ns ≠ [])
    (h : ∀ h' tk t', (∀ b o, s.heap.get? b = some o → h'.get? b = some o) → Q (.int (minI ns) t') { s with heap := h', toks := tk }) : wpAny (model prog w) A (call (.builtin "min") [.ref l]) Q E s := by
  obtain ⟨xs, e⟩ := hi.allInts.items
  have hn : numsOf (intItems xs).toList = ns := by rw [← e]; exact hi.numsOf
  rw [nums_intItems] at hn
  subst hn
  rw [e] at hl
  have hsz : 0 < xs.size := by
    have := List.length_pos_iff.mpr hne
    simpa using this
  refine best_ltT hh hl hsz fun v h' tk hv hk => ?_
  obtain ⟨t, rfl⟩ := intItems_at hv
  obtain ⟨h1, h2⟩ := argBest_lt (numAt xs) (xs.size - 1)
  have e : numAt xs (argBest (fun i j => decide (numAt xs i < numAt xs j)) (xs.size - 1)) = minI (List.map (fun x => x.fst) xs.toList) := by
    have h3 := minI_mem hne
    have h4 : numAt xs (argBest (fun i j => decide (numAt xs i < numAt xs j)) (xs.size - 1)) ∈ List.map (fun x => x.fst) xs.toList := by
      rw [numAt_eq]; exact PySem.getD_mem (by rw [List.length_map, Array.length_toList]; omega)
    have h5 := h3.2 _ h4
    obtain ⟨j, hj, ej⟩ := mem_getD h3.1
    rw [List.length_map, Array.length_toList] at hj
    have h6 := h2 j (by omega)
    rw [numAt_eq xs j] at h6
    have : numAt xs (argBest (fun i j => decide (numAt xs i < numAt xs j)) (xs.size - 1)) ≤ minI (List.map (fun x => x.fst) xs.toList) := by rw [← ej]; exact h6
    omega
  rw [e]
  exact h h' tk t hk
theorem gatherT {vs : List Value} {Q : List Value → Shared → Prop} (hl : s.heap.IsTuple l vs.toArray)
    (h : Q vs { s with heap := (s.heap.push (seqObj "list" #[] 0)).update s.heap.objs.size (Obj.mapSeq (· ++ vs.toArray)) }) (hz : vs.length ≤ sizeLine) :
    wpAny (model prog w) A (collect (.ref l)) Q E s := by
  obtain ⟨o, ho, hc, n, hd⟩ := id hl
  unfold collect
  refine wpAny_bind (wpAny_runValue (codeAny_builtin PyProof.Rows.entry_proto_collect' ?_))
  show wpAny _ _ (do again (.builtin "list.__iadd__" ⟨[← newList [], .ref l], []⟩)) _ _ s
  refine wpAny_bind (wpAny_newList (wpAny_pure ⟨Code.quiet_builtin _ (by decide +kernel), codeAny_builtin PyProof.Rows.entry_list_iadd' ?_⟩))
  show wpAny _ _ (Builtin.List.listExtendWith (.ref s.heap.objs.size) (.ref l) (.ref s.heap.objs.size)) _ _ { s with heap := s.heap.push (seqObj "list" #[] 0) }
  unfold Builtin.List.listExtendWith
  have ho' : (s.heap.push (seqObj "list" #[] 0)).get? l = some o := Heap.get?_push_of_some _ ho
  refine wpAny_bind (wpAny_typeOf (T := "tuple") ⟨o, ho', hc⟩ ?_)
  rw [if_pos (by have ht : (Value.type "tuple" == Value.type "tuple") = true := by rfl
                 rw [ht]; simp)]
  refine wpAny_bind (PyProof.Rows.listItems_at ho' hd ?_)
  refine wpAny_bind (PyProof.Rows.listItems_at (xs := #[]) (n := 0) (Heap.get?_push_size _ rfl) rfl ?_)
  rw [if_neg (by simp)]
  refine wpAny_bind (PyProof.Rows.listUpdate_at (xs := #[]) (n := 0) (Heap.get?_push_size _ rfl) rfl ?_ (Nat.zero_le _) (by show (#[] ++ vs.toArray).size ≤ sizeLine + 1; simp only [Array.size_append, List.size_toArray, List.length_nil]; omega))
  refine wpAny_pure ?_
  show wpAny (model prog w) A (do
      let o ← load s.heap.objs.size
      match o.data with
      | .seq xs _ => pure xs.toList
      | _ => unsupported "internal:collect") Q E { s with heap := (s.heap.push (seqObj "list" #[] 0)).update s.heap.objs.size (Obj.mapSeq (· ++ vs.toArray)) }
  refine wpAny_bind (wpAny_load (PyProof.Rows.get?_update_seq (Heap.get?_push_size _ rfl) _) ?_)
  show wpAny _ _ (pure ((#[] : Array Value) ++ vs.toArray).toList) Q E _
  rw [show ((#[] : Array Value) ++ vs.toArray).toList = vs by simp]
  exact wpAny_pure h
open PyProof.Rows in
theorem sortedT {vs : List Value} {ltv : Value → Value → Bool} {Q : Value → Shared → Prop} (O : SrtO.Swo ltv) (hl : s.heap.IsTuple l vs.toArray) (hz : vs.length ≤ sizeLine)
    (hS : 2 ≤ vs.length → ∀ (h₁ : Heap) (a : Addr), SrtO.SortableO prog w A.in1.in1 { s with heap := h₁ } a vs ltv)
    (h : ∀ out : List Value, SrtO.Srtd ltv out → SrtO.Stb ltv out vs → Q (.ref (s.heap.objs.size + 1)) { s with heap := sortedAll s.heap vs out.toArray }) :
    wpAny (model prog w) A (call (.builtin "sorted") [.ref l]) Q E s := by
  refine Calls.call_function_entry kind_sorted plain_sorted entry_sorted (args_sorted1 _) ?_
  unfold Builtin.«sorted»
  refine wpAny_bind (m := checkCount "sorted" 1 1 _) (wpAny_pure ?_)
  refine wpAny_bind (gatherT hl ?_ hz)
  refine wpAny_bind (wpAny_newList ?_ hz)
  have hsz : ((s.heap.push (seqObj "list" #[] 0)).update s.heap.objs.size (Obj.mapSeq (· ++ vs.toArray))).objs.size = s.heap.objs.size + 1 := by
    rw [Heap.size_update, Heap.size_push]
  have hoL : (((s.heap.push (seqObj "list" #[] 0)).update s.heap.objs.size (Obj.mapSeq (· ++ vs.toArray))).push (seqObj "list" vs.toArray 0)).get? (s.heap.objs.size + 1) = some (seqObj "list" vs.toArray 0) := by
    rw [← hsz]; exact Heap.get?_push_size _ rfl
  show wpAny _ _ _ _ _ { s with heap := ((s.heap.push (seqObj "list" #[] 0)).update s.heap.objs.size (Obj.mapSeq (· ++ vs.toArray))).push (seqObj "list" vs.toArray 0) }
  rw [hsz]
  refine wpAny_bind (wpAny_holding (wpAny_call_entry slot_list_sort ⟨_, hoL, rfl⟩ entry_list_sort (SrtO.list_sort_ord O hoL hz (fun h2 => hS h2 _ _) fun out hs hb => ⟨_, rfl, ?_⟩) (args_list_sort _)))
  exact wpAny_pure ⟨_, rfl, h out hs hb⟩
end

section
variable {X : Cx}
theorem cr_maxT (hc : X.calm = true) : CallR X (.builtin "max") (fun vs H Q => ∃ (a : Addr) (ns : List Int), vs = [V.ref a] ∧ SqT X.K H a (ns.map V.int) ∧ ns ≠ [] ∧ Q (.int (maxI ns)) H) := by
  intro pins s σ H vs us Q I r h
  obtain ⟨a, ns, rfl, hs, hne, q⟩ := h
  obtain ⟨its, rv, hl, _⟩ := I.tuple hs
  rw [Vals.ref1 r]
  exact max_rawT (I.ok.hd hc) hl rv.ints hne fun h' tk t' hk => ⟨.int _, H, I.kept hk, ⟨_, rfl⟩, q⟩
theorem cr_minT (hc : X.calm = true) : CallR X (.builtin "min") (fun vs H Q => ∃ (a : Addr) (ns : List Int), vs = [V.ref a] ∧ SqT X.K H a (ns.map V.int) ∧ ns ≠ [] ∧ Q (.int (minI ns)) H) := by
  intro pins s σ H vs us Q I r h
  obtain ⟨a, ns, rfl, hs, hne, q⟩ := h
  obtain ⟨its, rv, hl, _⟩ := I.tuple hs
  rw [Vals.ref1 r]
  exact min_rawT (I.ok.hd hc) hl rv.ints hne fun h' tk t' hk => ⟨.int _, H, I.kept hk, ⟨_, rfl⟩, q⟩
theorem cr_sortedT : CallR X (.builtin "sorted") (fun vs H Q => ∃ (a : Addr) (ns : List Int), vs = [V.ref a] ∧ SqT X.K H a (ns.map V.int) ∧
    ∀ (ns' : List Int) (p : Addr), ns'.Perm ns → ns'.Pairwise (· ≤ ·) → H p = none → Q (.ref p) (upd H p (.lst (ns'.map V.int)))) := by
  intro pins s σ H vs us Q I r h
  obtain ⟨a, ns, rfl, hs, q⟩ := h
  obtain ⟨its, rv, hl, hz⟩ := I.tuple hs
  rw [Vals.ref1 r]
  have hi := rv.ints
  refine sortedT SrtO.swo_int hl (by rw [← rv.length]; exact hz) (fun h2 h₁ a' => SrtO.ints_sortable hi h2) fun out h1 h2 => ?_
  obtain ⟨k1, k2, k3⟩ := SrtO.ints_out hi h1 h2
  obtain ⟨ep, he'⟩ := PyProof.Rows.sortedAll_at s.heap its out.toArray
  have hlen : ((out.map SrtO.iv).map V.int).length ≤ sizeLine := by
    rw [List.length_map, k2.length_eq]
    rw [List.length_map] at hz
    exact hz
  exact ⟨.ref _, upd H (s.heap.objs.size + 1) (.lst ((out.map SrtO.iv).map V.int)), I.laid (t' := s.toks) (fun _ _ => PyProof.Rows.sortedAll_old) (Nat.le_succ _) ⟨hlen, out, ep, vals_of_ints k1, he'⟩, rfl, q _ _ k2 k3 (I.hok.fresh (Nat.le_succ _))⟩

/-- ints of a list, or of a tuple -/
def intsQ (G : GHp) : D → Option (List Int)
  | .tup ds => intsOf ds
  | x => intsG G x
theorem intsQ_of {K : PySem.W.Frag} {H : Hp} {G : GHp} {Z : Addr → Bool} {x : D} {v : V} {ns : List Int} (ok : Ok K H G Z) (r : Rep K (U H G Z) x v) (h : intsQ G x = some ns) : ∃ a, v = .ref a ∧ (H a = some (.lst (ns.map V.int)) ∨ SqT K H a (ns.map V.int)) := by
  cases x with
  | tup ds =>
    cases r with
    | tup q rr =>
      have h : intsOf ds = some ns := h
      rw [intsOf_eq h] at rr
      refine ⟨_, rfl, .inr ?_⟩
      rw [rr.ints] at q
      exact TupAt.sq U_le q
  | _ => obtain ⟨a, e, q⟩ := intsG_of (x := _) ok r h; exact ⟨a, e, .inl q⟩
def dOnIntsQ (C : List Int → Prop) (g : List Int → D) (x : D) (G : GHp) (Q : DK) : Prop := match intsQ G x with
  | some ns => C ns ∧ Q (g ns) G
  | none => False
theorem dcall_maxQ (hc : X.calm = true) : DCall X (.builtin "max") (dR1 (dOnIntsQ (fun ns => ns ≠ []) fun ns => .int (maxI ns))) :=
  dcall1 (CallR.or (cr_max hc) (cr_maxT hc)) fun x v H G Z Q Q0 ok r h k => by
    unfold dOnIntsQ at h
    split at h
    · next ns e =>
      obtain ⟨a, rfl, ha | ha⟩ := intsQ_of ok r e
      · refine .inl ⟨a, ns, rfl, SqL.of ha, List.length_pos_iff.mpr h.1, fun m hm hle => ?_⟩
        have e : m = maxI ns := by
          have h1 := maxI_mem h.1
          have h2 := hle _ h1.1
          have h3 := h1.2 _ hm
          omega
        subst e
        exact k _ _ _ _ h.2 .refl ok (.int _)
      · exact .inr ⟨a, ns, rfl, ha, h.1, k _ _ _ _ h.2 .refl ok (.int _)⟩
    · exact h.elim
theorem dcall_minQ (hc : X.calm = true) : DCall X (.builtin "min") (dR1 (dOnIntsQ (fun ns => ns ≠ []) fun ns => .int (minI ns))) :=
  dcall1 (CallR.or (cr_min hc) (cr_minT hc)) fun x v H G Z Q Q0 ok r h k => by
    unfold dOnIntsQ at h
    split at h
    · next ns e =>
      obtain ⟨a, rfl, ha | ha⟩ := intsQ_of ok r e
      · refine .inl ⟨a, ns, rfl, SqL.of ha, List.length_pos_iff.mpr h.1, fun m hm hle => ?_⟩
        have e : m = minI ns := by
          have h1 := minI_mem h.1
          have h2 := hle _ h1.1
          have h3 := h1.2 _ hm
          omega
        subst e
        exact k _ _ _ _ h.2 .refl ok (.int _)
      · exact .inr ⟨a, ns, rfl, ha, h.1, k _ _ _ _ h.2 .refl ok (.int _)⟩
    · exact h.elim
def dSortedQ (m : Bool) (x : D) (G : GHp) (Q : DK) : Prop := match intsQ G x with
  | some ns => lcEnd m ((sortI ns).map .int) G Q
  | none => False
theorem dcall_sortedQ (m : Bool) : DCall X (.builtin "sorted") (dR1 (dSortedQ m)) :=
  dcall1 (CallR.or cr_sortedI cr_sortedT) fun x v H G Z Q Q0 ok r h k => by
    unfold dSortedQ at h
    split at h
    · next ns e =>
      obtain ⟨a, rfl, ha⟩ := intsQ_of ok r e
      have fin : ∀ (ns' : List Int) (p : Addr), ns'.Perm ns → ns'.Pairwise (· ≤ ·) → H p = none → Q (.ref p) (upd H p (.lst (ns'.map V.int))) := fun ns' p hp hs hn => by
        have e : ns' = sortI ns := sorted_unique (hp.trans (sortI_perm ns).symm) hs (sortI_sorted ns)
        subst e
        exact lcEnd_of ok hn (Reps.of_ints _) h k
      rcases ha with ha | ha
      · exact .inl ⟨a, ns, rfl, SqL.of ha, fin⟩
      · exact .inr ⟨a, ns, rfl, ha, fin⟩
    · exact h.elim
end
end DL
set_option Elab.async false
set_option linter.all false
set_option maxRecDepth 100000
set_option maxHeartbeats 1000000
/-! DL, part 9: == and != of anything whose data is told, tracked lists within tracked lists too. -/
namespace DL
open PySem PySem.Spec L2

mutual
inductive DD (G : GHp) : D → PyData → Prop
  | non : DD G .non .none
  | bl (b : Bool) : DD G (.bl b) (.bool b)
  | int (i : Int) : DD G (.int i) (.int i)
  | str (x : Str) : DD G (.str x) (.str x)
  | tup {ds : List D} {ps : List PyData} : DDs G ds ps → DD G (.tup ds) (.tuple ps)
  | lst {ds : List D} {ps : List PyData} : DDs G ds ps → DD G (.lst ds) (.list ps)
  | ref {a : Addr} {ds : List D} {ps : List PyData} : G a = some (.lst ds) → DDs G ds ps → DD G (.ref a) (.list ps)
inductive DDs (G : GHp) : List D → List PyData → Prop
  | nil : DDs G [] []
  | cons {d : D} {p : PyData} {ds : List D} {ps : List PyData} : DD G d p → DDs G ds ps → DDs G (d :: ds) (p :: ps)
end
section
variable {K : PySem.W.Frag} {H : Hp} {G : GHp} {Z : Addr → Bool}
mutual
theorem DD.dp (ok : Ok K H G Z) : ∀ {d : D} {p : PyData} {v : V}, DD G d p → Rep K (U H G Z) d v → Dp K H v p
  | _, _, _, .non, r => by cases r; exact .non
  | _, _, _, .bl b, r => by cases r; exact .bl b
  | _, _, _, .int b, r => by cases r; exact .int b
  | _, _, _, .str b, r => by cases r; exact .str b
  | _, _, _, .tup h, r => by
    cases r with
    | tup q rr => exact .tup (TupAt.sq U_le q) (DDs.dp ok h rr)
  | _, _, _, .lst h, r => by
    cases r with
    | lst q rr => exact .lst (SqL.of (U_le _ _ q)) (DDs.dp ok h rr)
  | _, _, _, .ref e h, r => by
    cases r with
    | ref a =>
      obtain ⟨_, xs, h1, h2⟩ := ok.ok _ _ e
      exact .lst (SqL.of h1) (DDs.dp ok h h2)
theorem DDs.dp (ok : Ok K H G Z) : ∀ {ds : List D} {ps : List PyData} {vs : List V}, DDs G ds ps → Reps K (U H G Z) ds vs → DpAll K H vs ps
  | _, _, _, .nil, r => by cases r; exact .nil
  | _, _, _, .cons h t, r => by
    cases r with
    | cons r rr => exact .cons (DD.dp ok h r) (DDs.dp ok t rr)
end
end
def dEqQ : DR2 := fun x y G Q => match x, y with
  | .int i, .int j => Q (.bl (decide (i = j))) G
  | .str i, .str j => Q (.bl (decide (i = j))) G
  | .bl i, .bl j => Q (.bl (decide (i = j))) G
  | x, y => ∃ p q, DD G x p ∧ DD G y q ∧ SeqAt.shaped p = true ∧ SeqAt.shaped q = true ∧ Q (.bl (PyData.eqv p q)) G
def dNeQ : DR2 := fun x y G Q => match x, y with
  | .int i, .int j => Q (.bl (!decide (i = j))) G
  | .str i, .str j => Q (.bl (!decide (i = j))) G
  | .bl i, .bl j => Q (.bl (!decide (i = j))) G
  | x, y => ∃ p q, DD G x p ∧ DD G y q ∧ SeqAt.shaped p = true ∧ SeqAt.shaped q = true ∧ Q (.bl (!PyData.eqv p q)) G
section
variable {X : Cx}
theorem dop_eqQ (hu : X.A.units + 64 < cLine) : DOp X (compareOp .Eq) dEqQ :=
  OpR.imp (OpR.or op_eq (op_eqD hu)) fun v u H Q ⟨x, y, G, Z, Q0, ok, r1, r2, h, k⟩ => by
    have gen : (∃ p q, DD G x p ∧ DD G y q ∧ SeqAt.shaped p = true ∧ SeqAt.shaped q = true ∧ Q0 (.bl (PyData.eqv p q)) G) → rEqD X.K v u H Q :=
      fun ⟨p, q, e1, e2, s1, s2, h⟩ => ⟨p, q, e1.dp ok r1, e2.dp ok r2, s1, s2, k _ _ _ _ h .refl ok (.bl _)⟩
    cases r1 with
    | int i =>
      cases r2 with
      | int j => exact .inl ⟨rfl, by have := k _ _ _ _ h .refl ok (.bl _); simpa using this⟩
      | _ => exact .inr (gen h)
    | str i =>
      cases r2 with
      | str j => exact .inl ⟨rfl, by have := k _ _ _ _ h .refl ok (.bl _); simpa using this⟩
      | _ => exact .inr (gen h)
    | bl i =>
      cases r2 with
      | bl j => exact .inl ⟨rfl, by have := k _ _ _ _ h .refl ok (.bl _); simpa using this⟩
      | _ => exact .inr (gen h)
    | _ => cases r2 <;> exact .inr (gen h)
theorem dop_neQ (hu : X.A.units + 64 < cLine) : DOp X (compareOp .NotEq) dNeQ :=
  OpR.imp (OpR.or op_ne (op_neD hu)) fun v u H Q ⟨x, y, G, Z, Q0, ok, r1, r2, h, k⟩ => by
    have gen : (∃ p q, DD G x p ∧ DD G y q ∧ SeqAt.shaped p = true ∧ SeqAt.shaped q = true ∧ Q0 (.bl (!PyData.eqv p q)) G) → rNeD X.K v u H Q :=
      fun ⟨p, q, e1, e2, s1, s2, h⟩ => ⟨p, q, e1.dp ok r1, e2.dp ok r2, s1, s2, k _ _ _ _ h .refl ok (.bl _)⟩
    cases r1 with
    | int i =>
      cases r2 with
      | int j => exact .inl ⟨rfl, by have := k _ _ _ _ h .refl ok (.bl _); simpa using this⟩
      | _ => exact .inr (gen h)
    | str i =>
      cases r2 with
      | str j => exact .inl ⟨rfl, by have := k _ _ _ _ h .refl ok (.bl _); simpa using this⟩
      | _ => exact .inr (gen h)
    | bl i =>
      cases r2 with
      | bl j => exact .inl ⟨rfl, by have := k _ _ _ _ h .refl ok (.bl _); simpa using this⟩
      | _ => exact .inr (gen h)
    | _ => cases r2 <;> exact .inr (gen h)
end
/-! shapes -/
/-- laid with depth n at most -/
def Shp (n : Nat) (p : PyData) : Prop := p.canLay0 = true ∧ p.depth ≤ n
def Shps (n : Nat) (ps : List PyData) : Prop := PyData.canLayAll0 ps = true ∧ PyData.depthAll ps ≤ n
theorem Shp.ok {n : Nat} {p : PyData} (h : Shp n p) (hn : n ≤ 64) : SeqAt.shaped p = true := by
  unfold SeqAt.shaped
  rw [Bool.and_eq_true_iff]
  exact ⟨h.1, decide_eq_true (by have := h.2; omega)⟩
theorem Shp.int {n : Nat} (i : Int) : Shp n (.int i) := ⟨by simp [PyData.canLay0], by simp [PyData.depth]⟩
theorem Shp.bl {n : Nat} (i : Bool) : Shp n (.bool i) := ⟨by simp [PyData.canLay0], by simp [PyData.depth]⟩
theorem Shp.non {n : Nat} : Shp n .none := ⟨by simp [PyData.canLay0], by simp [PyData.depth]⟩
theorem Shps.nil {n : Nat} : Shps n [] := ⟨by simp [PyData.canLayAll0], by simp [PyData.depthAll]⟩
theorem Shps.cons {n : Nat} {p : PyData} {ps : List PyData} (h : Shp n p) (t : Shps n ps) : Shps n (p :: ps) :=
  ⟨by simp only [PyData.canLayAll0, h.1, t.1, Bool.and_self], by have := h.2; have := t.2; simp only [PyData.depthAll]; omega⟩
theorem Shps.of {n : Nat} : ∀ {ps : List PyData}, (∀ p ∈ ps, Shp n p) → Shps n ps
  | [], _ => .nil
  | p :: r, h => .cons (h p List.mem_cons_self) (Shps.of fun q hq => h q (List.mem_cons_of_mem _ hq))
theorem Shps.list {n : Nat} {ps : List PyData} (h : Shps n ps) : Shp (n + 1) (.list ps) := ⟨by simpa only [PyData.canLay0] using h.1, by have := h.2; simp only [PyData.depth]; omega⟩
theorem Shps.tuple {n : Nat} {ps : List PyData} (h : Shps n ps) : Shp (n + 1) (.tuple ps) := ⟨by simpa only [PyData.canLay0] using h.1, by have := h.2; simp only [PyData.depth]; omega⟩
theorem Shps.ints {n : Nat} (ns : List Int) : Shps n (ns.map .int) := .of fun p hp => by
  obtain ⟨i, _, rfl⟩ := List.mem_map.mp hp
  exact .int i
theorem DDs.ints {G : GHp} : ∀ ns : List Int, DDs G (ns.map .int) (ns.map .int)
  | [] => .nil
  | n :: r => .cons (.int n) (DDs.ints r)
theorem eqv_nil_r : ∀ ps : List PyData, PyData.eqv (.list ps) (.list []) = ps.isEmpty
  | [] => by simp [PyData.eqv, PyData.eqvAll]
  | p :: r => by simp [PyData.eqv, PyData.eqvAll]
mutual
theorem DD.len {G : GHp} : ∀ {ds : List D} {ps : List PyData}, DDs G ds ps → ds.length = ps.length
  | _, _, .nil => rfl
  | _, _, .cons _ t => by simp [DD.len t]
end
/-- xs == [] -/
theorem eq_nilL {G : GHp} {Q : DK} {ds : List D} {ps : List PyData} (d : DDs G ds ps) (s : Shps 63 ps) (h : Q (.bl ds.isEmpty) G) : dEqQ (.lst ds) (.lst []) G Q :=
  ⟨_, _, .lst d, .lst .nil, s.list.ok (by decide), (Shps.nil (n := 0)).list.ok (by decide), by
    rw [eqv_nil_r]
    have e := DD.len d
    cases ds <;> cases ps <;> simp_all⟩
theorem eq_nilR {G : GHp} {Q : DK} {a : Addr} {ds : List D} {ps : List PyData} (e : G a = some (.lst ds)) (d : DDs G ds ps) (s : Shps 63 ps) (h : Q (.bl ds.isEmpty) G) : dEqQ (.ref a) (.lst []) G Q :=
  ⟨_, _, .ref e d, .lst .nil, s.list.ok (by decide), (Shps.nil (n := 0)).list.ok (by decide), by
    rw [eqv_nil_r]
    have e := DD.len d
    cases ds <;> cases ps <;> simp_all⟩
theorem ne_nilL {G : GHp} {Q : DK} {ds : List D} {ps : List PyData} (d : DDs G ds ps) (s : Shps 63 ps) (h : Q (.bl (!ds.isEmpty)) G) : dNeQ (.lst ds) (.lst []) G Q :=
  ⟨_, _, .lst d, .lst .nil, s.list.ok (by decide), (Shps.nil (n := 0)).list.ok (by decide), by
    rw [eqv_nil_r]
    have e := DD.len d
    cases ds <;> cases ps <;> simp_all⟩
theorem ne_nilR {G : GHp} {Q : DK} {a : Addr} {ds : List D} {ps : List PyData} (e : G a = some (.lst ds)) (d : DDs G ds ps) (s : Shps 63 ps) (h : Q (.bl (!ds.isEmpty)) G) : dNeQ (.ref a) (.lst []) G Q :=
  ⟨_, _, .ref e d, .lst .nil, s.list.ok (by decide), (Shps.nil (n := 0)).list.ok (by decide), by
    rw [eqv_nil_r]
    have e := DD.len d
    cases ds <;> cases ps <;> simp_all⟩
end DL
set_option linter.all false
set_option maxRecDepth 100000
set_option maxHeartbeats 1000000
/-! DL, part 10: what many laws draw and compare by. -/
namespace DL
open PySem PySem.Spec L2
def tBox : DTS :=
  (dRet (dLstM (dCons (dCB (dR2 dMax2R) (dCons (dC (.int 0)) (dCons (dOp (dI0 fun i j => .int (i - j)) (dVar 0) (dOp (dI CPow fun i j => .int (i ^ j.toNat)) (dC (.int 10)) (dC (.int 18)))) dNil))) (dCons (dOp (dI (fun _ j => 0 < j) fun i j => .int (i % j)) (dCB (dR1 dIntR) (dCons (dVar 0) dNil)) (dC (.int 2147483587))) (dCons (dC (.int 0)) dNil)))))
def tTake : DTS :=
  (dSeq (dIf (dTestB (dOp (dCmpR (fun i j => decide (j < i)) (fun a b => decide (b < a))) (dOp dIxR (dVar 0) (dC (.int 0))) (dC (.int 0)))) (dSeq (dAsg (dOp (dI (fun _ j => 0 < j) fun i j => .int (i % j)) (dCB (dR1 dIntR) (dCons (dOp dIxR (dVar 0) (dC (.int 0))) dNil)) (dVar 1)) (.nm 2))
  (dSeq (dSub (dOp (dI CDivW fun i j => .int (i / j)) (dOp dIxR (dVar 0) (dC (.int 0))) (dVar 1)) (dVar 0) (dC (.int 0)))
  (dRet (dVar 2)))) dNext)
  (dSeq (dSub (dOp dAddR (dOp dIxR (dVar 0) (dC (.int 2))) (dC (.int 1))) (dVar 0) (dC (.int 2)))
  (dSeq (dAsg (dOp (dI (fun _ j => 0 < j) fun i j => .int (i % j)) (dCB (dR1 dIntR) (dCons (dOp (dI CPow fun i j => .int (i ^ j.toNat)) (dOp dAddR (dOp dAddR (dOp dIxR (dVar 0) (dC (.int 1))) (dOp (dI MulOk fun i j => .int (i * j)) (dC (.int 7001)) (dOp dIxR (dVar 0) (dC (.int 2))))) (dC (.int 37))) (dC (.int 5))) dNil)) (dC (.int 2147483647))) (.nm 3))
  (dSeq (dAsg (dOp (dI (fun _ j => 0 < j) fun i j => .int (i % j)) (dCB (dR1 dIntR) (dCons (dOp (dI CPow fun i j => .int (i ^ j.toNat)) (dOp dAddR (dOp (dI MulOk fun i j => .int (i * j)) (dOp dIxR (dVar 0) (dC (.int 1))) (dOp dIxR (dVar 0) (dC (.int 2)))) (dC (.int 65003))) (dC (.int 3))) dNil)) (dC (.int 2147483629))) (.nm 4))
  (dRet (dOp (dI (fun _ j => 0 < j) fun i j => .int (i % j)) (dOp (dI CDivW fun i j => .int (i / j)) (dOp dAddR (dOp (dI MulOk fun i j => .int (i * j)) (dVar 3) (dC (.int 2147483629))) (dVar 4)) (dC (.int 8))) (dVar 1)))))))
def tSame (sp_law_same : DSp) : DTS :=
  (dSeq (dIf (dOr (dTestB (dOp dIsR (dVar 1) (dC .non))) (dTest (dCB (dR2 dIsiR) (dCons (dVar 1) (dCons (dC (.ty .bool)) dNil))))) (dRet (dIfE (dTestB (dOp dIsR (dVar 1) (dC .non))) (dOp dIsR (dVar 0) (dC .non)) (dAndV (dCB (dR2 dIsiR) (dCons (dVar 0) (dCons (dC (.ty .bool)) dNil))) (dOp dEqQ (dOp dIsR (dVar 0) (dC (.bl true))) (dOp dIsR (dVar 1) (dC (.bl true))))))) dNext)
  (dSeq (dIf (dTest (dCB (dR2 dIsiR) (dCons (dVar 1) (dCons (dC (.ty .int)) dNil)))) (dRet (dAndV (dCB (dR2 dIsiR) (dCons (dVar 0) (dCons (dC (.ty .int)) dNil))) (dAndV (dNotV (dCB (dR2 dIsiR) (dCons (dVar 0) (dCons (dC (.ty .bool)) dNil)))) (dOp dEqQ (dOp (dI0 fun i j => .int (i - j)) (dCB (dR1 dIntR) (dCons (dVar 0) dNil)) (dVar 1)) (dC (.int 0)))))) dNext)
  (dSeq (dIf (dTest (dCB (dR2 dIsiR) (dCons (dVar 1) (dCons (dC (.ty .str)) dNil)))) (dSeq (dIf (dOr (dNot (dTest (dCB (dR2 dIsiR) (dCons (dVar 0) (dCons (dC (.ty .str)) dNil))))) (dTestB (dOp dNeQ (dCB (dR1 dLenR) (dCons (dVar 0) dNil)) (dCB (dR1 dLenR) (dCons (dVar 1) dNil))))) (dRet (dC (.bl false))) dNext)
  (dRet (dOp dEqQ (dLc false (dRng1 (dCB (dR1 dLenR) (dCons (dVar 1) dNil))) (.nm 2) (dTestB (dOp dNeQ (dSl (dSlR false) (dVar 0) (dPart (dVar 2)) (dPart (dOp dAddR (dVar 2) (dC (.int 1))))) (dOp dIxR (dVar 1) (dVar 2)))) (dVar 2) [2]) (dLst dNil)))) dNext)
  (dSeq (dIf (dOr (dTestB (dOp dNeQ (dCB (dR2 dIsiR) (dCons (dVar 0) (dCons (dC (.ty .lst)) dNil))) (dCB (dR2 dIsiR) (dCons (dVar 1) (dCons (dC (.ty .lst)) dNil))))) (dTestB (dOp dNeQ (dCB (dR2 dIsiR) (dCons (dVar 0) (dCons (dC (.ty .tup)) dNil))) (dCB (dR2 dIsiR) (dCons (dVar 1) (dCons (dC (.ty .tup)) dNil)))))) (dRet (dC (.bl false))) dNext)
  (dRet (dAndV (dOp dEqQ (dCB (dR1 dLenR) (dCons (dVar 0) dNil)) (dCB (dR1 dLenR) (dCons (dVar 1) dNil))) (dOp dEqQ (dLc false (dRng1 (dCB (dR1 dLenR) (dCons (dVar 1) dNil))) (.nm 2) (dNot (dTest (dCall sp_law_same [] (dCons (dOp dIxR (dVar 0) (dVar 2)) (dCons (dOp dIxR (dVar 1) (dVar 2)) dNil))))) (dVar 2) [2]) (dLst dNil))))))))
theorem qb {Q : DK} {G : GHp} {b : Bool} (e : b = true) (h : Q (.bl true) G) : Q (.bl b) G := e ▸ h
theorem ft {P : Prop} (e : false = true) : P := nomatch e
theorem tf {P : Prop} (e : true = false) : P := nomatch e
theorem qi {Q : DK} {G : GHp} {i j : Int} (e : i = j) (h : Q (.int i) G) : Q (.int j) G := e ▸ h

theorem mul_small {i j : Int} (h : (-(2 ^ 64) < i ∧ i < 2 ^ 64) ∨ (-(2 ^ 64) < j ∧ j < 2 ^ 64)) : MulOk i j := .inl h
theorem pow_small {i j : Int} (h : 0 ≤ j ∧ j ≤ 1000000 ∧ i.natAbs < 2 ^ 64) : L2.CPow i j := h
theorem divw_small {i j : Int} (h : 0 < j) (h2 : j.natAbs < 2 ^ 1000) : L2.CDivW i j := ⟨h, by
  have h3 : j.natAbs ≠ 0 := by omega
  have := (Nat.log2_lt h3).mpr h2
  omega⟩
theorem rd_take : ∀ x m G Q (E : DXK), (∃ (p : Addr) (s : Bx) (k : Nat) (n : Int), x = .ref p ∧ G p = some s.go ∧ s.Ok k ∧ k < 2 ^ 30 ∧ m = .int n ∧ 0 < n ∧ n.natAbs < 2 ^ 1000 ∧
  ∀ (v : Int) (s' : Bx), 0 ≤ v → v < n → s'.Ok (k + 1) → Q (.int v) (gupd G p s'.go)) → DRun tTake [some x, some m, none, none, none] G Q := by
  rintro x m G Q E ⟨p, ⟨a, b, c⟩, k, n, rfl, hp, ⟨a0, b0, b1, c0, c1⟩, hk, rfl, hn, hn2, h⟩
  change G p = some (.lst [.int a, .int b, .int c]) at hp
  change 0 ≤ a at a0
  change 0 ≤ b at b0
  change b < _ at b1
  change 0 ≤ c at c0
  change c ≤ _ at c1
  have hl : lsOf G (.ref p) = some [.int a, .int b, .int c] := lsOf_ref hp
  conv => whnf
  rw [hl]
  conv => whnf
  refine ⟨fun e => ?_, fun e => ?_⟩
  · have ha : 0 < a := of_decide_eq_true e
    conv => whnf
    rw [hl]
    conv => whnf
    refine ⟨hn, ?_⟩
    conv => whnf
    rw [hl]
    conv => whnf
    refine ⟨divw_small hn hn2, ?_⟩
    conv => whnf
    rw [hp]
    conv => whnf
    exact h _ ⟨a / n, b, c⟩ (Int.emod_nonneg _ (by omega)) (Int.emod_lt_of_pos _ hn) ⟨Int.ediv_nonneg a0 (by omega), b0, b1, c0, by show c ≤ _; omega⟩
  · have ha : a ≤ 0 := by have := of_decide_eq_false e; omega
    conv => whnf
    rw [hl]
    conv => whnf
    rw [hp]
    conv => whnf
    rw [lsOf_ref gupd_same]
    conv => whnf
    rw [lsOf_ref gupd_same]
    conv => whnf
    refine ⟨mul_small (.inl (by omega)), ?_⟩
    conv => whnf
    refine ⟨pow_small (by omega), ?_⟩
    conv => whnf
    refine ⟨by omega, ?_⟩
    conv => whnf
    rw [lsOf_ref gupd_same]
    conv => whnf
    rw [lsOf_ref gupd_same]
    conv => whnf
    refine ⟨mul_small (.inl (by omega)), ?_⟩
    conv => whnf
    refine ⟨pow_small ⟨by omega, by omega, ?_⟩, ?_⟩
    · have := Int.mul_le_mul_of_nonneg_right (show b ≤ 2147483648 by omega) (show 0 ≤ c + 1 by omega)
      have h0 : 0 ≤ b * (c + 1) := Int.mul_nonneg b0 (by omega)
      show (b * (c + 1) + 65003).natAbs < _
      omega
    conv => whnf
    refine ⟨by omega, ?_⟩
    conv => whnf
    refine ⟨mul_small (.inr (by omega)), ?_⟩
    conv => whnf
    refine ⟨⟨by decide, by decide⟩, ?_⟩
    conv => whnf
    refine ⟨hn, ?_⟩
    conv => whnf
    exact h _ ⟨a, b, c + 1⟩ (Int.emod_nonneg _ (by omega)) (Int.emod_lt_of_pos _ hn) ⟨a0, b0, b1, by show 0 ≤ c + 1; omega, by show c + 1 ≤ _; omega⟩
theorem rd_box : ∀ x G Q (E : DXK), (∃ z : Int, x = .int z ∧ ∀ (p : Addr) (s : Bx), G p = none → s.Ok 0 → Q (.ref p) (gupd G p s.go)) → DRun tBox [some x] G Q := by
  rintro x G Q E ⟨z, rfl, h⟩
  conv => whnf
  refine ⟨pow_small (by decide), ?_⟩
  conv => whnf
  refine ⟨by omega, ?_⟩
  conv => whnf
  refine ⟨by show 3 ≤ sizeLine; decide, fun p hp => ?_⟩
  exact h p ⟨max 0 (z - 10 ^ 18), z % 2147483587, 0⟩ hp ⟨by show 0 ≤ max 0 _; omega, Int.emod_nonneg _ (by omega), by have := Int.emod_lt_of_pos z (show (0 : Int) < 2147483587 by omega); show z % _ < _; omega, by show (0 : Int) ≤ 0; decide, by show (0 : Int) ≤ 0; decide⟩

theorem smallL {n : Nat} (h : n ≤ 100000) : n ≤ sizeLine := Nat.le_trans h (by decide)
theorem smallLt {n : Nat} (h : n < 100000) : n < sizeLine := Nat.lt_of_lt_of_le h (by decide)

theorem isEmpty_map {α β : Type} (f : α → β) (l : List α) : (l.map f).isEmpty = l.isEmpty := by cases l <;> rfl

theorem filter_no {α : Type} (l : List α) : l.filter (fun _ => false) = [] := by simp

theorem filter_yes {α : Type} (l : List α) : l.filter (fun _ => true) = l := by simp

/-- None, truths, whole numbers, lists and tuples of such, below depth n -/
def fz : Nat → D → Bool
  | 0, _ => false
  | _ + 1, .non => true
  | _ + 1, .bl _ => true
  | _ + 1, .int _ => true
  | n + 1, .tup ds => decide (ds.length ≤ 1000) && ds.all (fz n)
  | n + 1, .lst ds => decide (ds.length ≤ 1000) && ds.all (fz n)
  | _ + 1, _ => false
def prSame (n : Nat) (x y : D) (G : GHp) (Q : DK) : Prop := ∃ S, Tree G S x y ∧ fz n y = true ∧ Q (.bl true) G
def spSame (n : Nat) : DSp := sp2 fun x y G Q _ => prSame n x y G Q
theorem no_same {ds : List D} {G : GHp} {Q : DK} {E : DXK} (h : spSame 0 ds G Q E) : False := by
  match ds, h with
  | [x, y], ⟨S, _, h, _⟩ => cases h
theorem rd_sameG (n : Nat) {sp : DSp} (hsp : ∀ ds G Q E, spSame n ds G Q E → sp ds G Q E) : ∀ x y G Q (E : DXK), prSame (n + 1) x y G Q → DRun (tSame sp) [some x, some y, none] G Q := by
  rintro x y G Q E ⟨S, ht, hz, h⟩
  cases y with
  | non =>
    cases ht
    conv => whnf
    refine ⟨fun _ => ?_, fun e => tf e⟩
    conv => whnf
    refine ⟨fun _ => ?_, fun e => tf e⟩
    conv => whnf
    exact ⟨fun _ => h, fun e => tf e⟩
  | bl b =>
    cases ht
    conv => whnf
    refine ⟨fun e => ft e, fun _ => ?_⟩
    conv => whnf
    refine ⟨fun _ => ?_, fun e => tf e⟩
    conv => whnf
    refine ⟨fun e => ft e, fun _ => ?_⟩
    conv => whnf
    refine ⟨fun _ => ?_, fun e => tf e⟩
    conv => whnf
    exact qb (decide_eq_true rfl) h
  | int i =>
    cases ht
    conv => whnf
    refine ⟨fun e => ft e, fun _ => ?_⟩
    conv => whnf
    refine ⟨fun e => ft e, fun _ => ?_⟩
    conv => whnf
    refine ⟨fun _ => ?_, fun e => tf e⟩
    conv => whnf
    refine ⟨fun _ => ?_, fun e => tf e⟩
    conv => whnf
    refine ⟨fun _ => ?_, fun e => tf e⟩
    conv => whnf
    exact qb (decide_eq_true (by omega)) h
  | lst ts =>
    have hz : (decide (ts.length ≤ 1000) && ts.all (fz n)) = true := hz
    rw [Bool.and_eq_true] at hz
    have hl := of_decide_eq_true hz.1
    have hall := List.all_eq_true.mp hz.2
    have key : ∀ (ds : List D), Trees G S ds ts → (x = .lst ds ∨ ∃ a, x = .ref a ∧ G a = some (.lst ds)) → DRun (tSame sp) [some x, some (.lst ts), none] G Q := by
      intro ds tr hx
      have el := tr.length
      rcases hx with rfl | ⟨a, rfl, ha⟩
      · conv => whnf
        refine ⟨fun e => ft e, fun _ => ?_⟩
        conv => whnf
        refine ⟨fun e => ft e, fun _ => ?_⟩
        conv => whnf
        refine ⟨fun e => ft e, fun _ => ?_⟩
        conv => whnf
        refine ⟨fun e => ft e, fun _ => ?_⟩
        conv => whnf
        refine ⟨fun e => ft e, fun _ => ?_⟩
        conv => whnf
        refine ⟨fun e => ft e, fun _ => ?_⟩
        conv => whnf
        refine ⟨fun _ => ?_, fun e => absurd (of_decide_eq_false e) (fun q => q (by rw [el]))⟩
        conv => whnf
        refine ⟨by unfold RgB; omega, ?_⟩
        refine lc_map (enc := fun (i : Nat) => D.int (0 + i)) (keep := fun _ => false) (f := fun i => D.int (0 + i)) (smallL (by rw [List.length_range]; omega)) trivial (fun i hi R hR => ?_) (fun d hd _ R hR => hR) ?_
        · have hi : i < ts.length := by have := List.mem_range.mp hi; omega
          conv => whnf
          refine atD_get (d := ds[i]'(by omega)) (by omega) (by omega) (by rw [show ((0 : Int) + (i : Int)).toNat = i by omega, List.getElem?_eq_getElem (by omega)]) ?_
          conv => whnf
          refine atD_get (d := ts[i]) (by omega) (by omega) (by rw [show ((0 : Int) + (i : Int)).toNat = i by omega, List.getElem?_eq_getElem (by omega)]) ?_
          conv => whnf
          obtain ⟨t, e1, e2⟩ := tr.get (i := i) (d := ds[i]'(by omega)) (List.getElem?_eq_getElem (by omega))
          rw [List.getElem?_eq_getElem hi] at e1
          cases e1
          refine hsp [_, _] _ _ _ ⟨S, e2, hall _ (List.getElem_mem hi), ?_⟩
          exact hR
        · rw [filter_no]
          conv => whnf
          refine ⟨smallL (by simp), ?_⟩
          exact eq_nilL .nil .nil h
      · conv => whnf
        refine ⟨fun e => ft e, fun _ => ?_⟩
        conv => whnf
        refine ⟨fun e => ft e, fun _ => ?_⟩
        conv => whnf
        refine ⟨fun e => ft e, fun _ => ?_⟩
        conv => whnf
        refine ⟨fun e => ft e, fun _ => ?_⟩
        conv => whnf
        rw [show tgOf G (.ref a) = some .lst by unfold tgOf; simp only [ha]]
        conv => whnf
        refine ⟨fun e => ft e, fun _ => ?_⟩
        conv => whnf
        rw [show tgOf G (.ref a) = some .lst by unfold tgOf; simp only [ha]]
        conv => whnf
        refine ⟨fun e => ft e, fun _ => ?_⟩
        conv => whnf
        rw [lsOf_ref ha]
        conv => whnf
        refine ⟨fun _ => ?_, fun e => absurd (of_decide_eq_false e) (fun q => q (by rw [el]))⟩
        conv => whnf
        refine ⟨by unfold RgB; omega, ?_⟩
        refine lc_map (enc := fun (i : Nat) => D.int (0 + i)) (keep := fun _ => false) (f := fun i => D.int (0 + i)) (smallL (by rw [List.length_range]; omega)) trivial (fun i hi R hR => ?_) (fun d hd _ R hR => hR) ?_
        · have hi : i < ts.length := by have := List.mem_range.mp hi; omega
          conv => whnf
          rw [lsOf_ref ha]
          refine atD_get (d := ds[i]'(by omega)) (by omega) (by omega) (by rw [show ((0 : Int) + (i : Int)).toNat = i by omega, List.getElem?_eq_getElem (by omega)]) ?_
          conv => whnf
          refine atD_get (d := ts[i]) (by omega) (by omega) (by rw [show ((0 : Int) + (i : Int)).toNat = i by omega, List.getElem?_eq_getElem (by omega)]) ?_
          conv => whnf
          obtain ⟨t, e1, e2⟩ := tr.get (i := i) (d := ds[i]'(by omega)) (List.getElem?_eq_getElem (by omega))
          rw [List.getElem?_eq_getElem hi] at e1
          cases e1
          refine hsp [_, _] _ _ _ ⟨S, e2, hall _ (List.getElem_mem hi), ?_⟩
          exact hR
        · rw [filter_no]
          conv => whnf
          refine ⟨smallL (by simp), ?_⟩
          exact eq_nilL .nil .nil h
    cases ht with
    | same => exact key ts (Trees.same ts) (.inl rfl)
    | lst tr => exact key _ tr (.inl rfl)
    | ref hs ha tr => exact key _ tr (.inr ⟨_, rfl, ha⟩)
  | tup ts =>
    have hz : (decide (ts.length ≤ 1000) && ts.all (fz n)) = true := hz
    rw [Bool.and_eq_true] at hz
    have hl := of_decide_eq_true hz.1
    have hall := List.all_eq_true.mp hz.2
    have key : ∀ (ds : List D), Trees G S ds ts → DRun (tSame sp) [some (.tup ds), some (.tup ts), none] G Q := by
      intro ds tr
      have el := tr.length
      conv => whnf
      refine ⟨fun e => ft e, fun _ => ?_⟩
      conv => whnf
      refine ⟨fun e => ft e, fun _ => ?_⟩
      conv => whnf
      refine ⟨fun e => ft e, fun _ => ?_⟩
      conv => whnf
      refine ⟨fun e => ft e, fun _ => ?_⟩
      conv => whnf
      refine ⟨fun e => ft e, fun _ => ?_⟩
      conv => whnf
      refine ⟨fun e => ft e, fun _ => ?_⟩
      conv => whnf
      refine ⟨fun _ => ?_, fun e => absurd (of_decide_eq_false e) (fun q => q (by rw [el]))⟩
      conv => whnf
      refine ⟨by unfold RgB; omega, ?_⟩
      refine lc_map (enc := fun (i : Nat) => D.int (0 + i)) (keep := fun _ => false) (f := fun i => D.int (0 + i)) (smallL (by rw [List.length_range]; omega)) trivial (fun i hi R hR => ?_) (fun d hd _ R hR => hR) ?_
      · have hi : i < ts.length := by have := List.mem_range.mp hi; omega
        conv => whnf
        refine atD_get (d := ds[i]'(by omega)) (by omega) (by omega) (by rw [show ((0 : Int) + (i : Int)).toNat = i by omega, List.getElem?_eq_getElem (by omega)]) ?_
        conv => whnf
        refine atD_get (d := ts[i]) (by omega) (by omega) (by rw [show ((0 : Int) + (i : Int)).toNat = i by omega, List.getElem?_eq_getElem (by omega)]) ?_
        conv => whnf
        obtain ⟨t, e1, e2⟩ := tr.get (i := i) (d := ds[i]'(by omega)) (List.getElem?_eq_getElem (by omega))
        rw [List.getElem?_eq_getElem hi] at e1
        cases e1
        refine hsp [_, _] _ _ _ ⟨S, e2, hall _ (List.getElem_mem hi), ?_⟩
        exact hR
      · rw [filter_no]
        conv => whnf
        refine ⟨smallL (by simp), ?_⟩
        exact eq_nilL .nil .nil h
    cases ht with
    | same => exact key ts (Trees.same ts)
    | tup tr => exact key _ tr
  | _ => cases hz
theorem rd_same (n : Nat) : ∀ x y G Q (E : DXK), prSame (n + 1) x y G Q → DRun (tSame (spSame n)) [some x, some y, none] G Q := rd_sameG n fun _ _ _ _ h => h

/-- a box at p, drawn from k times at most; all else as in G0 -/
def Bk (G0 : GHp) (p : Addr) (k : Nat) (G : GHp) : Prop := (∃ s : Bx, G p = some s.go ∧ s.Ok k) ∧ ∀ b, b ≠ p → G b = G0 b
theorem Bk.mono {G0 G : GHp} {p : Addr} {j k : Nat} (h : Bk G0 p j G) (hk : j ≤ k) : Bk G0 p k G := by
  obtain ⟨⟨s, h1, h2⟩, h3⟩ := h
  exact ⟨⟨s, h1, h2.mono hk⟩, h3⟩
theorem tk {sp : DSp} (hsp : ∀ ds G Q E, spTake ds G Q E → sp ds G Q E) {G0 G : GHp} {p : Addr} {k : Nat} {n : Int} {Q : DK} {E : DXK} (B : Bk G0 p k G) (hk : k < 1000000) (hn : 0 < n) (hb : n < 2 ^ 64) (h : ∀ v G', 0 ≤ v → v < n → Bk G0 p (k + 1) G' → Q (.int v) G') : sp [.ref p, .int n] G Q E := by
  apply hsp
  obtain ⟨⟨s, h1, h2⟩, h3⟩ := B
  refine ⟨p, s, k, n, rfl, h1, h2, by omega, rfl, hn, Nat.lt_of_lt_of_le (show n.natAbs < 2 ^ 64 by omega) (Nat.pow_le_pow_right (by decide) (by decide)), fun v s' a b c => h v _ a b ⟨⟨s', gupd_same, c⟩, fun b hb => ?_⟩⟩
  rw [gupd_ne hb]; exact h3 b hb
theorem Bk.put {G0 G : GHp} {p q : Addr} {k : Nat} {o o' : GO} (B : Bk (gupd G0 q o) p k G) (hq : q ≠ p) : Bk (gupd G0 q o') p k (gupd G q o') := by
  obtain ⟨⟨s, h1, h2⟩, h3⟩ := B
  refine ⟨⟨s, gupd_at hq.symm h1, h2⟩, fun b hb => ?_⟩
  by_cases e : b = q
  · subst e; rw [gupd_same, gupd_same]
  · rw [gupd_ne e, gupd_ne e, h3 b hb, gupd_ne e]
theorem Bk.new {G0 G : GHp} {p q : Addr} {k : Nat} {o : GO} (B : Bk G0 p k G) (hq : q ≠ p) : Bk (gupd G0 q o) p k (gupd G q o) := by
  obtain ⟨⟨s, h1, h2⟩, h3⟩ := B
  refine ⟨⟨s, gupd_at hq.symm h1, h2⟩, fun b hb => ?_⟩
  by_cases e : b = q
  · subst e; rw [gupd_same, gupd_same]
  · rw [gupd_ne e, gupd_ne e, h3 b hb]
theorem Bk.at_ {G0 G : GHp} {p q : Addr} {k : Nat} {o : GO} (B : Bk (gupd G0 q o) p k G) (hq : q ≠ p) : G q = some o := by rw [B.2 q hq, gupd_same]
theorem Bk.ne {G0 G : GHp} {p q : Addr} {k : Nat} (B : Bk G0 p k G) (hq : G q = none) : q ≠ p := fun e => by
  obtain ⟨⟨s, h1, _⟩, _⟩ := B
  rw [e, h1] at hq; cases hq

end DL
set_option Elab.async false
set_option linter.all false
set_option maxRecDepth 100000
set_option maxHeartbeats 1000000
/-! DL, part 11: enumerate of a tuple; comprehensions with any target. -/
namespace DL
open PySem PySem.Spec L2 PyProof.Rows

theorem meets_enumT (l : Addr) (items : Array Value) :
    Meets (Builtin.«enumerate.__new__» ⟨[.type "enumerate", .ref l], []⟩) (fun _ R s => s.heap.IsTuple l items ∧
      R (.ok (.ret (.ref (s.heap.push { cls := .type "tuple_iterator", data := .fields #[.ref l, .int 0 0] }).objs.size)))
        { s with heap := (s.heap.push { cls := .type "tuple_iterator", data := .fields #[.ref l, .int 0 0] }).push { cls := .type "enumerate", data := .fields #[.none, .bool false, .ref s.heap.objs.size, rawInt 0, .none, .none] } }) :=
  .of_wp fun prog w A R s h => by
    obtain ⟨hp, g, d, tk, os⟩ := s
    obtain ⟨hL, h⟩ := h
    have hsub := sub_enumerate
    have q1 : ∀ {A' : Around} {E : Value → Shared → Prop} {Q : Value → Shared → Prop}, Q (.ref hp.objs.size) ⟨hp.push { cls := .type "tuple_iterator", data := .fields #[.ref l, .int 0 0] }, g, d, tk, os⟩ → wpAny (model prog w) A' (pyIter (.ref l)) Q E ⟨hp, g, d, tk, os⟩ :=
      fun q => wpAny_pyIter_tuple hL q
    wp_walk using q1
    refine wpAny_stack_any fun st => wpAny_pure ?_
    split
    · rename_i c _ _ _ _ _
      cases (c == Value.type "enumerate")
      · wp_walk using q1
        exact ⟨_, rfl, h⟩
      · wp_walk using q1
        exact ⟨_, rfl, h⟩
    · wp_walk using q1
      exact ⟨_, rfl, h⟩
section
variable {prog : Program} {w : World} {A : Around} {E : Value → Shared → Prop} {s : Shared}
theorem call_enumT {l : Addr} {items : Array Value} {Q : Value → Shared → Prop} (hL : s.heap.IsTuple l items)
    (h : ∀ h', IsEnum h' (s.heap.objs.size + 1) s.heap.objs.size 0 .none → h'.IsTupleIter s.heap.objs.size l 0 → h'.objs.size = s.heap.objs.size + 2 →
      (∀ b o, s.heap.get? b = some o → h'.get? b = some o) → Q (.ref (s.heap.objs.size + 1)) { s with heap := h' }) :
    wpAny (model prog w) A (call (.type "enumerate") [.ref l]) Q E s := by
  refine callType_new F.called_enumerate (by decide) (F.typeCall_enumerate_1 _) (F.newCall_enumerate_1 _) (fun obj => F.args_object_init_2 obj _) F.entry_enumerate_new
    (meets_enumT l items) ⟨hL, ?_⟩
  have hz : (s.heap.push { cls := .type "tuple_iterator", data := .fields #[.ref l, .int 0 0] }).objs.size = s.heap.objs.size + 1 := Heap.size_push ..
  show _ ∧ _
  rw [hz]
  have he : IsEnum ((s.heap.push { cls := .type "tuple_iterator", data := .fields #[.ref l, .int 0 0] }).push
      { cls := .type "enumerate", data := .fields #[.none, .bool false, .ref s.heap.objs.size, rawInt 0, .none, .none] }) (s.heap.objs.size + 1) s.heap.objs.size 0 .none := by
    have := Heap.get?_push_size (s.heap.push { cls := .type "tuple_iterator", data := .fields #[.ref l, .int 0 0] })
      (o := { cls := .type "enumerate", data := .fields #[.none, .bool false, .ref s.heap.objs.size, rawInt 0, .none, .none] }) rfl
    rw [hz] at this; exact this
  exact ⟨⟨_, he, rfl⟩, h _ he ⟨_, Heap.get?_push_of_some _ (Heap.get?_push_size _ rfl), rfl, rfl⟩ (by rw [Heap.size_push, hz]) fun b o x => Heap.get?_push_of_some _ (Heap.get?_push_of_some _ x)⟩
end
/-- the tuple at a, each item in a new pair -/
def IteT (K : PySem.W.Frag) (a : Addr) : It :=
  ⟨fun i H => ∃ (xs : List V) (x : V), SqT K H a xs ∧ xs[i]? = some x, fun i H v H' => ∃ T x, v = .ref T ∧ H T = none ∧ H' = upd H T (.tup [.int (i : Nat), x]) ∧ ∀ xs, SqT K H a xs → xs[i]? = some x, fun i H => ∃ xs : List V, SqT K H a xs ∧ xs.length ≤ i⟩
theorem turn_enumT {P : Program} {w : World} {K : PySem.W.Frag} {elts : List Expr} {kk : Nat} {tpos : Pos} (a e it : Addr) :
    Turn P w K (.Tuple elts kk tpos) (IteT K a) [e, it] e (fun i h => (∃ old, IsEnum h e it ((i : Nat) : Int) old) ∧ h.IsTupleIter it a i ∧ e ≠ it ∧ a ≠ it ∧ a ≠ e) where
  mem := by simp
  obj := fun i h st b hb => by
    obtain ⟨⟨old, he⟩, ⟨o, ho, hc, hd⟩, _⟩ := st
    have e' : b = e ∨ b = it := by simpa using hb
    rcases e' with z | z
    · rw [z]; exact ⟨_, he, fun v q => nomatch q⟩
    · rw [z]; exact ⟨o, ho, fun v q => by rw [hd] at q; cases q⟩
  keep := fun i h h' st k => let ⟨⟨old, he⟩, hi, hne⟩ := st; ⟨⟨old, k e (by simp) _ he⟩, hi.at fun o q => k it (by simp) o q, hne⟩
  item := by
    intro X hP hw hK hc i pins s σ H E I hf st hg
    subst hP hw hK
    obtain ⟨⟨old, he⟩, hit, hne, hait, hae⟩ := st
    obtain ⟨xs, x, hq, hx⟩ := hg
    obtain ⟨its, rv, p, hz⟩ := I.tuple hq
    have p : s.heap.IsTuple a its.toArray := p
    obtain ⟨u, hu, ru⟩ := rv.get hx
    have hel : e < s.heap.objs.size := Heap.lt_size he
    have hil : it < s.heap.objs.size := by obtain ⟨_, q, _⟩ := hit; exact Heap.lt_size q
    have hi : i < its.toArray.size := by
      have := (List.getElem?_eq_some_iff.mp hu).1
      simpa using this
    refine wpAny_pyNext_enum_itemD (Draws.tuple (A := X.A.in1) (I.ok.hd hc) it a hait its.toArray) he ⟨hit, p⟩ hi hne (by simp [hne, Ne.symm hae]) fun y h' tk hy ho hst' hT hsz hk => ?_
    have ey : y = u := by
      have h1 : its.toArray[i]? = some y := hy
      rw [show its.toArray[i]? = its[i]? by simp, hu] at h1
      exact (Option.some.inj h1).symm
    subst ey
    have hit' := hst'.1
    refine ⟨_, rfl, wpAny_letOwnedTupleGo_enum (s := { s with heap := h', toks := tk + 1 }) ho fun h'' he' sb => ?_⟩
    have hT2 : h''.get? s.heap.objs.size = some { cls := .type "tuple", data := .seq #[.int i tk, y] } := (sb.2 _ (Nat.ne_of_gt hel)).trans hT
    have new : ObjOk X.prog X.w (upd H s.heap.objs.size (.tup [.int (i : Nat), x])) h'' s.heap.objs.size (.tup [.int (i : Nat), x]) :=
      ⟨by show 2 ≤ sizeLine; decide, [.int i tk, y], .cons ⟨_, rfl⟩ (.cons ru .nil), ⟨_, hT2, rfl, _, rfl⟩⟩
    have I1 : Inv X pins σ (upd H s.heap.objs.size (.tup [.int (i : Nat), x])) { s with heap := h'', toks := tk + 1 } :=
      I.turnedNew (ch := [e, it]) (fun b ob hb q => (sb.2 b (fun z => hb (by simp [z]))).trans (hk b ob (fun z => hb (by simp [z])) (fun z => hb (by simp [z])) q)) hf (Nat.le_refl _) new
    refine ⟨.ref s.heap.objs.size, _, I1, rfl, ⟨_, x, rfl, I.hok.fresh (Nat.le_refl _), rfl, fun ys hy => by rw [I.tuple_inj hy hq]; exact hx⟩, ⟨⟨y, ?_⟩, hit'.at fun o q => (sb.2 it (Ne.symm hne)).trans q, hne, hait, hae⟩, fun b hb => ?_⟩
    · have e1 : ((i + 1 : Nat) : Int) = (i : Int) + 1 := by omega
      rw [e1]; exact he'
    · have hb' : b < s.heap.objs.size := by
        have e' : b = e ∨ b = it := by simpa using hb
        rcases e' with z | z
        · rw [z]; exact hel
        · rw [z]; exact hil
      rw [upd_ne (Nat.ne_of_lt hb')]
      exact (hf b hb).1
  done := by
    intro X hP hw hK hc i pins s σ H E I hf st hg
    subst hP hw hK
    obtain ⟨⟨old, he⟩, hit, hne, hait, hae⟩ := st
    obtain ⟨xs, hq, hx⟩ := hg
    obtain ⟨its, rv, p, hz⟩ := I.tuple hq
    have p : s.heap.IsTuple a its.toArray := p
    obtain ⟨f0, f1, f2, f3, f4, f5⟩ := hf it (by simp)
    have hl := rv.length
    have hT : s.TypeIs (.ref e) "enumerate" := ⟨_, he, rfl⟩
    unfold pyNext
    refine wpAny_bind (wpAny_attempt (wpAny_callSpecial?_slot (name := Str.ofString "__next__") hT F.slot_enumerate_next
      (wpAny_call_entry F.slot_enumerate_next hT F.entry_enumerate_next ?_ (F.args_enumerate_next_1 _))))
    show wpAny _ _ (field (.ref e) 2 >>= _) _ _ _
    refine wpAny_bind (wpAny_field he rfl (x := .ref it) rfl ?_)
    refine wpAny_bind (wpAny_nextOf_tuple_end (A := X.A.in1) (I.ok.hd hc) hit p (by simp; omega) fun h' x he' hx' => ?_)
    obtain ⟨o, ho, hc'⟩ := hx'
    refine wpAny_bind (wpAny_isInstance (T := "StopIteration") (b := true) ⟨o, ho, hc'⟩ isSubtype_stop ?_)
    exact wpAny_pure ⟨rfl, I.turned (t' := s.toks) (fun b o hb q => he' b o hb q) f0 f1 f3 f4 f5⟩
  self := fun A i s Q E st h => let ⟨⟨_, he⟩, _⟩ := st; wpAny_pyIter_enum he h
def iEnumQ (K : PySem.W.Frag) (ta : TA) : TI := fun σ H R => ta σ H fun vs H1 => ∃ a xs, vs = [.ref a] ∧ ((SqL K H1 a xs ∧ R (Ite K a) H1) ∨ (SqT K H1 a xs ∧ R (IteT K a) H1))
theorem pi_enumQ {X : Cx} {e : Expr} {ta : TA} {p pos tpos : Pos} {elts : List Expr} {kk : Nat} (hg : Gl X "enumerate") (hm : X.mg "enumerate" = none) (ha : PA X [e] ta) (hs : starEach [e] X.env = [(false, eval e X.env)] := by rfl) :
    PI X (.Tuple elts kk tpos) (.Call (.Name "enumerate" p) [e] [] pos) (iEnumQ X.K ta) := by
  refine ⟨fun pins s σ H R I h => ?_⟩
  refine PyProof.Rows.Call_ (ld_blt I hg hm PyProof.Rows.boot_enumerate (PyProof.Rows.callWith_type1 (thn (ha.run pos pins s σ H _ I h) fun us s1 ⟨vs, H1, I1, r1, q1⟩ => ?_) hs rfl))
  obtain ⟨a, xs, ex, hq⟩ := q1
  subst ex
  cases r1 with
  | cons r rr =>
    cases rr
    cases r
    rcases hq with ⟨hq, q⟩ | ⟨hq, q⟩
    · obtain ⟨its, rv, p', hz⟩ := I1.list hq
      refine call_enumerate_list p'.isList fun h' he hit hsz hk => wpAny_pyIter_enum he ?_
      have I2 : Inv X pins σ H1 { s1 with heap := h' } := I1.kept (t' := s1.toks) hk
      refine ⟨s1.heap.objs.size + 1, [s1.heap.objs.size + 1, s1.heap.objs.size], _, _, H1, rfl, I2, turn_enum a (s1.heap.objs.size + 1) s1.heap.objs.size, ⟨⟨.none, he⟩, hit, Nat.succ_ne_self _⟩, fun b hb => ?_, q⟩
      have e' : b = s1.heap.objs.size + 1 ∨ b = s1.heap.objs.size := by simpa using hb
      have hle : s1.heap.objs.size ≤ b := by
        rcases e' with z | z
        · rw [z]; exact Nat.le_add_right _ _
        · rw [z]; exact Nat.le_refl _
      exact I1.fpOk hle (I1.hok.fresh hle)
    · obtain ⟨its, rv, p', hz⟩ := I1.tuple hq
      have p' : s1.heap.IsTuple a its.toArray := p'
      have hal : a < s1.heap.objs.size := by obtain ⟨_, q, _⟩ := p'; exact Heap.lt_size q
      refine call_enumT p' fun h' he hit hsz hk => wpAny_pyIter_enum he ?_
      have I2 : Inv X pins σ H1 { s1 with heap := h' } := I1.kept (t' := s1.toks) hk
      refine ⟨s1.heap.objs.size + 1, [s1.heap.objs.size + 1, s1.heap.objs.size], _, _, H1, rfl, I2, turn_enumT a (s1.heap.objs.size + 1) s1.heap.objs.size, ⟨⟨.none, he⟩, hit, Nat.succ_ne_self _, Nat.ne_of_lt hal, Nat.ne_of_lt (Nat.lt_succ_of_lt hal)⟩, fun b hb => ?_, q⟩
      have e' : b = s1.heap.objs.size + 1 ∨ b = s1.heap.objs.size := by simpa using hb
      have hle : s1.heap.objs.size ≤ b := by
        rcases e' with z | z
        · rw [z]; exact Nat.le_add_right _ _
        · rw [z]; exact Nat.le_refl _
      exact I1.fpOk hle (I1.hok.fresh hle)
section
variable {K : PySem.W.Frag} {H : Hp} {G : GHp} {Z : Addr → Bool}
theorem it_enumT {a : Addr} {xs : List V} {ds : List D} (h : SqT K (U H G Z) a xs) (r : Reps K (U H G Z) ds xs) : ItOk K (IteT K a) (enumFrom 0 ds) none H G Z := by
  have hq : ∀ H' G', Kq H G Z H' G' → SqT K (U H' G' Z) a xs := fun H' G' k => SqT.mono k.keep h
  refine ⟨fun i d H' G' e k ok gd => ?_, fun H' G' k ok gd => ?_⟩
  · rw [enumFrom_get] at e
    cases e0 : ds[i]? with
    | none => rw [e0] at e; simp at e
    | some y =>
      rw [e0] at e
      simp only [Option.map_some, Option.some.injEq, Nat.zero_add] at e
      subst e
      have hs := SqT.mono U_le (hq H' G' k)
      obtain ⟨v, hv, rv⟩ := r.get e0
      refine ⟨⟨xs, v, hs, hv⟩, fun x H'' ⟨T, w, e1, e2, e3, e4⟩ => ?_⟩
      subst e1 e3
      have ew := e4 xs hs
      rw [hv] at ew; cases ew
      have k2 := Kp.laid (H := H') (G := G') (Z := Z) (o := .tup [.int ((i : Nat) : Int), v]) e2
      refine ⟨k2, ok.laid e2, .tup (.inl (U_laid ok e2)) (.cons (.int _) (.cons ((rv.mono k.keep).mono k2.keep) .nil))⟩
  · exact ⟨xs, SqT.mono U_le (hq H' G' k), by rw [enumFrom_length]; exact Nat.le_of_eq r.length.symm⟩
end
def dEnumQ (te : DTE) : DTI := fun δ G R => te δ G fun x G1 => match x with
  | .tup ds => R (enumFrom 0 ds) none G1
  | x => match lsOf G1 x with
    | some ds => R (enumFrom 0 ds) (gdOf G1 x) G1
    | none => False
section
variable {X : Cx} {e : Expr} {te : DTE} {p pos : Pos}
theorem di_enumQ {tpos : Pos} {elts : List Expr} {kk : Nat} (hg : Gl X "enumerate") (hm : X.mg "enumerate" = none) (he : DE X e te) (hs : starEach [e] X.env = [(false, eval e X.env)] := by rfl) :
    DI X (.Tuple elts kk tpos) (.Call (.Name "enumerate" p) [e] [] pos) (dEnumQ te) :=
  PI.mono (pi_enumQ hg hm (pa_cons he pa_nil hs) hs) fun σ H R ⟨δ, G, Z, Q0, ok, rs, h, k⟩ =>
    ⟨δ, G, Z, _, ok, rs, h, fun x G1 v H1 h1 k1 ok1 r1 => by
      have lst : (match lsOf G1 x with | some ds => Q0 (enumFrom 0 ds) (gdOf G1 x) G1 | none => False) → ∃ a xs, [v] = [V.ref a] ∧ ((SqL X.K H1 a xs ∧ R (Ite X.K a) H1) ∨ (SqT X.K H1 a xs ∧ R (IteT X.K a) H1)) := by
        intro h1
        split at h1
        · next ds e =>
          obtain ⟨a, xs, rfl, ha, _⟩ := ls_stay (fun _ _ => rfl) ok1 r1 e
          refine ⟨a, xs, rfl, .inl ⟨SqL.of ha, k _ _ _ _ _ h1 k1 ok1 fun Z' z1 z2 => ?_⟩⟩
          obtain ⟨a', xs', e', _, st⟩ := ls_stay z2 ok1 r1 e
          cases e'
          exact it_enum st
        · exact h1.elim
      cases r1 with
      | tup q rr => exact ⟨_, _, rfl, .inr ⟨TupAt.sq U_le q, k _ _ _ _ _ h1 k1 ok1 fun Z' z1 z2 => it_enumT (TupAt.sq (U_ext z2) q) (rr.mono (U_ext z2))⟩⟩
      | _ => exact lst h1⟩
end
/-- a comprehension that changes nothing, any target -/
theorem lc_mapG {m : Bool} {gd : Gd} {g : Tgt} {tt : DTT} {te : DTE} {δw : DSt} {G : GHp} {Q : DK} {α : Type} {enc : α → D} {keep : α → Bool} {f : α → D} {xs : List α} (dst : α → DSt) (hz : xs.length ≤ sizeLine) (hg : gd.ok G) (hd : ∀ x ∈ xs, g.set (enc x) δw = some (dst x))
    (ht : ∀ x ∈ xs, EvT tt (dst x) G (keep x)) (he : ∀ x ∈ xs, keep x = true → Ev te (dst x) G (f x)) (h : lcEnd m ((xs.filter keep).map f) G Q) :
    dLcL m gd g tt te δw (xs.map enc) [] G Q := by
  refine lc_ind (fun r acc G' => G' = G ∧ ∃ pre, xs = pre ++ r ∧ acc = (pre.filter keep).map f) ?_ ?_ xs [] G ⟨rfl, [], rfl, rfl⟩
  · rintro acc _ ⟨rfl, pre, e, rfl⟩
    rw [List.append_nil] at e
    subst e
    exact ⟨hg, h⟩
  · rintro x r acc _ ⟨rfl, pre, e, rfl⟩
    have hx : x ∈ xs := by rw [e]; simp
    refine ⟨hg, _, hd x hx, fun N hN => ?_⟩
    refine ht x hx _ ⟨fun hk => ?_, fun hk => ?_⟩
    · refine he x hx hk _ ⟨?_, hN _ _ ⟨rfl, pre ++ [x], by rw [e]; simp, ?_⟩⟩
      · have h1 : ((pre.filter keep).map f).length ≤ pre.length := by rw [List.length_map]; exact List.length_filter_le _ _
        have h2 : xs.length = pre.length + (r.length + 1) := by rw [e]; simp
        omega
      · rw [List.filter_append, List.map_append]
        simp [hk]
    · refine hN _ _ ⟨rfl, pre ++ [x], by rw [e]; simp, ?_⟩
      rw [List.filter_append, List.map_append]
      simp [hk]
end DL
set_option Elab.async false
set_option linter.all false
set_option maxRecDepth 100000
set_option maxHeartbeats 1000000
/-! DL, part 12: exceptions at the heads of statements. -/
namespace DL
open PySem PySem.Spec L2

/-! ### what makes an exception -/
abbrev DTM := DSt → GHp → DXK → Prop
def cM (K : PySem.W.Frag) (t : DTM) : St → Hp → XK → Prop := fun σ H Q => ∃ (δ : DSt) (G : GHp) (Z : Addr → Bool) (Q0 : DXK), Ok K H G Z ∧ RepSt K (U H G Z) δ σ ∧ t δ G Q0 ∧ XLk K Z Q0 Q H G
def DMk (X : Cx) (e : Expr) (t : DTM) : Prop := PMk X e (cM X.K t)
theorem PMk.mono {X : Cx} {e : Expr} {t u : St → Hp → XK → Prop} (h : PMk X e t) (k : ∀ σ H Q, u σ H Q → t σ H Q) : PMk X e u := fun pins s σ H Q I q => h pins s σ H Q I (k σ H Q q)
/-- an expression that may let an exception out -/
abbrev DTX := DSt → GHp → DK → DXK → Prop
def cEx (K : PySem.W.Frag) (W : WX) (t : DTX) : TE := fun σ H Q => ∃ (δ : DSt) (G : GHp) (Z : Addr → Bool) (Q0 : DK) (E0 : DXK), Ok K H G Z ∧ RepSt K (U H G Z) δ σ ∧ t δ G Q0 E0 ∧
  (∀ d G' v H', Q0 d G' → Kp H G Z H' G' → Ok K H' G' Z → Rep K (U H' G' Z) d v → Q v H') ∧ XLk K Z E0 (WE W σ) H G
def DEx (X : Cx) (W : WX) (e : Expr) (t : DTX) : Prop := PE X e (cEx X.K W t)
/-- where the ends' exceptions go, from the slots δ -/
def exAt (D : DEnds) (δ : DSt) : DXK := fun c fs G => D.ex c fs δ G
theorem ELk.xl {K : PySem.W.Frag} {W : WX} {Z : Addr → Bool} {D0 : DEnds} {E : Ends} {H : Hp} {G : GHp} {δ : DSt} {σ : St} (l : ELk K W Z D0 E H G) (rs : RepSt K (U H G Z) δ σ) : XLk K Z (exAt D0 δ) (WE W σ) H G :=
  ⟨fun c G' H' q k ok => l.exb _ _ _ _ _ q k ok (rs.mono k.keep), fun c fs G' H' dx xs q k ok u e r => l.exo _ _ _ _ _ _ _ _ q k ok (rs.mono k.keep) u e r⟩
section
variable {X : Cx} {W : WX} {e : Expr} {t : DTX} {tm : DTM} {pos : Pos}
/-- raise C(..) -/
def dRaise (t : DTM) : DTS := fun D δ G => t δ G (exAt D δ)
theorem ds_raise (hc : X.calm = true) (tk : Takes X W) (he : DMk X e tm) : DS X W (.Raise (some e) none pos) (dRaise tm) :=
  PS.mono (ps_raise hc tk he) fun E σ H ⟨δ, G, Z, D0, ok, rs, h, l⟩ => ⟨δ, G, Z, _, ok, rs, h, l.xl rs⟩
/-- f(..) as a statement -/
def dDropX (t : DTX) : DTS := fun D δ G => t δ G (fun _ G1 => D.nx δ G1) (exAt D δ)
theorem ds_exprX (he : DEx X W e t) (hs : swapsWith e none pos.line X.env = pure false := by rfl) : DS X W (.Expr e pos) (dDropX t) :=
  PS.mono (ps_expr he hs) fun E σ H ⟨δ, G, Z, D0, ok, rs, h, l⟩ =>
    ⟨δ, G, Z, _, _, ok, rs, h, fun d G' v H' q k ok' _ => l.nx _ _ _ _ q k ok' (rs.mono k.keep), l.xl rs⟩
/-- return f(..) -/
def dRetX (t : DTX) : DTS := fun D δ G => t δ G D.rt (exAt D δ)
theorem ds_retX (he : DEx X W e t) : DS X W (.Return (some e) pos) (dRetX t) :=
  PS.mono (ps_ret he) fun E σ H ⟨δ, G, Z, D0, ok, rs, h, l⟩ =>
    ⟨δ, G, Z, _, _, ok, rs, h, fun d G' v H' q k ok' r => l.rt _ _ _ _ q k ok' r, l.xl rs⟩
/-- target = f(..) -/
def dAsgX (t : DTX) (g : Tgt) : DTS := fun D δ G => t δ G (fun d G1 => match g.set d δ with
  | some δ' => D.nx δ' G1
  | none => False) (exAt D δ)
theorem asg_splitX {K : PySem.W.Frag} {g : Tgt} {E : Ends} {σ : St} {H : Hp} {W : WX} (h : cS K W (dAsgX t g) E σ H) : tAsg (cEx K W t) (g.tg K) E σ H := by
  obtain ⟨δ, G, Z, D0, ok, rs, h, l⟩ := h
  refine ⟨δ, G, Z, _, _, ok, rs, h, fun d G1 v H1 h1 k1 ok1 r1 => ?_, l.xl rs⟩
  have h1 : (match g.set d δ with | some δ' => D0.nx δ' G1 | none => False) := h1
  split at h1
  · next δ' e =>
    exact g.run U_le r1 (rs.mono k1.keep) e fun σ' rs' _ => l.nx _ _ _ _ h1 k1 ok1 rs'
  · exact h1.elim
theorem ds_asgX {tg : Expr} {g : Tgt} (he : DEx X W e t) (hg : PG X tg (g.tg X.K)) (hs : swapsWithSole [tg] e pos.line X.env = pure false := by rfl) (hw : swappedStores [tg] e X.env = pure none := by rfl)
    (h1 : (assignEach [tg] X.env).map (·.2) = [assign tg X.env] := by rfl) : DS X W (.Assign [tg] e pos) (dAsgX t g) :=
  PS.mono (ps_asg he hg hs hw h1) fun E σ H h => asg_splitX h
theorem ds_setX {i : Nat} {x : Str} {pos' : Pos} (hN : X.N.Nodup) (hi : X.N[i]? = some x) (hx : Loc X.env.scope x) (he : DEx X W e t) (hs : swapsWith e (some (.Name x pos')) pos.line X.env = pure false := by rfl) (hf : X.fn x = true ∨ X.env.scope.names.lookup x = some .local := by first | exact .inl rfl | exact .inr rfl | assumption) :
    DS X W (.Assign [.Name x pos'] e pos) (dAsgX t (.nm i)) :=
  PS.mono (ps_set hN hi hx he hs hf) fun E σ H h => asg_splitX (g := .nm i) h
/-! ### calls that may raise -/
def dCallX (sp : DSp) (t : DTA) : DTX := fun δ G Q E => t δ G fun ds G1 => sp ds G1 Q E
theorem de_callX {k : Nat} {f : Addr} {fd : FuncData} {ps : List Str} {sp : DSp} {x : Str} {p : Pos} {es : List Expr} {ta : DTA} (tk : Takes X W) (F : FnOk X.prog X.w X.K X.mg X.base (L2.CX X.prog X.w) k f fd ps (cSp X.K sp)) (hr : Room k X.A) (hg : Gl X x) (hm : X.mg x = some (.ref f)) (hk : PySem.W.keepIn X.K (.ref f) = true) (hb : Binds X.K fd ps [])
    (ha : DA X (e :: es) ta) (hdb : (x == ("__debug__" : Str)) = false := by decide) (he : starEach (e :: es) X.env = (false, eval e X.env) :: starEach es X.env := by rfl) (hpl : (backTo pos (starEach es X.env)).any (·.1) = false := by rfl) :
    DEx X W (.Call (.Name x p) (e :: es) [] pos) (dCallX sp ta) :=
  PE.mono (pe_callS (E := WE W) F hr hg hm hk hb (fun σ => passAt tk σ) ha hdb he hpl) fun σ H Q ⟨δ, G, Z, Q0, E0, ok, rs, h, k, x⟩ =>
    ⟨δ, G, Z, _, ok, rs, h, fun ds G1 vs H1 h1 k1 ok1 r1 => ⟨ds, G1, Z, Q0, E0, ok1, r1, h1, fun d G' v H' q k2 ok2 r2 => k _ _ _ _ q (k1.trans k2) ok2 r2, x.after k1⟩⟩
end
/-! ### defs that may raise -/
section
variable {P : Program} {w : World} {K : PySem.W.Frag} {mg : Str → Option Value} {base : Heap} {x qual : Str} {st : Stmt} {f : Addr} {fd : FuncData} {N ps : List Str} {k : Nat} {t : DTS} {l : DSt} {dv : List V} {kv : List (Str × V)}
abbrev WD (E : XK) : WX := fun c d _ H => E c d H
theorem takes_cx {scope : Scope} {cdv : Value} {A : Around} {outer : List Env} {s : Shared} {H : Hp} {E : XK} : Takes (cxOf (L2.CX P w) P w K mg base N qual scope f cdv A outer s H E) (WD E) := takes_of rfl rfl rfl rfl
theorem passes_cx {scope : Scope} {cdv : Value} {A : Around} {outer : List Env} {s : Shared} {H : Hp} {E : XK} : PassesOwn (model P w) (cxOf (L2.CX P w) P w K mg base N qual scope f cdv A outer s H E).A (cxOf (L2.CX P w) P w K mg base N qual scope f cdv A outer s H E).env (cxOf (L2.CX P w) P w K mg base N qual scope f cdv A outer s H E).xe := passes_of rfl
abbrev DerX (P : Program) (w : World) (K : PySem.W.Frag) (mg : Str → Option Value) (base : Heap) (N : List Str) (qual : Str) (st : Stmt) (f : Addr) (k : Nat) (t : DTS) : Prop :=
  ∀ (cdv : Value) (A : Around) (outer : List Env) (s : Shared) (H : Hp) (E : XK), Room k (A.deeper (PyProof.Rows.envOfC qual (defScope st) s.heap.objs.size f cdv)) → DSs (cxOf (L2.CX P w) P w K mg base N qual (defScope st) f cdv A outer s H E) (WD E) (defBody st) t
/-- where a body starts, and where its exceptions go -/
abbrev DRunX (t : DTS) (δ : DSt) (G : GHp) (Q : DK) (E0 : DXK) : Prop := t { nx := fun _ G' => Q .non G', rt := Q, ex := fun c fs _ G' => E0 c fs G' } δ G
theorem DFunX.ok {sp : DSp} (F : FunD K x qual (defArgs st) (defBody st) (defScope st) dv kv f fd) (S : FnScope N ps (defScope st)) (len : ∀ ds G Q E, sp ds G Q E → ds.length = ps.length) (d : DerX P w K mg base N qual st f k t)
    (rd : ∀ ds G Q E0, sp ds G Q E0 → DRunX t (dstart N ds) G Q E0) : FnOk P w K mg base (L2.CX P w) (k + 1) f fd ps (cSp K sp) := by
  refine F.ok S (fun vs H Q E ⟨ds, G, Z, Q0, E0, ok, rs, h, k, x⟩ => rs.length.symm.trans (len _ _ _ _ h)) fun cdv A outer s H vs Q E hr ⟨ds, G, Z, Q0, E0, ok, rs, h, k, x⟩ => ?_
  refine ⟨_, d cdv A outer s H E hr, _, G, Z, _, ok, RepSt.start rs, rd ds G Q0 E0 h, ⟨fun δ' G' σ' H' q k1 ok1 _ => k _ _ _ _ q k1 ok1 .non, fun _ _ _ _ q => q.elim, fun _ _ _ _ q => q.elim, fun d G' v H' q k1 ok1 r1 => k _ _ _ _ q k1 ok1 r1,
    fun c δ' G' σ' H' q k1 ok1 _ => x.bare c G' H' q k1 ok1, fun c fs δ' G' σ' H' dx xs q k1 ok1 _ u e r => x.own c fs G' H' dx xs q k1 ok1 u e r⟩⟩
end
end DL
set_option Elab.async false
set_option linter.all false
set_option maxRecDepth 100000
set_option maxHeartbeats 1000000
/-! DL, part 13: the __init__ of an own exception class that calls its own base class's. -/
namespace DL
open PySem PySem.Spec L2 PyProof.Rows

/-- what the base class must say: its __init__ is ValueError's -/
structure BsC (K : PySem.W.Frag) (C : Addr) : Prop where
  rd : PySem.W.readsIn K C (.type "type") = true
  ga : PySem.W.specialIn K (.ref C) "__getattribute__" = some (some (.builtin "type.__getattribute__"))
  at_ : PySem.W.findCls K (.ref C) (.type "type") "__init__" = some (.val (.builtin "ValueError.__init__"))
section
variable {X : Cx} {e : Expr} {es : List Expr} {ta : TA} {x : Str} {C : Addr} {p1 p2 pos : Pos} {pl : Sem Bool}
theorem pe_bsinit (T : BsC X.K C) (hg : Gl X x) (hm : X.mg x = some (.ref C)) (ha : PA X (e :: es) ta) (hdb : (x == ("__debug__" : Str)) = false := by decide)
    (hc : eval (.Call (.Attribute (.Name x p1) "__init__" p2) (e :: es) [] pos) X.env = (do
      let ov ← eval (.Name x p1) X.env
      standAt p2.atName
      let (f, first) ← holding [ov] (getMethod ov "__init__" pl)
      callWith pos f first (backTo pos (starEach (e :: es) X.env)) (backToKw pos (keywordEach [] X.env))) := by rfl)
    (he : starEach (e :: es) X.env = (false, eval e X.env) :: starEach es X.env := by rfl) (hpl : (backTo pos (starEach es X.env)).any (·.1) = false := by rfl) :
    PE X (.Call (.Attribute (.Name x p1) "__init__" p2) (e :: es) [] pos) (tVeI X.K ta) := by
  refine ⟨fun pins s σ H Q I h => ?_⟩
  refine PySem.W.methodCall_KW (ld_glob I hg hm ?_ hdb) hc
  refine PySem.W.method_cls I.kIn T.ga (PySem.W.cls_value I.kIn T.rd T.at_ (by decide +kernel) ?_)
  show wpAny _ _ (callWith pos (Value.builtin "ValueError.__init__") [] (backTo pos (starEach (e :: es) X.env)) []) _ _ _
  refine PyProof.Rows.callWith_method1 (thn (ha.run pos pins _ σ H _ (I.tok _) h) fun us s1 ⟨vs, H1, I1, r1, a, C, ws, ev, hl, T, ea, q⟩ => ?_) he hpl
  subst ev
  cases r1 with
  | @cons _ u0 _ ur ra rw' =>
    obtain rfl : u0 = Value.ref a := ra
    have hlen : ur.length ≤ sizeLine := by
      rw [← Paired.length rw', sizeLine_eq]
      omega
    exact oinit_ok T I1 ea hlen fun s' J => ⟨.non, H1, J, rfl, q⟩
end
/-! ### C(e): an own __init__ that keeps its one argument in the field f -/
def spI (C : Addr) (f : Str) : Sp := fun vs H Q _ => ∃ (a : Addr) (v : V), vs = [.ref a, v] ∧ H a = some (exo a C none) ∧ ∀ dx, H dx = none → dx ≠ a → Q .non (upd (upd H dx (exd dx [(f, v)])) a (exo a C (some dx)))
/-- raise C(e) -/
def dMk1 (C : Addr) (f : Str) (ta : DTA) : DTM := fun δ G Q => ta δ G fun ds G1 => match ds with
  | [d] => Q (.ref C) (some [(f, d)]) G1
  | _ => False
section
variable {X : Cx} {e : Expr} {es : List Expr} {ta : DTA} {x : Str} {C fI : Addr} {p pos : Pos} {k : Nat} {fd : FuncData} {ps : List Str} {f : Str}
theorem made_heap {H1 : Hp} {a C dx : Addr} {f : Str} {v : V} (ha : H1 a = none) (hne : dx ≠ a) :
    upd (del (upd (upd (upd H1 a (exo a C none)) dx (exd dx [(f, v)])) a (exo a C (some dx))) a) dx (.xd [(f, v)]) = upd H1 dx (.xd [(f, v)]) := by
  funext b
  by_cases h1 : b = dx
  · rw [h1, upd_same, upd_same]
  · rw [upd_ne h1, upd_ne h1]
    by_cases h2 : b = a
    · rw [h2, del_same, ha]
    · rw [del_ne h2, upd_ne h2, upd_ne h1, upd_ne h2]
theorem dm_mk1 (T : OexC X.K C) (iC : PySem.W.findIn X.K (.ref C) "__init__" = some (some (.ref fI))) (tI : PySem.W.typeIn X.K (.ref fI) = some (.type "function"))
    (F1 : FnOk X.prog X.w X.K X.mg X.base CX0 k fI fd ps (spI C f)) (hr : Room (k + 1) X.A) (hb : Binds X.K fd ps []) (hg : Gl X x) (hm : X.mg x = some (.ref C)) (ha : DA X (e :: es) ta)
    (hdb : (x == ("__debug__" : Str)) = false := by decide) (he : starEach (e :: es) X.env = (false, eval e X.env) :: starEach es X.env := by rfl) (hpl : (backTo pos (starEach es X.env)).any (·.1) = false := by rfl) :
    DMk X (.Call (.Name x p) (e :: es) [] pos) (dMk1 C f ta) :=
  PMk.mono (pmk_oex T iC tI F1 hr hb .nil pass0 hg hm ha hdb he hpl) fun σ H Q ⟨δ, G, Z, Q0, ok, rs, h, xl⟩ =>
    ⟨δ, G, Z, _, ok, rs, h, fun ds G1 vs H1 h1 k1 ok1 r1 => by
      rcases r1 with _ | ⟨ra, r1⟩
      · exact False.elim h1
      rcases r1 with _ | ⟨rb, r1⟩
      · next d v =>
        have h1 : Q0 (.ref C) (some [(f, d)]) G1 := h1
        refine ⟨by simp, fun a hna => ⟨a, v, rfl, upd_same, fun dx hdx hne => ⟨rfl, dx, [(f, v)], upd_same, by rw [upd_ne hne, upd_same], by rw [upd_ne hne] at hdx; exact hdx, ?_⟩⟩⟩
        have hdx' : H1 dx = none := by rw [upd_ne hne] at hdx; exact hdx
        rw [made_heap hna hne]
        have k2 := Kp.laid (H := H1) (G := G1) (Z := Z) (o := .xd [(f, v)]) hdx'
        exact xl.own _ _ _ _ _ _ h1 (k1.trans k2) (ok1.laid hdx') (U_laid ok1 hdx') rfl (.cons (ra.mono k2.keep) .nil)
      · exact False.elim h1⟩
end
end DL
set_option Elab.async false
set_option linter.all false
set_option maxRecDepth 100000
set_option maxHeartbeats 1000000
/-! DL, part 14: try: .. except C as e: return e.f -/
namespace DL
open PySem PySem.Spec L2

theorem lookup_rep {K : PySem.W.Frag} {W : Hp} {f : Str} : ∀ {fs : List (Str × D)} {xs : List (Str × V)} {d : D}, xs.map (·.1) = fs.map (·.1) → Reps K W (fs.map (·.2)) (xs.map (·.2)) → fs.lookup f = some d → ∃ v, xs.lookup f = some v ∧ Rep K W d v
  | [], _, _, _, _, e => by simp at e
  | (g, y) :: fs, [], _, hn, _, _ => by simp at hn
  | (g, y) :: fs, (g', u) :: xs, d, hn, r, e => by
    simp only [List.map_cons, List.cons.injEq] at hn
    obtain ⟨h1, h2⟩ := hn
    have h1 : g' = g := h1
    subst h1
    cases r with
    | cons r1 r2 =>
      by_cases h : f = g'
      · subst h
        simp [List.lookup] at e
        subst e
        exact ⟨u, by simp [List.lookup], r1⟩
      · have hf : (f == g') = false := by simpa using h
        simp only [List.lookup, hf] at e ⊢
        exact lookup_rep h2 r2 e
/-- what a handler 'except c as n: return n.f' makes of an exception -/
def exRet (K : PySem.W.Frag) (c : Value) (C : Addr) (f : Str) (i : Nat) (D : DEnds) : DXS := fun cls fs δ G =>
  ∃ b, PySem.W.exmOne K cls c = some b ∧ (b = true → cls = .ref C ∧ i < δ.length ∧ ∃ fs' d, fs = some fs' ∧ fs'.lookup f = some d ∧ D.rt d G) ∧ (b = false → D.ex cls fs δ G)
def dTryRet (K : PySem.W.Frag) (c : Value) (C : Addr) (f : Str) (i : Nat) (tb : DTS) : DTS := fun D δ G => tb { D with ex := exRet K c C f i D } δ G
section
variable {X : Cx} {W : WX} {x n f : Str} {c : Value} {C : Addr} {i : Nat} {body : List Stmt} {np p1 p2 p3 pos pos' : Pos} {tb : DTS}
theorem ds_tryRet (hs : X.stack = X.env :: X.outer) (hf : X.env.frame = some X.env.locals) (hN : X.N.Nodup) (hi : X.N[i]? = some n) (hln : X.env.kindOf n = some .local) (hc : Names X x c) (tk : Takes X W)
    (hb : ∀ (W' : WX) (pn : List (Addr × Obj)) (xe : Value → Shared → Prop), Takes (X.tr pn xe) W' → PassesOwn (model X.prog X.w) X.A X.env xe → DSs (X.tr pn xe) W' body tb)
    (T : XfC X.K C) (hno : PySem.W.findIn X.K (.ref C) f = some none)
    (hv : ∀ (a : Addr) (pn : List (Addr × Obj)), PE (X.suite a pn) (.Name n p1) (tVar i)) :
    DS X W (.Try body [.ExceptHandler (some (.Name x np)) (some n) [.Return (some (.Attribute (.Name n p1) f p2)) p3] pos'] [] [] pos) (dTryRet X.K c C f i tb) :=
  PS.mono (ps_try_as (tb := fun W' => cS X.K W' tb) (ts := fun a cls d D σ H => tXf a cls d C f (tVar i) σ H D.rt) hs hf hN hi hln hc tk (fun W' pn xe t1 t2 => hb W' pn xe t1 t2)
    (fun a oe cls d pn hz hfl => pss_one (ps_ret (pe_xf T hno hz hfl (hv a _))))) fun E σ H ⟨δ, G, Z, D0, ok, rs, h, l⟩ => by
    refine ⟨δ, G, Z, _, ok, rs, h, ⟨l.nx, l.bk, l.ct, l.rt, fun cls δ' G' σ' H' q k ok' rs' => ?_, fun cls fs δ' G' σ' H' dx xs q k ok' rs' u e r => ?_⟩⟩
    · obtain ⟨b, hb1, h1, h2⟩ := q
      refine ⟨b, hb1, fun hb2 => ?_, fun hb2 => l.exb _ _ _ _ _ (h2 hb2) k ok' rs'⟩
      obtain ⟨_, _, fs', d, e, _⟩ := h1 hb2
      cases e
    · obtain ⟨b, hb1, h1, h2⟩ := q
      refine ⟨b, hb1, fun hb2 a ha => ?_, fun hb2 => l.exo _ _ _ _ _ _ _ _ (h2 hb2) k ok' rs' u e r⟩
      obtain ⟨ec, hil, fs', d, ef, hl, hrt⟩ := h1 hb2
      cases ef
      obtain ⟨v, hv1, hv2⟩ := lookup_rep e r hl
      have hl2 : i < σ'.length := by rw [← rs'.length]; exact hil
      exact ⟨.ref a, by simp [hl2], rfl, ec, dx, xs, v, rfl, U_le _ _ u, hv1, l.rt _ _ _ _ hrt k ok' hv2⟩
end
end DL
set_option Elab.async false
set_option linter.all false
set_option maxRecDepth 100000
set_option maxHeartbeats 1000000
/-! DL, part 15: what an own exception's __init__ (base's __init__(self, text); self.f = e) does, at HandS' level. -/
namespace DL
open PySem PySem.Spec L2 PyProof.Rows
/-- B.__init__(self, m); self.f = p -/
def tInit1 (K : PySem.W.Frag) (m f : Str) : TS := tSeq (tDrop (tVeI K (tCons (tVar 0) (tCons (tC (.str m)) tNil)))) (tOst K f (tVar 0) (tVar 1))
section
variable {P : Program} {w : World} {K : PySem.W.Frag} {mg : Str → Option Value} {base : Heap} {x qual : Str} {st : Stmt} {fI C : Addr} {fd : FuncData} {k : Nat} {a b m f : Str} {dv : List V} {kv : List (Str × V)}
theorem ok_init1 (T : OexC K C) (hno : PySem.W.findIn K (.ref C) f = some none) (F : FunD K x qual (defArgs st) (defBody st) (defScope st) dv kv fI fd) (S : FnScope [a, b] [a, b] (defScope st))
    (d : ∀ (cdv : Value) (A : Around) (outer : List Env) (s : Shared) (H : Hp) (E : XK), PSs (cxOf CX0 P w K mg base [a, b] qual (defScope st) fI cdv A outer s H E).nox (defBody st) (tInit1 K m f)) :
    FnOk P w K mg base CX0 (k + 1) fI fd [a, b] (spI C f) := by
  refine F.ok S (fun vs H Q E ⟨o, v, e, _⟩ => by rw [e]; rfl) fun cdv A outer s H vs Q E hr ⟨o, v, e, ha, q⟩ => ?_
  subst e
  refine ⟨_, PSs.nox (d cdv A outer s H E), ?_⟩
  conv => whnf
  refine ⟨.ref o, rfl, ?_⟩
  conv => whnf
  refine ⟨o, C, [.str m], rfl, (show 1 ≤ 1000 by omega), T, ha, ?_⟩
  conv => whnf
  refine ⟨v, rfl, ?_⟩
  conv => whnf
  refine ⟨.ref o, rfl, o, C, rfl, T, hno, .inl ⟨ha, fun dx hn hne => q dx hn hne⟩⟩
end
end DL
set_option Elab.async false
set_option linter.all false
set_option maxRecDepth 100000
set_option maxHeartbeats 1000000
/-! DL, part 16: facts about own exception classes, told by one Bool more; the Hook for it. -/
namespace DL
open PySem PySem.Spec L2 PyProof.Rows He
/-! ### the Hook: defs, facts, one Bool -/
abbrev AlE : Type := AlD × Bool
def obsE (fa : List Fa) (fn : List DefD) (ex : PySem.W.Frag → Bool) (K : PySem.W.Frag) : AlE := (obsD fa fn K, ex K)
def valE (fn : List DefD) : AlE := (valD fn, true)
def SaysE (fa : List Fa) (fn : List DefD) (ex : PySem.W.Frag → Bool) (K : PySem.W.Frag) : Prop := obsE fa fn ex K = valE fn
def obsEG (n : Nat) (fa : List Fa) (fn : List DefD) (ex : PySem.W.Frag → Bool) (g : Addr → Option Obj) : AlE := obsE fa fn ex (frG g (cStatics :: asD g n))
def hookE (n : Nat) (fa : List Fa) (fn : List DefD) (ex : PySem.W.Frag → Bool) : PySem.W.Hook where
  α := AlE
  obs := fun s => obsEG n fa fn ex s.heap.get?
  val := fun _ => valE fn
  says := fun _ h => ∃ K : PySem.W.Frag, K.In h ∧ SaysE fa fn ex K
  of := fun _ _ e => ⟨_, frG_in, e⟩
  keeps := fun _ _ _ ⟨K, hK, c⟩ k => ⟨K, PySem.W.Frag.In.keeps hK k, c⟩
theorem obsEG_eq {n : Nat} {fa : List Fa} {fn : List DefD} {ex : PySem.W.Frag → Bool} {g : Addr → Option Obj} {s : Shared} (h : ∀ a, g a = s.heap.get? a) : obsEG n fa fn ex g = (hookE n fa fn ex).obs s := by
  have e : g = s.heap.get? := funext h
  rw [e] <;> rfl
section
variable {fa : List Fa} {fn : List DefD} {ex : PySem.W.Frag → Bool} {K : PySem.W.Frag}
theorem SaysE.d (c : SaysE fa fn ex K) : SaysD fa fn K := congrArg (fun z : AlE => z.1) c
theorem SaysE.more (c : SaysE fa fn ex K) : ex K = true := congrArg (fun z : AlE => z.2) c
end
/-! ### an own class under ValueError -/
def oexO (C : Addr) : Obj → Bool
  | ⟨oc, _, .cls cd, sl⟩ => eqO (some (some oc)) (some (some (.type "type"))) && (decide (cd.mro = .ref C :: cd.mro.tail) && (PySem.HandSPX.refsVE cd.mro.tail && (cd.hasDict && (!cd.hasDel &&
    decide (sl = #[sl.getD 0 none, sl.getD 1 none, sl.getD 2 none, sl.getD 3 none, some (.builtin "ValueError.__new__"), sl.getD 5 none])))))
  | _ => false
theorem oexO_ok {C : Addr} {o : Obj} (h : oexO C o = true) : ∃ nm q N bs bm sn sub ab col dd k0 k1 k2 k3 k5, o = excClassObj nm q C N bs bm true sn sub ab col dd k0 k1 k2 k3 k5 "ValueError.__new__" ∧ PySem.HandSPX.refsVE bm = true := by
  obtain ⟨oc, od, dt, sl⟩ := o
  cases dt with
  | cls cd =>
    obtain ⟨h1, h2⟩ := ba h
    have h1 := Option.some.inj (Option.some.inj (eqO_ok h1))
    obtain ⟨h3, h4⟩ := ba h2
    obtain ⟨h5, h6⟩ := ba h4
    obtain ⟨h7, h8⟩ := ba h6
    obtain ⟨h9, h10⟩ := ba h8
    have h3 := of_decide_eq_true h3
    have h10 := of_decide_eq_true h10
    obtain ⟨nm, bs, mro, ns, q, hd, sn, sub, ab, col, del⟩ := cd
    have h3 : mro = .ref C :: mro.tail := h3
    have h5 : PySem.HandSPX.refsVE mro.tail = true := h5
    have h7 : hd = true := h7
    have h9 : (!del) = true := h9
    cases del with
    | true => cases h9
    | false =>
      subst h7
      subst h1
      exact ⟨nm, q, ns, bs, mro.tail, sn, sub, ab, col, od, sl.getD 0 none, sl.getD 1 none, sl.getD 2 none, sl.getD 3 none, sl.getD 5 none, by
        show (⟨_, _, .cls ⟨nm, bs, mro, ns, q, true, sn, sub, ab, col, false⟩, sl⟩ : Obj) = ⟨_, _, .cls ⟨nm, bs, .ref C :: mro.tail, ns, q, true, sn, sub, ab, col, false⟩, #[sl.getD 0 none, sl.getD 1 none, sl.getD 2 none, sl.getD 3 none, some (.builtin "ValueError.__new__"), sl.getD 5 none]⟩
        rw [← h3, ← h10], h5⟩
  | _ => cases h
def oexB (K : PySem.W.Frag) (C : Addr) : Bool := (match K.lookup C with
  | some o => oexO C o
  | none => false) && (eqO (PySem.W.findIn K (.ref C) "__setattr__") (some (some (.builtin "object.__setattr__"))) && (decide (PySem.W.subIn K (.ref C) (.type "BaseException") = some true) && (decide (PySem.W.typeIn K (.ref C) = some (.type "type")) && PySem.W.keepIn K (.ref C))))
theorem oexB_ok {K : PySem.W.Frag} {C : Addr} (h : oexB K C = true) : OexC K C := by
  obtain ⟨h1, h2⟩ := ba h
  obtain ⟨h3, h4⟩ := ba h2
  obtain ⟨h5, h6⟩ := ba h4
  obtain ⟨h7, h8⟩ := ba h6
  cases q : K.lookup C with
  | none =>
    rw [q] at h1
    cases h1
  | some o =>
    rw [q] at h1
    obtain ⟨nm, qn, N, bs, bm, sn, sub, ab, col, dd, k0, k1, k2, k3, k5, e, r⟩ := oexO_ok h1
    exact ⟨⟨nm, qn, N, bs, bm, sn, sub, ab, col, dd, k0, k1, k2, k3, k5, by rw [q, e], r⟩, eqO_ok h3, of_decide_eq_true h5, of_decide_eq_true h7, h8⟩
/-- the base class's __init__ is ValueError's -/
def cfV : Option PySem.W.CFound → Option (Option Value)
  | some (.val v) => some (some v)
  | _ => none
theorem cfV_ok : ∀ {o : Option PySem.W.CFound} {v : Value}, cfV o = some (some v) → o = some (.val v)
  | some (.val v), w, h => by
    have e : v = w := Option.some.inj (Option.some.inj h)
    rw [e]
  | some (.get _ _ _ _), _, h => by cases h
  | none, _, h => by cases h
def bscB (K : PySem.W.Frag) (C : Addr) : Bool := PySem.W.readsIn K C (.type "type") && (eqO (PySem.W.specialIn K (.ref C) "__getattribute__") (some (some (.builtin "type.__getattribute__"))) && eqO (cfV (PySem.W.findCls K (.ref C) (.type "type") "__init__")) (some (some (.builtin "ValueError.__init__"))))
theorem bscB_ok {K : PySem.W.Frag} {C : Addr} (h : bscB K C = true) : BsC K C := by
  obtain ⟨h1, h2⟩ := ba h
  obtain ⟨h3, h4⟩ := ba h2
  exact ⟨h1, eqO_ok h3, cfV_ok (eqO_ok h4)⟩
/-- where nothing is raised -/
theorem takes_w0 {X : Cx} : Takes X W0 := fun u s' ⟨a, B, sI, pins, σ, H, cls, d, e, I, nb, up, sky, na, os, ag, w⟩ => w.elim
end DL
set_option Elab.async false
set_option linter.all false
set_option maxRecDepth 100000
set_option maxHeartbeats 1000000
/-! DL, part 17: loops and comprehensions over range(n) with an invariant by the index; lists told by a function of the index. -/
namespace DL
open PySem PySem.Spec L2
def fup {α : Type} (f : Nat → α) (x : Nat) (v : α) : Nat → α := fun y => if y = x then v else f y
theorem fup_same {α : Type} {f : Nat → α} {x : Nat} {v : α} : fup f x v x = v := if_pos rfl
theorem fup_ne {α : Type} {f : Nat → α} {x y : Nat} {v : α} (h : y ≠ x) : fup f x v y = f y := if_neg h
theorem for_rng {gd : Gd} {g : Tgt} {tb : DTS} {E : DEnds} {enc : Nat → D} (I : Nat → DSt → GHp → Prop) (n : Nat) (hd : ∀ δ G, I n δ G → gd.ok G ∧ E.nx δ G)
    (hs : ∀ i, i < n → ∀ δ G, I i δ G → gd.ok G ∧ ∃ δ', g.set (enc i) δ = some δ' ∧ ∀ N : DSt → GHp → Prop, (∀ δ G, I (i + 1) δ G → N δ G) → tb { E with nx := N, ct := N, bk := E.nx } δ' G) (δ : DSt) (G : GHp) (h0 : I 0 δ G) :
    dForL gd g tb ((List.range n).map enc) E δ G := by
  refine for_ind (enc := enc) (fun r δ G => ∃ i, List.range n = List.range i ++ r ∧ i + r.length = n ∧ I i δ G) ?_ ?_ (List.range n) δ G ⟨0, rfl, by rw [List.length_range]; omega, h0⟩
  · rintro δ G ⟨i, e1, e2, h⟩
    rw [List.length_nil, Nat.add_zero] at e2
    subst e2
    exact hd δ G h
  · rintro j r δ G ⟨i, e1, e2, h⟩
    rw [List.length_cons] at e2
    have ej : j = i := by
      have := congrArg (fun l => l[i]?) e1
      simp only [List.getElem?_append_right (show (List.range i).length ≤ i by rw [List.length_range]; exact Nat.le_refl _), List.length_range, Nat.sub_self, List.getElem?_cons_zero] at this
      rw [List.getElem?_range (by omega)] at this
      exact (Option.some.inj this).symm
    subst ej
    obtain ⟨a, δ', b, c⟩ := hs j (by omega) δ G h
    refine ⟨a, δ', b, fun N hN => c N fun δ G q => hN δ G ⟨j + 1, by rw [e1, List.range_succ, List.append_assoc]; rfl, by omega, q⟩⟩
/-- the list of f 0 .. f (n - 1) -/
def tab (n : Nat) (f : Nat → D) : List D := (List.range n).map f
theorem tab_len (n : Nat) (f : Nat → D) : (tab n f).length = n := by simp [tab]
theorem tab_at {n : Nat} {f : Nat → D} {i : Nat} (h : i < n) {Q : D → Prop} (q : Q (f i)) : atD (tab n f) i Q := by
  refine atD_nat (d := f i) ?_ q
  unfold tab
  rw [List.getElem?_map, List.getElem?_range h]; rfl
theorem tab_set {n : Nat} {f : Nat → D} {i : Nat} {v : D} : (tab n f).set i v = tab n (fup f i v) := by
  refine List.ext_getElem? fun j => ?_
  unfold tab
  by_cases hj : j < n
  · by_cases e : j = i
    · subst e
      rw [List.getElem?_set_self (by simpa using hj), List.getElem?_map, List.getElem?_range hj]
      simp [fup]
    · rw [List.getElem?_set_ne (Ne.symm e), List.getElem?_map, List.getElem?_map, List.getElem?_range hj]
      simp [fup, e]
  · rw [List.getElem?_eq_none (by simp; omega), List.getElem?_eq_none (by simp; omega)]
theorem rep_tab (v : D) (n : Nat) : (List.replicate n [v]).flatten = tab n fun _ => v := by
  unfold tab
  induction n with
  | zero => rfl
  | succ n ih => rw [List.replicate_succ', List.flatten_append, ih, List.range_succ, List.map_append]; simp
theorem ixN_nat {n i : Nat} (h : i < n) : ixN n (i : Int) = some i := by
  unfold ixN
  rw [if_pos (by omega), if_pos (by omega)]
  simp
theorem fup_map {α β : Type} (g : α → β) (f : Nat → α) (x : Nat) (v : α) : (fun y => g (fup f x v y)) = fup (fun y => g (f y)) x (g v) := by
  funext y; unfold fup; split <;> rfl
theorem lc_rng {m : Bool} {gd : Gd} {g : Tgt} {tt : DTT} {te : DTE} {δw : DSt} {Q : DK} {enc : Nat → D} (I : Nat → List D → GHp → Prop) (n : Nat) (hd : ∀ acc G, I n acc G → gd.ok G ∧ lcEnd m acc G Q)
    (hs : ∀ i, i < n → ∀ acc G, I i acc G → gd.ok G ∧ ∃ δ', g.set (enc i) δw = some δ' ∧ ∀ N : List D → GHp → Prop, (∀ acc G, I (i + 1) acc G → N acc G) →
      tt δ' G fun b G1 => dIte b (te δ' G1 fun y G2 => acc.length < sizeLine ∧ N (acc ++ [y]) G2) (N acc G1)) (acc : List D) (G : GHp) (h0 : I 0 acc G) :
    dLcL m gd g tt te δw ((List.range n).map enc) acc G Q := by
  refine lc_ind (enc := enc) (fun r acc G => ∃ i, List.range n = List.range i ++ r ∧ i + r.length = n ∧ I i acc G) ?_ ?_ (List.range n) acc G ⟨0, rfl, by rw [List.length_range]; omega, h0⟩
  · rintro acc G ⟨i, e1, e2, h⟩
    rw [List.length_nil, Nat.add_zero] at e2
    subst e2
    exact hd acc G h
  · rintro j r acc G ⟨i, e1, e2, h⟩
    rw [List.length_cons] at e2
    have ej : j = i := by
      have := congrArg (fun l => l[i]?) e1
      simp only [List.getElem?_append_right (show (List.range i).length ≤ i by rw [List.length_range]; exact Nat.le_refl _), List.length_range, Nat.sub_self, List.getElem?_cons_zero] at this
      rw [List.getElem?_range (by omega)] at this
      exact (Option.some.inj this).symm
    subst ej
    obtain ⟨a, δ', b, c⟩ := hs j (by omega) acc G h
    refine ⟨a, δ', b, fun N hN => c N fun acc G q => hN acc G ⟨j + 1, by rw [e1, List.range_succ, List.append_assoc]; rfl, by omega, q⟩⟩
theorem tab_succ {n : Nat} {f : Nat → D} : tab (n + 1) f = tab n f ++ [f n] := by unfold tab; rw [List.range_succ, List.map_append]; rfl
theorem tab_congr {n : Nat} {f g : Nat → D} (h : ∀ i, i < n → f i = g i) : tab n f = tab n g := by
  unfold tab; exact List.map_congr_left fun i hi => h i (List.mem_range.mp hi)
theorem tab_at0 {n : Nat} {f : Nat → D} {i : Nat} (h : i < n) {Q : D → Prop} (q : Q (f i)) : atD (tab n f) (0 + (i : Int)) Q := by rw [Int.zero_add]; exact tab_at h q
theorem ixN_nat0 {n i : Nat} (h : i < n) : ixN n (0 + (i : Int)) = some i := by rw [Int.zero_add]; exact ixN_nat h
end DL
set_option Elab.async false
set_option linter.all false
set_option maxRecDepth 100000
set_option maxHeartbeats 1000000
/-! DL, part 18: defs that may raise by their number of parameters; what is known of an own exception class with one field. -/
namespace DL
open PySem PySem.Spec L2 PyProof.Rows He
/-- a def that may raise, called where it doesn't -/
theorem passX0 {X : Cx} : Passes (L2.CX X.prog X.w) X (fun _ _ _ => False) := fun pins σ H s e s' I c => passAt (W := W0) takes_w0 σ pins H s e s' I c
/-- an exception of the class that the module's name x stands for, with these fields -/
abbrev exC (K : PySem.W.Frag) (x : Str) : Value := .ref (ga K x)
section
variable {P : Program} {w : World} {K : PySem.W.Frag} {mg : Str → Option Value} {base : Heap} {x qual : Str} {st : Stmt} {f : Addr} {fd : FuncData} {N ps : List Str} {k : Nat} {t : DTS} {l : DSt} {dv : List V} {kv : List (Str × V)}
theorem DFunX.ok0 {p : GHp → DK → DXK → Prop} (F : FunD K x qual (defArgs st) (defBody st) (defScope st) dv kv f fd) (S : FnScope N ps (defScope st)) (hp : ps.length = 0) (hl : List.replicate (N.length - 0) none = l) (d : DerX P w K mg base N qual st f k t)
    (rd : ∀ G Q E, p G Q E → DRunX t (l) G Q E) : FnOk P w K mg base (L2.CX P w) (k + 1) f fd ps (cSp K (sp0 p)) :=
  DFunX.ok F S (fun ds G Q E h => by
    match ds, h with
    | [], _ => exact hp.symm) d fun ds G Q E0 h => by
    match ds, h with
    | [], h => subst hl; exact rd G Q E0 h
theorem DFunX.ok1 {p : D → GHp → DK → DXK → Prop} (F : FunD K x qual (defArgs st) (defBody st) (defScope st) dv kv f fd) (S : FnScope N ps (defScope st)) (hp : ps.length = 1) (hl : List.replicate (N.length - 1) none = l) (d : DerX P w K mg base N qual st f k t)
    (rd : ∀ a G Q E, p a G Q E → DRunX t (some a :: l) G Q E) : FnOk P w K mg base (L2.CX P w) (k + 1) f fd ps (cSp K (sp1 p)) :=
  DFunX.ok F S (fun ds G Q E h => by
    match ds, h with
    | [_], _ => exact hp.symm) d fun ds G Q E0 h => by
    match ds, h with
    | [a], h => subst hl; exact rd a G Q E0 h
theorem DFunX.ok2 {p : D → D → GHp → DK → DXK → Prop} (F : FunD K x qual (defArgs st) (defBody st) (defScope st) dv kv f fd) (S : FnScope N ps (defScope st)) (hp : ps.length = 2) (hl : List.replicate (N.length - 2) none = l) (d : DerX P w K mg base N qual st f k t)
    (rd : ∀ a b G Q E, p a b G Q E → DRunX t (some a :: some b :: l) G Q E) : FnOk P w K mg base (L2.CX P w) (k + 1) f fd ps (cSp K (sp2 p)) :=
  DFunX.ok F S (fun ds G Q E h => by
    match ds, h with
    | [_, _], _ => exact hp.symm) d fun ds G Q E0 h => by
    match ds, h with
    | [a, b], h => subst hl; exact rd a b G Q E0 h
theorem DFunX.ok3 {p : D → D → D → GHp → DK → DXK → Prop} (F : FunD K x qual (defArgs st) (defBody st) (defScope st) dv kv f fd) (S : FnScope N ps (defScope st)) (hp : ps.length = 3) (hl : List.replicate (N.length - 3) none = l) (d : DerX P w K mg base N qual st f k t)
    (rd : ∀ a b c G Q E, p a b c G Q E → DRunX t (some a :: some b :: some c :: l) G Q E) : FnOk P w K mg base (L2.CX P w) (k + 1) f fd ps (cSp K (sp3 p)) :=
  DFunX.ok F S (fun ds G Q E h => by
    match ds, h with
    | [_, _, _], _ => exact hp.symm) d fun ds G Q E0 h => by
    match ds, h with
    | [a, b, c], h => subst hl; exact rd a b c G Q E0 h
theorem DFunX.ok4 {p : D → D → D → D → GHp → DK → DXK → Prop} (F : FunD K x qual (defArgs st) (defBody st) (defScope st) dv kv f fd) (S : FnScope N ps (defScope st)) (hp : ps.length = 4) (hl : List.replicate (N.length - 4) none = l) (d : DerX P w K mg base N qual st f k t)
    (rd : ∀ a b c e G Q E, p a b c e G Q E → DRunX t (some a :: some b :: some c :: some e :: l) G Q E) : FnOk P w K mg base (L2.CX P w) (k + 1) f fd ps (cSp K (sp4 p)) :=
  DFunX.ok F S (fun ds G Q E h => by
    match ds, h with
    | [_, _, _, _], _ => exact hp.symm) d fun ds G Q E0 h => by
    match ds, h with
    | [a, b, c, e], h => subst hl; exact rd a b c e G Q E0 h
theorem DFunX.ok5 {p : D → D → D → D → D → GHp → DK → DXK → Prop} (F : FunD K x qual (defArgs st) (defBody st) (defScope st) dv kv f fd) (S : FnScope N ps (defScope st)) (hp : ps.length = 5) (hl : List.replicate (N.length - 5) none = l) (d : DerX P w K mg base N qual st f k t)
    (rd : ∀ a b c e g G Q E, p a b c e g G Q E → DRunX t (some a :: some b :: some c :: some e :: some g :: l) G Q E) : FnOk P w K mg base (L2.CX P w) (k + 1) f fd ps (cSp K (sp5 p)) :=
  DFunX.ok F S (fun ds G Q E h => by
    match ds, h with
    | [_, _, _, _, _], _ => exact hp.symm) d fun ds G Q E0 h => by
    match ds, h with
    | [a, b, c, e, g], h => subst hl; exact rd a b c e g G Q E0 h
end
def sp6 (p : D → D → D → D → D → D → GHp → DK → DXK → Prop) : DSp := fun ds G Q E => match ds with
  | [a, b, c, d, e, g] => p a b c d e g G Q E
  | _ => False
section
variable {P : Program} {w : World} {K : PySem.W.Frag} {mg : Str → Option Value} {base : Heap} {x qual : Str} {st : Stmt} {f : Addr} {fd : FuncData} {N ps : List Str} {k : Nat} {t : DTS} {l : DSt} {dv : List V} {kv : List (Str × V)}
theorem DFun.ok6 {p : D → D → D → D → D → D → GHp → DK → DXK → Prop} (F : FunD K x qual (defArgs st) (defBody st) (defScope st) dv kv f fd) (S : FnScope N ps (defScope st)) (hp : ps.length = 6) (hl : List.replicate (N.length - 6) none = l) (d : Der P w K mg base N qual st f k t)
    (rd : ∀ a b c e g i G Q E, p a b c e g i G Q E → DRun t (some a :: some b :: some c :: some e :: some g :: some i :: l) G Q) :
    FnOk P w K mg base CX0 (k + 1) f fd ps (cSp K (sp6 p)) :=
  DFunD.ok F S (fun ds G Q E h => by
    match ds, h with
    | [_, _, _, _, _, _], _ => exact hp.symm) fun cdv A outer s H E ds G Q E0 hr h => by
    match ds, h with
    | [a, b, c, e, g, i], h => exact ⟨t, d cdv A outer s H E hr, by subst hl; exact rd a b c e g i G Q E0 h⟩
theorem DFunX.ok6 {p : D → D → D → D → D → D → GHp → DK → DXK → Prop} (F : FunD K x qual (defArgs st) (defBody st) (defScope st) dv kv f fd) (S : FnScope N ps (defScope st)) (hp : ps.length = 6) (hl : List.replicate (N.length - 6) none = l) (d : DerX P w K mg base N qual st f k t)
    (rd : ∀ a b c e g i G Q E, p a b c e g i G Q E → DRunX t (some a :: some b :: some c :: some e :: some g :: some i :: l) G Q E) : FnOk P w K mg base (L2.CX P w) (k + 1) f fd ps (cSp K (sp6 p)) :=
  DFunX.ok F S (fun ds G Q E h => by
    match ds, h with
    | [_, _, _, _, _, _], _ => exact hp.symm) d fun ds G Q E0 h => by
    match ds, h with
    | [a, b, c, e, g, i], h => subst hl; exact rd a b c e g i G Q E0 h
/-- what is known of an own class x over the class b, whose __init__ keeps its argument in the field g -/
structure XC1 (K : PySem.W.Frag) (mg : Str → Option Value) (x b g : Str) : Prop where
  m : mg x = some (.ref (ga K x))
  o : OexC K (ga K x)
  xf : XfC K (ga K x)
  no : PySem.W.findIn K (.ref (ga K x)) g = some none
  ini : PySem.W.findIn K (.ref (ga K x)) "__init__" = some (some (.ref (fAd K (x, some "__init__"))))
  ti : PySem.W.typeIn K (.ref (fAd K (x, some "__init__"))) = some (.type "function")
  bm : mg b = some (.ref (ga K b))
  bs : BsC K (ga K b)
  ex : PySem.W.exmOne K (.ref (ga K x)) (.ref (ga K x)) = some true
def xc1B (K : PySem.W.Frag) (x b g : Str) : Bool := eqO (PySem.W.nsIn K mainGlobals x) (some (some (.ref (ga K x)))) && (eqO (PySem.W.nsIn K mainGlobals b) (some (some (.ref (ga K b)))) && (oexB K (ga K x) && (xfB K (ga K x) &&
  (eqO (PySem.W.findIn K (.ref (ga K x)) g) (some none) && (eqO (PySem.W.findIn K (.ref (ga K x)) "__init__") (some (some (.ref (fAd K (x, some "__init__"))))) && (decide (PySem.W.typeIn K (.ref (fAd K (x, some "__init__"))) = some (.type "function")) &&
  (bscB K (ga K b) && decide (PySem.W.exmOne K (.ref (ga K x)) (.ref (ga K x)) = some true))))))))
theorem xc1B_ok {h : Heap} (X : K.In h) (G : h.Ns mainGlobals mg) {x b g : Str} (c : xc1B K x b g = true) : XC1 K mg x b g := by
  obtain ⟨h1, c⟩ := ba c
  obtain ⟨h2, c⟩ := ba c
  obtain ⟨h3, c⟩ := ba c
  obtain ⟨h4, c⟩ := ba c
  obtain ⟨h5, c⟩ := ba c
  obtain ⟨h6, c⟩ := ba c
  obtain ⟨h7, c⟩ := ba c
  obtain ⟨h8, h9⟩ := ba c
  exact ⟨PySem.W.mg_of X G (eqO_ok h1), oexB_ok h3, xfB_ok h4, eqO_ok h5, eqO_ok h6, of_decide_eq_true h7, PySem.W.mg_of X G (eqO_ok h2), bscB_ok h8, of_decide_eq_true h9⟩
end
end DL
set_option Elab.async false
set_option linter.all false
set_option maxRecDepth 100000
set_option maxHeartbeats 1000000
/-! DL, part 19: comprehensions that draw. -/
namespace DL
open PySem PySem.Spec L2
theorem at_map {α : Type} {f : α → D} {l : List α} {i : Nat} (h : i < l.length) {Q : D → Prop} (q : Q (f l[i])) : atD (l.map f) (i : Int) Q :=
  atD_nat (d := f l[i]) (by rw [List.getElem?_map, List.getElem?_eq_getElem h]; rfl) q
theorem tab_atZ {n : Nat} {f : Nat → D} {z : Int} (h0 : 0 ≤ z) (h : z < n) {Q : D → Prop} (q : Q (f z.toNat)) : atD (tab n f) z Q := by
  obtain ⟨i, rfl⟩ := Int.eq_ofNat_of_zero_le h0
  exact tab_at (by omega) q
theorem enum_tab (n : Nat) (f : Nat → D) : enumFrom 0 (tab n f) = (List.range n).map fun (k : Nat) => D.tup [.int k, f k] := by
  refine List.ext_getElem? fun i => ?_
  unfold tab
  rw [enumFrom_get, List.getElem?_map, List.getElem?_map]
  by_cases h : i < n
  · rw [List.getElem?_range h]
    simp
  · rw [List.getElem?_eq_none (by simp; omega)]
    rfl
theorem Paired.len {α β : Type} {P : α → β → Prop} {xs : List α} {ys : List β} (h : Paired P xs ys) : xs.length = ys.length := Paired.length h
theorem Paired.snoc {α β : Type} {P : α → β → Prop} {x : α} {y : β} (q : P x y) : ∀ {xs : List α} {ys : List β}, Paired P xs ys → Paired P (xs ++ [x]) (ys ++ [y])
  | _, _, .nil => .cons q .nil
  | _, _, .cons h t => .cons h (Paired.snoc q t)
theorem Paired.at_ {α β : Type} {P : α → β → Prop} : ∀ {xs : List α} {ys : List β}, Paired P xs ys → ∀ {i : Nat} {x : α} {y : β}, xs[i]? = some x → ys[i]? = some y → P x y
  | _, _, .nil, i, x, y, h, _ => by simp at h
  | _, _, .cons q t, 0, x, y, h, g => by
    simp at h g
    subst h g
    exact q
  | _, _, .cons q t, i + 1, x, y, h, g => Paired.at_ t (by simpa using h) (by simpa using g)
theorem Paired.all2 {α β : Type} {P : α → β → Prop} {R : β → Prop} (k : ∀ x y, P x y → R y) : ∀ {xs : List α} {ys : List β}, Paired P xs ys → ∀ y ∈ ys, R y
  | _, _, .nil, y, h => by simp at h
  | _, _, .cons q t, y, h => by
    rcases List.mem_cons.mp h with rfl | h
    · exact k _ _ q
    · exact Paired.all2 k t y h
/-- a list of encoded things -/
theorem Paired.enc {α β γ : Type} {P : α → β → Prop} {f : β → γ} : ∀ {xs : List α} {ds : List γ}, Paired (fun x d => ∃ w, d = f w ∧ P x w) xs ds → ∃ ws, ds = ws.map f ∧ Paired P xs ws
  | _, _, .nil => ⟨[], rfl, .nil⟩
  | _, _, .cons ⟨w, e, q⟩ t => by
    obtain ⟨ws, e2, t2⟩ := Paired.enc t
    exact ⟨w :: ws, by rw [e, e2]; rfl, .cons q t2⟩
/-- each item's value is made with the box; c draws an item at most -/
theorem lc_bk {m : Bool} {gd : Gd} {g : Tgt} {te : DTE} {δw : DSt} {G0 G : GHp} {p : Addr} {Q : DK} {α : Type} {enc : α → D} {xs : List α} (P : α → D → Prop) (k c : Nat) (dst : α → DSt) (hz : xs.length ≤ sizeLine) (hg : ∀ k G', Bk G0 p k G' → gd.ok G')
    (hs : ∀ x ∈ xs, g.set (enc x) δw = some (dst x))
    (he : ∀ x ∈ xs, ∀ j G', j < xs.length → Bk G0 p (k + c * j) G' → ∀ R : DK, (∀ d G2, P x d → Bk G0 p (k + c * (j + 1)) G2 → R d G2) → te (dst x) G' R)
    (hd : ∀ ds G', Paired P xs ds → Bk G0 p (k + c * xs.length) G' → lcEnd m ds G' Q) (h0 : Bk G0 p k G) : dLcL m gd g dYes te δw (xs.map enc) [] G Q := by
  refine lc_ind (enc := enc) (fun r acc G' => ∃ pre, xs = pre ++ r ∧ Paired P pre acc ∧ Bk G0 p (k + c * pre.length) G') ?_ ?_ xs [] G ⟨[], rfl, .nil, h0⟩
  · rintro acc G' ⟨pre, e, hp, B⟩
    rw [List.append_nil] at e
    subst e
    exact ⟨hg _ _ B, hd _ _ hp B⟩
  · rintro x r acc G' ⟨pre, e, hp, B⟩
    have hx : x ∈ xs := by rw [e]; simp
    have hl : pre.length < xs.length := by rw [e]; simp
    refine ⟨hg _ _ B, _, hs x hx, fun N hN => ⟨fun _ => ?_, fun e => tf e⟩⟩
    refine he x hx _ _ hl B _ fun d G2 hP B2 => ⟨?_, hN _ _ ⟨pre ++ [x], by rw [e]; simp, Paired.snoc hP hp, by rw [List.length_append]; exact B2⟩⟩
    rw [← Paired.length hp]; omega
end DL
set_option Elab.async false
set_option linter.all false
set_option maxRecDepth 100000
set_option maxHeartbeats 1000000
/-! DL, part 20: defs with keyword-only defaults. -/
namespace DL
open PySem PySem.Spec L2 PyProof.Rows
def pick {α : Type} (ix : List Nat) (l : List α) : List α := ix.filterMap fun i => l[i]?
/-- n positional values, keywords ks, the lacking ones' values ms -/
def KBk (K : PySem.W.Frag) (fd : FuncData) (ps : List Str) (n : Nat) (ks : List Str) (ix : List Nat) (ms : List V) : Prop :=
  ∃ mv : List Value, KBn K fd ps n ks (fun us ws => pick ix (us ++ ws ++ mv)) (fun vs zs => pick ix (vs ++ zs ++ ms))
/-- a def with keyword-only defaults -/
structure FnK (K : PySem.W.Frag) (mg : Str → Option Value) (name : Str) (st : Stmt) (kws : List (Str × V)) where
  f : Addr
  fd : FuncData
  F : FunD K name name (defArgs st) (defBody st) (defScope st) [] kws f fd
  m : mg name = some (.ref f)
section
variable {K : PySem.W.Frag} {x qual : Str} {params : Arguments} {body : List Stmt} {scope : Scope} {kws : List (Str × V)} {f : Addr} {fd : FuncData} {ps ks : List Str} {n : Nat}
theorem kbk_of (F : FunD K x qual params body scope [] kws f fd) (ix : List Nat) (ms : List (Str × V)) (hn : ms ≠ []) (hms : ∀ q ∈ ms, q ∈ kws)
    (h : ∀ (D : Addr) (doc pm : Value) (an : Option Addr) (cdv ct : Value) (us ws mv : List Value), us.length = n → ws.length = ks.length → mv.length = ms.length →
      KwChain D ((ms.map (·.1)).zip mv) (bindArgs (PySem.W.fnOf x qual params body scope .none (.ref D) doc pm an cdv ct) ⟨us, ks.zip ws⟩) (ps.zip (pick ix (us ++ ws ++ mv)))) : KBk K fd ps n ks ix (ms.map (·.2)) := by
  obtain ⟨oc, od, dV, kV, doc, pm, an, cdv, ct, osl, rfl, lk, hcd, hD, hK⟩ := F.ex
  rcases hD with ⟨_, rfl⟩ | ⟨e, _⟩
  · rcases hK with e | ⟨D, rfl, hq⟩
    · cases ms with
      | nil => exact absurd rfl hn
      | cons m r =>
        have := hms m List.mem_cons_self
        rw [e] at this
        simp at this
    · obtain ⟨mv, hl, rk, hks⟩ := kwd_vals (ms := ms) fun q hm => hq q (hms q hm)
      exact ⟨mv, fun s us ws X l1 l2 => BindsTo.of_looks fun M => KwChain.looks X hks (h D doc pm an cdv ct us ws mv l1 l2 hl), fun r1 r2 => Vals.pick ((r1.append r2).append rk) ix⟩
  · exact absurd rfl e
/-- nothing lacks -/
theorem kbk_all (F : FunD K x qual params body scope [] kws f fd) (ix : List Nat)
    (h : ∀ (kV doc pm : Value) (an : Option Addr) (cdv ct : Value) (us ws : List Value), us.length = n → ws.length = ks.length → bindArgs (PySem.W.fnOf x qual params body scope .none kV doc pm an cdv ct) ⟨us, ks.zip ws⟩ = pure (ps.zip (pick ix (us ++ ws ++ [])))) : KBk K fd ps n ks ix [] := by
  obtain ⟨oc, od, dV, kV, doc, pm, an, cdv, ct, osl, rfl, lk, hcd, hD, hK⟩ := F.ex
  rcases hD with ⟨_, rfl⟩ | ⟨e, _⟩
  · exact ⟨[], fun s us ws X l1 l2 => .of_eq (h kV doc pm an cdv ct us ws l1 l2), fun r1 r2 => Vals.pick ((r1.append r2).append .nil) ix⟩
  · exact absurd rfl e
end
section
variable {X : Cx} {CX : CXT} {k : Nat} {f : Addr} {fd : FuncData} {ps : List Str} {sp : DSp} {E : XK} {x : Str} {p pos : Pos} {e : Expr} {es : List Expr} {t : DTA} {ix : List Nat} {ms : List V} {mds : List D}
theorem Reps.pickK {K : PySem.W.Frag} {W : Hp} (ix : List Nat) {ds es : List D} {vs us : List V} (hmd : ∀ W, Reps K W mds ms) (r : Reps K W ds vs) (q : Reps K W es us) : Reps K W (DL.pick ix (ds ++ es ++ mds)) (DL.pick ix (vs ++ us ++ ms)) := Reps.pick ((r.append q).append (hmd W)) ix
theorem de_callK {n : Nat} {ks : List Str} {kws : List Keyword} {tk : DTA} (F : FnOk X.prog X.w X.K X.mg X.base CX k f fd ps (cSp X.K sp)) (hr : Room k X.A) (hg : Gl X x) (hm : X.mg x = some (.ref f)) (hk : PySem.W.keepIn X.K (.ref f) = true) (hb : KBk X.K fd ps n ks ix ms)
    (hmd : ∀ W, Reps X.K W mds ms) (hx : Passes CX X E)
    (ha : DA X (e :: es) t) (hkw : DKw X kws tk) (hall : (backToKw pos (keywordEach kws X.env)).all (·.1.isSome) = true := by rfl) (hks : (backToKw pos (keywordEach kws X.env)).filterMap (·.1) = ks := by rfl)
    (hdb : (x == ("__debug__" : Str)) = false := by decide) (he : starEach (e :: es) X.env = (false, eval e X.env) :: starEach es X.env := by rfl)
    (hpl : ((backTo pos (starEach (e :: es) X.env)).any (·.1) || (backToKw pos (keywordEach kws X.env)).any (·.1.isNone)) = false := by rfl) :
    DE X (.Call (.Name x p) (e :: es) kws pos) (dCallN n ks.length sp (fun ds es => pick ix (ds ++ es ++ mds)) t tk) := by
  obtain ⟨mv, h⟩ := hb
  exact de_callN F hr hg hm hk h (fun _ _ _ _ _ r q => Reps.pickK ix hmd r q) hx ha hkw hall hks hdb he hpl
theorem de_callK0 {ks : List Str} {kws : List Keyword} {tk : DTA} (F : FnOk X.prog X.w X.K X.mg X.base CX k f fd ps (cSp X.K sp)) (hr : Room k X.A) (hg : Gl X x) (hm : X.mg x = some (.ref f)) (hk : PySem.W.keepIn X.K (.ref f) = true) (hb : KBk X.K fd ps 0 ks ix ms)
    (hmd : ∀ W, Reps X.K W mds ms) (hx : Passes CX X E)
    (hkw : DKw X kws tk) (hall : (backToKw pos (keywordEach kws X.env)).all (·.1.isSome) = true := by rfl) (hks : (backToKw pos (keywordEach kws X.env)).filterMap (·.1) = ks := by rfl)
    (hdb : (x == ("__debug__" : Str)) = false := by decide) (hpl : ((backTo pos (starEach [] X.env)).any (·.1) || (backToKw pos (keywordEach kws X.env)).any (·.1.isNone)) = false := by rfl) :
    DE X (.Call (.Name x p) [] kws pos) (dCallN 0 ks.length sp (fun ds es => pick ix (ds ++ es ++ mds)) dNil tk) := by
  obtain ⟨mv, h⟩ := hb
  exact de_callN0 F hr hg hm hk h (fun _ _ _ _ _ r q => Reps.pickK ix hmd r q) hx hkw hall hks hdb hpl
end
end DL
set_option linter.all false
set_option maxRecDepth 100000
set_option maxHeartbeats 1000000
namespace NUM
open PySem PySem.Spec L2 DL
open Rat
/-! DL, part 21: exact numbers: whole ones and parts are rational numbers; what the program's and the laws' reckoning does. -/
/-- is_plain: 0 thing -/
def t_is_plain : DTS :=
  (dRet (dAndV (dCB (dR2 dIsiR) (dCons (dVar 0) (dCons (dC (.ty .int)) dNil))) (dNotV (dCB (dR2 dIsiR) (dCons (dVar 0) (dCons (dC (.ty .bool)) dNil))))))
/-- is_whole: 0 thing, 1 low, 2 high -/
def t_is_whole (sp_is_plain : DSp) : DTS :=
  (dRet (dAndV (dCall sp_is_plain [] (dCons (dVar 0) dNil)) (dChain (dCmpR (fun i j => decide (i ≤ j)) (fun a b => !decide (b < a))) (dCmpR (fun i j => decide (i ≤ j)) (fun a b => !decide (b < a))) (dVar 1) (dVar 0) (dVar 2))))
/-- common_part: 0 one, 1 other -/
def t_common_part : DTS :=
  (dSeq (dPar 0 1 (dCons (dCB (dR1 dAbsR) (dCons (dVar 0) dNil)) (dCons (dCB (dR1 dAbsR) (dCons (dVar 1) dNil)) dNil)))
  (dSeq (dWhile (dTestB (dOp dNeQ (dVar 1) (dC (.int 0)))) (dPar 0 1 (dCons (dVar 1) (dCons (dOp (dI (fun _ j => 0 < j) fun i j => .int (i % j)) (dVar 0) (dVar 1)) dNil))))
  (dRet (dVar 0))))
/-- is_part: 0 thing, 1 top, 2 base -/
def t_is_part (sp_is_plain : DSp) (sp_common_part : DSp) : DTS :=
  (dSeq (dIf (dOr (dNot (dTest (dCB (dR2 dIsiR) (dCons (dVar 0) (dCons (dC (.ty .tup)) dNil))))) (dTestB (dOp dNeQ (dCB (dR1 dLenR) (dCons (dVar 0) dNil)) (dC (.int 2))))) (dRet (dC (.bl false))) dNext)
  (dSeq (dAsg (dVar 0) (.tp [(.nm 1), (.nm 2)]))
  (dRet (dAndV (dCall sp_is_plain [] (dCons (dVar 1) dNil)) (dAndV (dCall sp_is_plain [] (dCons (dVar 2) dNil)) (dAndV (dOp (dCmpR (fun i j => decide (j < i)) (fun a b => decide (b < a))) (dVar 2) (dC (.int 1))) (dOp dEqQ (dCall sp_common_part [] (dCons (dVar 1) (dCons (dVar 2) dNil))) (dC (.int 1)))))))))
/-- is_number: 0 thing -/
def t_is_number (sp_is_plain : DSp) (sp_is_part : DSp) : DTS :=
  (dRet (dOrV (dCall sp_is_plain [] (dCons (dVar 0) dNil)) (dCall sp_is_part [] (dCons (dVar 0) dNil))))
/-- reckoned: 0 top, 1 base, 2 part -/
def t_reckoned (sp_common_part : DSp) : DTS :=
  (dSeq (dAsg (dCall sp_common_part [] (dCons (dVar 0) (dCons (dVar 1) dNil))) (.nm 2))
  (dSeq (dIf (dTestB (dOp (dCmpR (fun i j => decide (i < j)) (fun a b => decide (a < b))) (dVar 1) (dC (.int 0)))) (dAsg (dOp (dI0 fun i j => .int (i - j)) (dC (.int 0)) (dVar 2)) (.nm 2)) dNext)
  (dSeq (dPar 0 1 (dCons (dOp (dI (fun _ j => DivOk j) fun i j => .int (i.fdiv j)) (dVar 0) (dVar 2)) (dCons (dOp (dI (fun _ j => DivOk j) fun i j => .int (i.fdiv j)) (dVar 1) (dVar 2)) dNil)))
  (dRet (dIfE (dTestB (dOp dEqQ (dVar 1) (dC (.int 1)))) (dVar 0) (dTup (dCons (dVar 0) (dCons (dVar 1) dNil))))))))
/-- pair_of: 0 number -/
def t_pair_of (sp_is_plain : DSp) (sp_is_part : DSp) : DTS :=
  (dSeq (dIf (dTest (dCall sp_is_plain [] (dCons (dVar 0) dNil))) (dRet (dTup (dCons (dVar 0) (dCons (dC (.int 1)) dNil)))) dNext)
  (dSeq (dIf (dNot (dTest (dCall sp_is_part [] (dCons (dVar 0) dNil)))) dNever dNext)
  (dRet (dVar 0))))
/-- plus: 0 one, 1 other, 2 top, 3 base, 4 more, 5 under -/
def t_plus (sp_pair_of : DSp) (sp_reckoned : DSp) : DTS :=
  (dSeq (dAsg (dTup (dCons (dCall sp_pair_of [] (dCons (dVar 0) dNil)) (dCons (dCall sp_pair_of [] (dCons (dVar 1) dNil)) dNil))) (.tp [(.tp [(.nm 2), (.nm 3)]), (.tp [(.nm 4), (.nm 5)])]))
  (dRet (dCall sp_reckoned [] (dCons (dOp dAddR (dOp (dI MulOk fun i j => .int (i * j)) (dVar 2) (dVar 5)) (dOp (dI MulOk fun i j => .int (i * j)) (dVar 4) (dVar 3))) (dCons (dOp (dI MulOk fun i j => .int (i * j)) (dVar 3) (dVar 5)) dNil)))))
/-- minus: 0 one, 1 other, 2 top, 3 base, 4 more, 5 under -/
def t_minus (sp_pair_of : DSp) (sp_reckoned : DSp) : DTS :=
  (dSeq (dAsg (dTup (dCons (dCall sp_pair_of [] (dCons (dVar 0) dNil)) (dCons (dCall sp_pair_of [] (dCons (dVar 1) dNil)) dNil))) (.tp [(.tp [(.nm 2), (.nm 3)]), (.tp [(.nm 4), (.nm 5)])]))
  (dRet (dCall sp_reckoned [] (dCons (dOp (dI0 fun i j => .int (i - j)) (dOp (dI MulOk fun i j => .int (i * j)) (dVar 2) (dVar 5)) (dOp (dI MulOk fun i j => .int (i * j)) (dVar 4) (dVar 3))) (dCons (dOp (dI MulOk fun i j => .int (i * j)) (dVar 3) (dVar 5)) dNil)))))
/-- times: 0 one, 1 other, 2 top, 3 base, 4 more, 5 under -/
def t_times (sp_pair_of : DSp) (sp_reckoned : DSp) : DTS :=
  (dSeq (dAsg (dTup (dCons (dCall sp_pair_of [] (dCons (dVar 0) dNil)) (dCons (dCall sp_pair_of [] (dCons (dVar 1) dNil)) dNil))) (.tp [(.tp [(.nm 2), (.nm 3)]), (.tp [(.nm 4), (.nm 5)])]))
  (dRet (dCall sp_reckoned [] (dCons (dOp (dI MulOk fun i j => .int (i * j)) (dVar 2) (dVar 4)) (dCons (dOp (dI MulOk fun i j => .int (i * j)) (dVar 3) (dVar 5)) dNil)))))
/-- over: 0 one, 1 other, 2 top, 3 base, 4 more, 5 under -/
def t_over (sp_pair_of : DSp) (sp_reckoned : DSp) : DTS :=
  (dSeq (dAsg (dTup (dCons (dCall sp_pair_of [] (dCons (dVar 0) dNil)) (dCons (dCall sp_pair_of [] (dCons (dVar 1) dNil)) dNil))) (.tp [(.tp [(.nm 2), (.nm 3)]), (.tp [(.nm 4), (.nm 5)])]))
  (dSeq (dIf (dTestB (dOp dEqQ (dVar 4) (dC (.int 0)))) dNever dNext)
  (dRet (dCall sp_reckoned [] (dCons (dOp (dI MulOk fun i j => .int (i * j)) (dVar 2) (dVar 5)) (dCons (dOp (dI MulOk fun i j => .int (i * j)) (dVar 3) (dVar 4)) dNil))))))
/-- less: 0 one, 1 other, 2 top, 3 base, 4 more, 5 under -/
def t_less (sp_pair_of : DSp) : DTS :=
  (dSeq (dAsg (dTup (dCons (dCall sp_pair_of [] (dCons (dVar 0) dNil)) (dCons (dCall sp_pair_of [] (dCons (dVar 1) dNil)) dNil))) (.tp [(.tp [(.nm 2), (.nm 3)]), (.tp [(.nm 4), (.nm 5)])]))
  (dRet (dOp (dCmpR (fun i j => decide (i < j)) (fun a b => decide (a < b))) (dOp (dI MulOk fun i j => .int (i * j)) (dVar 2) (dVar 5)) (dOp (dI MulOk fun i j => .int (i * j)) (dVar 4) (dVar 3)))))
/-- floor_of: 0 number, 1 step, 2 top, 3 base, 4 more, 5 under -/
def t_floor_of (sp_pair_of : DSp) (sp_times : DSp) : DTS :=
  (dSeq (dAsg (dTup (dCons (dCall sp_pair_of [] (dCons (dVar 0) dNil)) (dCons (dCall sp_pair_of [] (dCons (dVar 1) dNil)) dNil))) (.tp [(.tp [(.nm 2), (.nm 3)]), (.tp [(.nm 4), (.nm 5)])]))
  (dSeq (dIf (dTestB (dOp (dCmpR (fun i j => decide (i ≤ j)) (fun a b => !decide (b < a))) (dVar 4) (dC (.int 0)))) dNever dNext)
  (dRet (dCall sp_times [] (dCons (dVar 1) (dCons (dOp (dI CDivW fun i j => .int (i / j)) (dOp (dI MulOk fun i j => .int (i * j)) (dVar 2) (dVar 5)) (dOp (dI MulOk fun i j => .int (i * j)) (dVar 3) (dVar 4))) dNil))))))
/-- _law_low: 0 top, 1 bottom, 2 one, 3 other, 4 sign -/
def t_law_low : DTS :=
  (dSeq (dPar 2 3 (dCons (dCB (dR1 dAbsR) (dCons (dVar 0) dNil)) (dCons (dCB (dR1 dAbsR) (dCons (dVar 1) dNil)) dNil)))
  (dSeq (dWhile (dTestB (dOp (dCmpR (fun i j => decide (j < i)) (fun a b => decide (b < a))) (dVar 3) (dC (.int 0)))) (dPar 2 3 (dCons (dVar 3) (dCons (dOp (dI (fun _ j => 0 < j) fun i j => .int (i % j)) (dCB (dR1 dIntR) (dCons (dVar 2) dNil)) (dVar 3)) dNil))))
  (dSeq (dAsg (dIfE (dTestB (dOp (dCmpR (fun i j => decide (j < i)) (fun a b => decide (b < a))) (dVar 1) (dC (.int 0)))) (dC (.int 1)) (dUn dNeg (dC (.int 1)))) (.nm 4))
  (dRet (dTup (dCons (dOp (dI CDivW fun i j => .int (i / j)) (dOp (dI MulOk fun i j => .int (i * j)) (dVar 4) (dVar 0)) (dVar 2)) (dCons (dOp (dI CDivW fun i j => .int (i / j)) (dCB (dR1 dAbsR) (dCons (dVar 1) dNil)) (dVar 2)) dNil)))))))
/-- _law_num: 0 pair -/
def t_law_num : DTS :=
  (dRet (dIfE (dTestB (dOp dEqQ (dOp dIxR (dVar 0) (dC (.int 1))) (dC (.int 1)))) (dOp dIxR (dVar 0) (dC (.int 0))) (dVar 0)))
/-- _law_plus: 0 one, 1 other -/
def t_law_plus (sp_law_low : DSp) : DTS :=
  (dRet (dCall sp_law_low [] (dCons (dOp dAddR (dOp (dI MulOk fun i j => .int (i * j)) (dOp dIxR (dVar 0) (dC (.int 0))) (dOp dIxR (dVar 1) (dC (.int 1)))) (dOp (dI MulOk fun i j => .int (i * j)) (dOp dIxR (dVar 1) (dC (.int 0))) (dOp dIxR (dVar 0) (dC (.int 1))))) (dCons (dOp (dI MulOk fun i j => .int (i * j)) (dOp dIxR (dVar 0) (dC (.int 1))) (dOp dIxR (dVar 1) (dC (.int 1)))) dNil))))
/-- _law_minus: 0 one, 1 other -/
def t_law_minus (sp_law_low : DSp) : DTS :=
  (dRet (dCall sp_law_low [] (dCons (dOp (dI0 fun i j => .int (i - j)) (dOp (dI MulOk fun i j => .int (i * j)) (dOp dIxR (dVar 0) (dC (.int 0))) (dOp dIxR (dVar 1) (dC (.int 1)))) (dOp (dI MulOk fun i j => .int (i * j)) (dOp dIxR (dVar 1) (dC (.int 0))) (dOp dIxR (dVar 0) (dC (.int 1))))) (dCons (dOp (dI MulOk fun i j => .int (i * j)) (dOp dIxR (dVar 0) (dC (.int 1))) (dOp dIxR (dVar 1) (dC (.int 1)))) dNil))))
/-- _law_over: 0 one, 1 other -/
def t_law_over (sp_law_low : DSp) : DTS :=
  (dRet (dCall sp_law_low [] (dCons (dOp (dI MulOk fun i j => .int (i * j)) (dOp dIxR (dVar 0) (dC (.int 0))) (dOp dIxR (dVar 1) (dC (.int 1)))) (dCons (dOp (dI MulOk fun i j => .int (i * j)) (dOp dIxR (dVar 0) (dC (.int 1))) (dOp dIxR (dVar 1) (dC (.int 0)))) dNil))))
/-- _law_less: 0 one, 1 other -/
def t_law_less : DTS :=
  (dRet (dOp (dCmpR (fun i j => decide (i < j)) (fun a b => decide (a < b))) (dOp (dI MulOk fun i j => .int (i * j)) (dOp dIxR (dVar 0) (dC (.int 0))) (dOp dIxR (dVar 1) (dC (.int 1)))) (dOp (dI MulOk fun i j => .int (i * j)) (dOp dIxR (dVar 1) (dC (.int 0))) (dOp dIxR (dVar 0) (dC (.int 1))))))
/-- _law_most: 0 one, 1 other -/
def t_law_most (sp_law_less : DSp) : DTS :=
  (dRet (dIfE (dTest (dCall sp_law_less [] (dCons (dVar 0) (dCons (dVar 1) dNil)))) (dVar 1) (dVar 0)))
/-- _law_floor: 0 pair -/
def t_law_floor : DTS :=
  (dRet (dOp (dI CDivW fun i j => .int (i / j)) (dOp dIxR (dVar 0) (dC (.int 0))) (dOp dIxR (dVar 0) (dC (.int 1)))))
/-- a number as the program has it -/
def numD (q : Rat) : D := if q.den = 1 then .int q.num else .tup [.int q.num, .int q.den]
/-- a top and a base -/
def prD (q : Rat) : D := .tup [.int q.num, .int q.den]
/-- below 2 ^ b -/
def Sz (b : Nat) (q : Rat) : Prop := q.num.natAbs < 2 ^ b ∧ q.den < 2 ^ b
theorem numD_int (i : Int) : numD (i : Rat) = .int i := by unfold numD; rw [den_intCast, num_intCast]; rfl
theorem numD_cases (q : Rat) : (∃ i : Int, q = (i : Rat) ∧ numD q = .int i) ∨ (q.den ≠ 1 ∧ numD q = .tup [.int q.num, .int q.den]) := by
  by_cases h : q.den = 1
  · refine .inl ⟨q.num, Rat.ext (by rw [num_intCast]) (by rw [den_intCast]; exact h), ?_⟩
    unfold numD; rw [if_pos h]
  · exact .inr ⟨h, by unfold numD; rw [if_neg h]⟩
/-! sizes -/
theorem Sz.mono {a b : Nat} {q : Rat} (h : Sz a q) (k : a ≤ b) : Sz b q := ⟨Nat.lt_of_lt_of_le h.1 (Nat.pow_le_pow_right (by decide) k), Nat.lt_of_lt_of_le h.2 (Nat.pow_le_pow_right (by decide) k)⟩
theorem Sz.int {b : Nat} {i : Int} (h : i.natAbs < 2 ^ b) (hb : 0 < b) : Sz b (i : Rat) := ⟨by rw [num_intCast]; exact h, by
  rw [den_intCast]
  calc 1 < 2 ^ 1 := by decide
    _ ≤ 2 ^ b := Nat.pow_le_pow_right (by decide) hb⟩
/-- a fraction is no greater than its terms -/
theorem frac_le {t d : Int} (hd0 : d ≠ 0) : (t /. d).num.natAbs ≤ t.natAbs ∧ (t /. d).den ≤ d.natAbs := by
  refine ⟨?_, ?_⟩
  · rw [num_divInt]
    have h1 : (d.sign * t).natAbs ≤ t.natAbs := by
      rw [Int.natAbs_mul]
      rcases Int.lt_trichotomy d 0 with h | h | h
      · rw [Int.sign_eq_neg_one_of_neg h]; simp
      · exact absurd h hd0
      · rw [Int.sign_eq_one_of_pos h]; simp
    refine Nat.le_trans ?_ h1
    exact Int.natAbs_ediv_le_natAbs (d.sign * t) ((d.gcd t : Nat) : Int)
  · rw [den_divInt, if_neg hd0]
    exact Nat.div_le_self _ _
theorem Sz.frac {b : Nat} {t d : Int} (ht : t.natAbs < 2 ^ b) (hd : d.natAbs < 2 ^ b) (hd0 : d ≠ 0) : Sz b (t /. d) :=
  ⟨Nat.lt_of_le_of_lt (frac_le hd0).1 ht, Nat.lt_of_le_of_lt (frac_le hd0).2 hd⟩
theorem prD_int (i : Int) : prD (i : Rat) = .tup [.int i, .int 1] := by unfold prD; rw [num_intCast, den_intCast]; rfl
theorem pow2_add (a b : Nat) : 2 ^ (a + b) = 2 ^ a * 2 ^ b := Nat.pow_add 2 a b
theorem mul_lt {a b x y : Nat} (h1 : x < 2 ^ a) (h2 : y < 2 ^ b) : x * y < 2 ^ (a + b) := by
  rw [pow2_add]
  exact Nat.lt_of_le_of_lt (Nat.mul_le_mul (Nat.le_of_lt h1) (Nat.le_refl y)) (Nat.mul_lt_mul_of_pos_left h2 (Nat.two_pow_pos a))
theorem add_frac (x y : Rat) : x + y = (x.num * y.den + y.num * x.den) /. (x.den * y.den) := by
  have := divInt_add_divInt x.num y.num (d₁ := x.den) (d₂ := y.den) (by have := x.den_nz; omega) (by have := y.den_nz; omega)
  rw [num_divInt_den, num_divInt_den] at this
  exact this
theorem sub_frac (x y : Rat) : x - y = (x.num * y.den - y.num * x.den) /. (x.den * y.den) := by
  have := divInt_sub_divInt x.num y.num (d₁ := x.den) (d₂ := y.den) (by have := x.den_nz; omega) (by have := y.den_nz; omega)
  rw [num_divInt_den, num_divInt_den] at this
  exact this
theorem mul_frac (x y : Rat) : x * y = (x.num * y.num) /. (x.den * y.den) := by
  have := divInt_mul_divInt x.num y.num (d₁ := x.den) (d₂ := y.den)
  rw [num_divInt_den, num_divInt_den] at this
  exact this
theorem div_frac (x y : Rat) : x / y = (x.num * y.den) /. (x.den * y.num) := by
  have e : y⁻¹ = y.den /. y.num := by
    have := inv_divInt y.num y.den
    rw [num_divInt_den] at this
    exact this
  rw [div_def, e]
  have := divInt_mul_divInt x.num (y.den : Int) (d₁ := x.den) (d₂ := y.num)
  rw [num_divInt_den] at this
  exact this
theorem den_ne (x : Rat) : (x.den : Int) ≠ 0 := by have := x.den_nz; omega
theorem den_mul_ne (x y : Rat) : (x.den : Int) * y.den ≠ 0 := Int.mul_ne_zero (den_ne x) (den_ne y)
theorem natAbs_add_lt {a : Nat} {i j : Int} (h1 : i.natAbs < 2 ^ a) (h2 : j.natAbs < 2 ^ a) : (i + j).natAbs < 2 ^ (a + 1) := by
  have := Int.natAbs_add_le i j
  rw [Nat.pow_succ]; omega
theorem natAbs_sub_lt {a : Nat} {i j : Int} (h1 : i.natAbs < 2 ^ a) (h2 : j.natAbs < 2 ^ a) : (i - j).natAbs < 2 ^ (a + 1) := by
  have := Int.natAbs_sub_le i j
  rw [Nat.pow_succ]; omega
theorem Sz.nd {a b : Nat} {x y : Rat} (hx : Sz a x) (hy : Sz b y) : (x.num * (y.den : Int)).natAbs < 2 ^ (a + b) := by
  rw [Int.natAbs_mul]; exact mul_lt hx.1 (by simpa using hy.2)
theorem Sz.dd {a b : Nat} {x y : Rat} (hx : Sz a x) (hy : Sz b y) : ((x.den : Int) * (y.den : Int)).natAbs < 2 ^ (a + b) := by
  rw [Int.natAbs_mul]; exact mul_lt (by simpa using hx.2) (by simpa using hy.2)
theorem Sz.nn {a b : Nat} {x y : Rat} (hx : Sz a x) (hy : Sz b y) : (x.num * y.num).natAbs < 2 ^ (a + b) := by
  rw [Int.natAbs_mul]; exact mul_lt hx.1 hy.1
theorem Sz.dn {a b : Nat} {x y : Rat} (hx : Sz a x) (hy : Sz b y) : ((x.den : Int) * y.num).natAbs < 2 ^ (a + b) := by
  rw [Int.natAbs_mul]; exact mul_lt (by simpa using hx.2) hy.1
theorem pow_le {a b n : Nat} (h : n < 2 ^ a) (k : a ≤ b) : n < 2 ^ b := Nat.lt_of_lt_of_le h (Nat.pow_le_pow_right (by decide) k)
theorem Sz.add {a b : Nat} {x y : Rat} (hx : Sz a x) (hy : Sz b y) : Sz (a + b + 1) (x + y) := by
  rw [add_frac]
  exact .frac (natAbs_add_lt (hx.nd hy) (by rw [Nat.add_comm a b]; exact hy.nd hx)) (pow_le (hx.dd hy) (by omega)) (den_mul_ne x y)
theorem Sz.sub {a b : Nat} {x y : Rat} (hx : Sz a x) (hy : Sz b y) : Sz (a + b + 1) (x - y) := by
  rw [sub_frac]
  exact .frac (natAbs_sub_lt (hx.nd hy) (by rw [Nat.add_comm a b]; exact hy.nd hx)) (pow_le (hx.dd hy) (by omega)) (den_mul_ne x y)
theorem Sz.mul {a b : Nat} {x y : Rat} (hx : Sz a x) (hy : Sz b y) : Sz (a + b) (x * y) := by
  rw [mul_frac]
  exact .frac (hx.nn hy) (hx.dd hy) (den_mul_ne x y)
theorem num_ne {y : Rat} (h : y ≠ 0) : y.num ≠ 0 := fun e => h (Rat.num_eq_zero.mp e)
theorem Sz.div {a b : Nat} {x y : Rat} (hx : Sz a x) (hy : Sz b y) (h0 : y ≠ 0) : Sz (a + b) (x / y) := by
  rw [div_frac]
  exact .frac (hx.nd hy) (hx.dn hy) (Int.mul_ne_zero (den_ne x) (num_ne h0))
theorem Sz.neg {a : Nat} {x : Rat} (hx : Sz a x) : Sz a (-x) := ⟨by rw [Rat.neg_num]; simpa using hx.1, by rw [Rat.neg_den]; exact hx.2⟩
theorem Sz.floor {a : Nat} {x : Rat} (hx : Sz a x) : x.floor.natAbs ≤ 2 ^ a := by
  rw [floor_def]
  have h1 := Int.natAbs_ediv_le_natAbs x.num x.den
  have := hx.1
  omega
/-! conditions -/
theorem mul_ok {a b : Nat} {i j : Int} (h1 : i.natAbs < 2 ^ a) (h2 : j.natAbs < 2 ^ b) (ha : 0 < a) (hb : 0 < b) (h : a + b ≤ 1000000) : MulOk i j := .inr (wide_mul h1 h2 ha hb h)
theorem div_ok {b : Nat} {j : Int} (h0 : 0 < j) (h1 : j.natAbs < 2 ^ b) (hb : 0 < b) (h : b ≤ 9000) (i : Int) : CDivW i j := wide_div h0 h1 hb h
theorem divN_ok {b : Nat} {j : Int} (h0 : j ≠ 0) (h1 : j.natAbs < 2 ^ b) (hb : 0 < b) (h : b ≤ 9000) : DivOk j := ⟨h0, Nat.lt_of_lt_of_le (PySem.Flt.log2_lt_of hb h1) h⟩
/-! tags: what isinstance sees -/
def plB : D → Bool
  | .int _ => true
  | _ => false
def paB : D → Bool
  | .tup [u, v] => (match u, v with
    | .int t, .int b => decide (1 < b) && decide (t.gcd b = 1)
    | _, _ => false)
  | _ => false
def nuB (d : D) : Bool := plB d || paB d
theorem pl_tag {G : GHp} {d : D} {t : Tg} (h : tgOf G d = some t) : plB d = decide (t = .int) := by
  cases d with
  | ref a =>
    unfold tgOf at h
    split at h <;> first | (simp_all; done) | (cases h; rfl) | skip
    all_goals (split at h <;> first | (cases h; rfl) | (cases h))
  | _ => first | (cases h; rfl) | (cases h)
theorem tag_tup {G : GHp} {a : D} (h : tgOf G a = some .tup) : ∃ ds, a = .tup ds := by
  cases a with
  | tup ds => exact ⟨ds, rfl⟩
  | ref p =>
    have h : (match G p with
      | some (.lst _) => some Tg.lst
      | some (.dK _) => some Tg.dct
      | some (.exo _ _) => some Tg.exc
      | _ => none) = some Tg.tup := h
    split at h <;> cases h
  | _ => cases h
theorem paB_num (q : Rat) (h : q.den ≠ 1) : paB (.tup [.int q.num, .int q.den]) = true := by
  have h1 := q.den_pos
  have h2 := q.reduced
  show (decide ((1 : Int) < q.den) && decide (q.num.gcd q.den = 1)) = true
  rw [decide_eq_true (by omega), decide_eq_true (by simpa [Nat.Coprime, Int.gcd] using h2)]
  rfl
theorem nuB_num (q : Rat) : nuB (numD q) = true := by
  rcases numD_cases q with ⟨i, _, e⟩ | ⟨h, e⟩
  · rw [e]; rfl
  · rw [e]; unfold nuB; rw [paB_num q h]; simp
end NUM
set_option linter.all false
set_option maxRecDepth 100000
set_option maxHeartbeats 1000000
namespace NUM
open PySem PySem.Spec L2 DL
open Rat
/-! DL, part 22: readings of the number defs. -/
def pr_is_plain (a : D) (G : GHp) (Q : DK) : Prop := ∃ t, tgOf G a = some t ∧ Q (.bl (plB a)) G
def sp_is_plain : DSp := sp1 fun a G Q _ => pr_is_plain a G Q
theorem rd_is_plain : ∀ a G Q (E : DXK), pr_is_plain a G Q → DRun t_is_plain [some a] G Q := by
  rintro a G Q E ⟨t, ht, h⟩
  rw [pl_tag ht] at h
  conv => whnf
  rw [ht]
  cases t
  case int =>
    conv => whnf
    refine ⟨fun _ => ?_, fun e => tf e⟩
    conv => whnf
    rw [ht]
    conv => whnf
    exact h
  case bool =>
    conv => whnf
    refine ⟨fun _ => ?_, fun e => tf e⟩
    conv => whnf
    rw [ht]
    conv => whnf
    exact h
  all_goals
    conv => whnf
    refine ⟨fun e => ft e, fun _ => ?_⟩
    conv => whnf
    exact h
def whB : D → Int → Int → Bool
  | .int i, l, h => decide (l ≤ i) && decide (i ≤ h)
  | _, _, _ => false
def pr_is_whole (a b c : D) (G : GHp) (Q : DK) : Prop := ∃ t l h, tgOf G a = some t ∧ b = .int l ∧ c = .int h ∧ Q (.bl (whB a l h)) G
def sp_is_whole : DSp := sp3 fun a b c G Q _ => pr_is_whole a b c G Q
theorem rd_is_whole : ∀ a b c G Q (E : DXK), pr_is_whole a b c G Q → DRun (t_is_whole sp_is_plain) [some a, some b, some c] G Q := by
  rintro a b c G Q E ⟨t, l, u, ht, rfl, rfl, h⟩
  conv => whnf
  refine ⟨t, ht, ?_⟩
  cases a
  case int i =>
    conv => whnf
    refine ⟨fun _ => ?_, fun e => tf e⟩
    conv => whnf
    refine ⟨fun e => ?_, fun e => ?_⟩
    · have e : decide (l ≤ i) = true := e
      conv => whnf
      have e2 : whB (.int i) l u = decide (i ≤ u) := by show (decide (l ≤ i) && decide (i ≤ u)) = _; rw [e]; rfl
      rw [e2] at h
      exact h
    · have e : decide (l ≤ i) = false := e
      have e2 : whB (.int i) l u = false := by show (decide (l ≤ i) && decide (i ≤ u)) = _; rw [e]; rfl
      rw [e2] at h
      exact h
  all_goals
    conv => whnf
    refine ⟨fun e => ft e, fun _ => ?_⟩
    conv => whnf
    exact h
def pr_common (a b : D) (G : GHp) (Q : DK) : Prop := ∃ i j : Int, a = .int i ∧ b = .int j ∧ Q (.int (i.gcd j : Nat)) G
def sp_common_part : DSp := sp2 fun a b G Q _ => pr_common a b G Q
theorem rd_common_part : ∀ a b G Q (E : DXK), pr_common a b G Q → DRun t_common_part [some a, some b] G Q := by
  rintro a b G Q E ⟨i, j, rfl, rfl, h⟩
  conv => whnf
  refine while_ind (fun n δ G' => G' = G ∧ ∃ m : Nat, δ = [some (.int m), some (.int n)] ∧ m.gcd n = i.gcd j) j.natAbs ⟨rfl, i.natAbs, rfl, rfl⟩ ?_
  rintro n δ _ ⟨rfl, m, rfl, hg⟩ N hN
  conv => whnf
  refine ⟨fun e => ?_, fun e => ?_⟩
  · have e : (!decide ((n : Int) = 0)) = true := e
    have hn : n ≠ 0 := fun q => by rw [q] at e; exact ft e
    conv => whnf
    refine ⟨by omega, ?_⟩
    conv => whnf
    have em : ((m : Int) % (n : Int)) = ((m % n : Nat) : Int) := rfl
    refine hN (m % n) _ _ (Nat.mod_lt _ (by omega)) ⟨rfl, n, ?_, ?_⟩
    · rw [← em]; rfl
    · rw [← hg, Nat.gcd_comm m n, Nat.gcd_rec n m, Nat.gcd_comm]
  · have e : (!decide ((n : Int) = 0)) = false := e
    have hn : n = 0 := by
      by_cases q : n = 0
      · exact q
      · rw [decide_eq_false (by omega)] at e; exact tf e
    subst hn
    rw [Nat.gcd_zero_right] at hg
    conv => whnf
    rw [hg]
    exact h
def pr_is_part (a : D) (G : GHp) (Q : DK) : Prop := (∃ t, tgOf G a = some t) ∧ (∀ u v, a = .tup [u, v] → (∃ t, tgOf G u = some t) ∧ ∃ t, tgOf G v = some t) ∧ Q (.bl (paB a)) G
def sp_is_part : DSp := sp1 fun a G Q _ => pr_is_part a G Q
theorem paB_len {ds : List D} (h : ds.length ≠ 2) : paB (.tup ds) = false := by
  match ds, h with
  | [], _ => rfl
  | [_], _ => rfl
  | [_, _], h => exact absurd rfl h
  | _ :: _ :: _ :: _, _ => rfl
theorem rd_is_part : ∀ a G Q (E : DXK), pr_is_part a G Q → DRun (t_is_part sp_is_plain sp_common_part) [some a, none, none] G Q := by
  rintro a G Q E ⟨⟨t, ht⟩, hin, h⟩
  conv => whnf
  rw [ht]
  by_cases et : t = .tup
  · subst et
    obtain ⟨ds, rfl⟩ := tag_tup ht
    conv => whnf
    refine ⟨fun e => ft e, fun _ => ?_⟩
    conv => whnf
    refine ⟨fun e => ?_, fun e => ?_⟩
    · have e : (!decide ((ds.length : Int) = 2)) = true := e
      rw [paB_len (fun q => by rw [q] at e; exact ft e)] at h
      exact h
    · have e : (!decide ((ds.length : Int) = 2)) = false := e
      have hl : ds.length = 2 := by
        by_cases q : ds.length = 2
        · exact q
        · rw [decide_eq_false (by omega)] at e; exact tf e
      match ds, hl with
      | [u, v], _ =>
        obtain ⟨⟨t1, h1⟩, t2, h2⟩ := hin u v rfl
        conv => whnf
        refine ⟨t1, h1, ?_⟩
        cases u with
        | int i =>
          conv => whnf
          refine ⟨fun _ => ?_, fun e => tf e⟩
          conv => whnf
          refine ⟨t2, h2, ?_⟩
          cases v with
          | int j =>
            conv => whnf
            refine ⟨fun _ => ?_, fun e => tf e⟩
            conv => whnf
            refine ⟨fun e => ?_, fun e => ?_⟩
            · have e : decide ((1 : Int) < j) = true := e
              conv => whnf
              refine ⟨i, j, rfl, rfl, ?_⟩
              conv => whnf
              have e2 : paB (.tup [.int i, .int j]) = decide (((i.gcd j : Nat) : Int) = 1) := by
                show (decide ((1 : Int) < j) && decide (i.gcd j = 1)) = _
                rw [e, Bool.true_and]
                congr 1
                exact propext ⟨fun q => by omega, fun q => by omega⟩
              rw [e2] at h
              exact h
            · have e : decide ((1 : Int) < j) = false := e
              have e2 : paB (.tup [.int i, .int j]) = false := by
                show (decide ((1 : Int) < j) && decide (i.gcd j = 1)) = _
                rw [e]; rfl
              rw [e2] at h
              show Q (.bl (decide ((1 : Int) < j))) G
              rw [e]
              exact h
          | _ =>
            conv => whnf
            refine ⟨fun e => ft e, fun _ => ?_⟩
            conv => whnf
            exact h
        | _ =>
          conv => whnf
          refine ⟨fun e => ft e, fun _ => ?_⟩
          conv => whnf
          exact h
  · have e1 : isA t .tup = false := by cases t <;> first | rfl | exact absurd rfl et
    have e2 : paB a = false := by
      cases a with
      | tup ds => cases ht; exact absurd rfl et
      | _ => rfl
    rw [e2] at h
    conv => whnf
    refine ⟨fun _ => ?_, fun e => ?_⟩
    · conv => whnf
      refine ⟨fun _ => ?_, fun e => tf e⟩
      conv => whnf
      exact h
    · rw [e1] at e; exact tf e
/-- isinstance can tell of it and of what stands in it -/
def Tgd (G : GHp) (a : D) : Prop := (∃ t, tgOf G a = some t) ∧ ∀ u v, a = .tup [u, v] → (∃ t, tgOf G u = some t) ∧ ∃ t, tgOf G v = some t
theorem Tgd.num {G : GHp} (q : Rat) : Tgd G (numD q) := by
  rcases numD_cases q with ⟨i, _, e⟩ | ⟨_, e⟩
  · rw [e]; exact ⟨⟨_, rfl⟩, fun u v h => by cases h⟩
  · rw [e]; exact ⟨⟨_, rfl⟩, fun u v h => by cases h; exact ⟨⟨_, rfl⟩, _, rfl⟩⟩
def pr_is_number (a : D) (G : GHp) (Q : DK) : Prop := Tgd G a ∧ Q (.bl (nuB a)) G
def sp_is_number : DSp := sp1 fun a G Q _ => pr_is_number a G Q
theorem rd_is_number : ∀ a G Q (E : DXK), pr_is_number a G Q → DRun (t_is_number sp_is_plain sp_is_part) [some a] G Q := by
  rintro a G Q E ⟨⟨⟨t, ht⟩, hin⟩, h⟩
  conv => whnf
  refine ⟨t, ht, ?_⟩
  cases e : plB a with
  | true =>
    have e2 : nuB a = true := by unfold nuB; rw [e]; rfl
    rw [e2] at h
    conv => whnf
    refine ⟨fun _ => ?_, fun e => tf e⟩
    conv => whnf
    exact h
  | false =>
    have e2 : nuB a = paB a := by unfold nuB; rw [e]; rfl
    rw [e2] at h
    conv => whnf
    refine ⟨fun e => ft e, fun _ => ?_⟩
    conv => whnf
    exact ⟨⟨t, ht⟩, hin, h⟩
def pr_reckoned (a b : D) (G : GHp) (Q : DK) : Prop := ∃ t d : Int, a = .int t ∧ b = .int d ∧ d ≠ 0 ∧ d.natAbs < 2 ^ 8990 ∧ Q (numD (t /. d)) G
def sp_reckoned : DSp := sp2 fun a b G Q _ => pr_reckoned a b G Q
theorem gcd_lt {t d : Int} {n : Nat} (h0 : d ≠ 0) (h : d.natAbs < n) : t.gcd d < n := by
  have h1 : t.gcd d ∣ d.natAbs := Nat.gcd_dvd_right _ _
  have := Nat.le_of_dvd (by omega) h1
  omega
theorem frac_pos {t d : Int} (h : 0 < d) : (t /. d).num = t / (t.gcd d : Nat) ∧ ((t /. d).den : Int) = d / (t.gcd d : Nat) := by
  refine ⟨?_, ?_⟩
  · rw [num_divInt, Int.sign_eq_one_of_pos h, Int.one_mul, Int.gcd_comm]
  · rw [den_divInt, if_neg (by omega), Int.gcd_comm, Int.natCast_ediv]
    congr 1
    omega
theorem frac_neg {t d : Int} (h : d < 0) : (t /. d).num = (-t) / (t.gcd d : Nat) ∧ ((t /. d).den : Int) = (-d) / (t.gcd d : Nat) := by
  refine ⟨?_, ?_⟩
  · rw [num_divInt, Int.sign_eq_neg_one_of_neg h, Int.gcd_comm]
    congr 1
    omega
  · rw [den_divInt, if_neg (by omega), Int.gcd_comm, Int.natCast_ediv]
    congr 1
    omega
theorem rd_reckoned : ∀ a b G Q (E : DXK), pr_reckoned a b G Q → DRun (t_reckoned sp_common_part) [some a, some b, none] G Q := by
  rintro a b G Q E ⟨t, d, rfl, rfl, hd, hs, h⟩
  have hg : 0 < t.gcd d := Int.gcd_pos_of_ne_zero_right _ hd
  have hgs : ((t.gcd d : Nat) : Int).natAbs < 2 ^ 8990 := by simpa using gcd_lt hd hs
  have hgn : (0 - ((t.gcd d : Nat) : Int)).natAbs < 2 ^ 8990 := by have := gcd_lt hd hs (t := t); omega
  conv => whnf
  refine ⟨t, d, rfl, rfl, ?_⟩
  have fin : ∀ n m : Int, n = (t /. d).num → m = ((t /. d).den : Int) → Q (if decide (m = 1) = true then .int n else .tup [.int n, .int m]) G := by
    rintro n m rfl rfl
    unfold numD at h
    by_cases e : (t /. d).den = 1
    · rw [if_pos e] at h
      rw [if_pos (decide_eq_true (by omega))]
      exact h
    · rw [if_neg e] at h
      rw [if_neg (by rw [decide_eq_false (by omega)]; simp)]
      exact h
  have tail : ∀ n m : Int, n = (t /. d).num → m = ((t /. d).den : Int) → dRet (dIfE (dTestB (dOp dEqQ (dVar 1) (dC (.int 1)))) (dVar 0) (dTup (dCons (dVar 0) (dCons (dVar 1) dNil)))) { nx := fun _ G' => Q .non G', rt := Q } [some (.int n), some (.int m), none] G := by
    intro n m hn hm
    have f := fin n m hn hm
    conv => whnf
    refine ⟨fun e => ?_, fun e => ?_⟩
    · have e : decide (m = 1) = true := e
      rw [if_pos e] at f
      exact f
    · have e : decide (m = 1) = false := e
      rw [if_neg (by rw [e]; simp)] at f
      exact ⟨smallL (by simp), f⟩
  conv => whnf
  refine ⟨fun e => ?_, fun e => ?_⟩
  · have e : d < 0 := of_decide_eq_true e
    obtain ⟨f1, f2⟩ := frac_neg (t := t) e
    conv => whnf
    refine ⟨divN_ok (by omega) hgn (by decide) (by decide), ?_⟩
    conv => whnf
    refine ⟨divN_ok (by omega) hgn (by decide) (by decide), ?_⟩
    refine tail _ _ ?_ ?_
    · rw [f1, show t = -(-t) by omega, Int.zero_sub, Int.neg_fdiv_neg, Int.fdiv_eq_ediv_of_nonneg _ (by omega)]
      simp
    · rw [f2, show d.fdiv (0 - ((t.gcd d : Nat) : Int)) = (-(-d)).fdiv (-((t.gcd d : Nat) : Int)) by rw [Int.neg_neg, Int.zero_sub], Int.neg_fdiv_neg, Int.fdiv_eq_ediv_of_nonneg _ (by omega)]
  · have e : ¬ d < 0 := of_decide_eq_false e
    obtain ⟨f1, f2⟩ := frac_pos (t := t) (show 0 < d by omega)
    conv => whnf
    refine ⟨divN_ok (by omega) hgs (by decide) (by decide), ?_⟩
    conv => whnf
    refine ⟨divN_ok (by omega) hgs (by decide) (by decide), ?_⟩
    refine tail _ _ ?_ ?_
    · rw [f1, Int.fdiv_eq_ediv_of_nonneg _ (by omega)]
    · rw [f2, Int.fdiv_eq_ediv_of_nonneg _ (by omega)]
def pr_pair_of (a : D) (G : GHp) (Q : DK) : Prop := ∃ q, a = numD q ∧ Q (prD q) G
def sp_pair_of : DSp := sp1 fun a G Q _ => pr_pair_of a G Q
theorem rd_pair_of : ∀ a G Q (E : DXK), pr_pair_of a G Q → DRun (t_pair_of sp_is_plain sp_is_part) [some a] G Q := by
  rintro a G Q E ⟨q, rfl, h⟩
  rcases numD_cases q with ⟨i, eq, e⟩ | ⟨hd, e⟩
  · rw [e]
    conv => whnf
    refine ⟨.int, rfl, ?_⟩
    conv => whnf
    refine ⟨fun _ => ?_, fun e => tf e⟩
    conv => whnf
    refine ⟨smallL (by simp), ?_⟩
    subst eq
    have : prD (i : Rat) = .tup [.int i, .int 1] := by unfold prD; rw [num_intCast, den_intCast]; rfl
    rw [this] at h
    exact h
  · rw [e]
    conv => whnf
    refine ⟨.tup, rfl, ?_⟩
    conv => whnf
    refine ⟨fun e => ft e, fun _ => ?_⟩
    conv => whnf
    refine ⟨⟨.tup, rfl⟩, fun u v h => ?_, ?_⟩
    · cases h
      exact ⟨⟨.int, rfl⟩, .int, rfl⟩
    rw [paB_num q hd]
    conv => whnf
    refine ⟨fun e => ft e, fun _ => ?_⟩
    conv => whnf
    exact h
/-! two numbers -/
def pr_two (C : Rat → Rat → Prop) (f : Rat → Rat → D) (a b : D) (G : GHp) (Q : DK) : Prop := ∃ x y : Rat, a = numD x ∧ b = numD y ∧ Sz 4000 x ∧ Sz 4000 y ∧ C x y ∧ Q (f x y) G
abbrev sp_two (C : Rat → Rat → Prop) (f : Rat → Rat → D) : DSp := sp2 fun a b G Q _ => pr_two C f a b G Q
abbrev sp_plus : DSp := sp_two (fun _ _ => True) fun x y => numD (x + y)
abbrev sp_minus : DSp := sp_two (fun _ _ => True) fun x y => numD (x - y)
abbrev sp_times : DSp := sp_two (fun _ _ => True) fun x y => numD (x * y)
abbrev sp_over : DSp := sp_two (fun _ y => y ≠ 0) fun x y => numD (x / y)
abbrev sp_less : DSp := sp_two (fun _ _ => True) fun x y => .bl (decide (x < y))
theorem mulND {x y : Rat} (hx : Sz 4000 x) (hy : Sz 4000 y) : MulOk x.num y.den := mul_ok (a := 4000) (b := 4000) hx.1 (by simpa using hy.2) (by decide) (by decide) (by decide)
theorem mulDD {x y : Rat} (hx : Sz 4000 x) (hy : Sz 4000 y) : MulOk x.den y.den := mul_ok (a := 4000) (b := 4000) (by simpa using hx.2) (by simpa using hy.2) (by decide) (by decide) (by decide)
theorem mulNN {x y : Rat} (hx : Sz 4000 x) (hy : Sz 4000 y) : MulOk x.num y.num := mul_ok (a := 4000) (b := 4000) hx.1 hy.1 (by decide) (by decide) (by decide)
theorem mulDN {x y : Rat} (hx : Sz 4000 x) (hy : Sz 4000 y) : MulOk x.den y.num := mul_ok (a := 4000) (b := 4000) (by simpa using hx.2) hy.1 (by decide) (by decide) (by decide)
theorem dd_lt {x y : Rat} (hx : Sz 4000 x) (hy : Sz 4000 y) : ((x.den : Int) * (y.den : Int)).natAbs < 2 ^ 8990 := pow_le (hx.dd hy) (by decide)
theorem dn_lt {x y : Rat} (hx : Sz 4000 x) (hy : Sz 4000 y) : ((x.den : Int) * y.num).natAbs < 2 ^ 8990 := pow_le (hx.dn hy) (by decide)
theorem rd_plus : ∀ a b G Q (E : DXK), pr_two (fun _ _ => True) (fun x y => numD (x + y)) a b G Q → DRun (t_plus sp_pair_of sp_reckoned) [some a, some b, none, none, none, none] G Q := by
  rintro a b G Q E ⟨x, y, rfl, rfl, hx, hy, _, h⟩
  conv => whnf
  refine ⟨x, rfl, ?_⟩
  conv => whnf
  refine ⟨y, rfl, ?_⟩
  conv => whnf
  refine ⟨smallL (by simp), ?_⟩
  conv => whnf
  refine ⟨mulND hx hy, ?_⟩
  conv => whnf
  refine ⟨mulND hy hx, ?_⟩
  conv => whnf
  refine ⟨mulDD hx hy, ?_⟩
  conv => whnf
  refine ⟨_, _, rfl, rfl, den_mul_ne x y, dd_lt hx hy, ?_⟩
  replace h : Q (numD (x + y)) G := h
  rw [add_frac] at h
  exact h
theorem rd_minus : ∀ a b G Q (E : DXK), pr_two (fun _ _ => True) (fun x y => numD (x - y)) a b G Q → DRun (t_minus sp_pair_of sp_reckoned) [some a, some b, none, none, none, none] G Q := by
  rintro a b G Q E ⟨x, y, rfl, rfl, hx, hy, _, h⟩
  conv => whnf
  refine ⟨x, rfl, ?_⟩
  conv => whnf
  refine ⟨y, rfl, ?_⟩
  conv => whnf
  refine ⟨smallL (by simp), ?_⟩
  conv => whnf
  refine ⟨mulND hx hy, ?_⟩
  conv => whnf
  refine ⟨mulND hy hx, ?_⟩
  conv => whnf
  refine ⟨mulDD hx hy, ?_⟩
  conv => whnf
  refine ⟨_, _, rfl, rfl, den_mul_ne x y, dd_lt hx hy, ?_⟩
  replace h : Q (numD (x - y)) G := h
  rw [sub_frac] at h
  exact h
theorem rd_times : ∀ a b G Q (E : DXK), pr_two (fun _ _ => True) (fun x y => numD (x * y)) a b G Q → DRun (t_times sp_pair_of sp_reckoned) [some a, some b, none, none, none, none] G Q := by
  rintro a b G Q E ⟨x, y, rfl, rfl, hx, hy, _, h⟩
  conv => whnf
  refine ⟨x, rfl, ?_⟩
  conv => whnf
  refine ⟨y, rfl, ?_⟩
  conv => whnf
  refine ⟨smallL (by simp), ?_⟩
  conv => whnf
  refine ⟨mulNN hx hy, ?_⟩
  conv => whnf
  refine ⟨mulDD hx hy, ?_⟩
  conv => whnf
  refine ⟨_, _, rfl, rfl, den_mul_ne x y, dd_lt hx hy, ?_⟩
  replace h : Q (numD (x * y)) G := h
  rw [mul_frac] at h
  exact h
theorem rd_over : ∀ a b G Q (E : DXK), pr_two (fun _ y => y ≠ 0) (fun x y => numD (x / y)) a b G Q → DRun (t_over sp_pair_of sp_reckoned) [some a, some b, none, none, none, none] G Q := by
  rintro a b G Q E ⟨x, y, rfl, rfl, hx, hy, h0, h⟩
  conv => whnf
  refine ⟨x, rfl, ?_⟩
  conv => whnf
  refine ⟨y, rfl, ?_⟩
  conv => whnf
  refine ⟨smallL (by simp), ?_⟩
  conv => whnf
  refine ⟨fun e => absurd (of_decide_eq_true e) (num_ne h0), fun _ => ?_⟩
  conv => whnf
  refine ⟨mulND hx hy, ?_⟩
  conv => whnf
  refine ⟨mulDN hx hy, ?_⟩
  conv => whnf
  refine ⟨_, _, rfl, rfl, Int.mul_ne_zero (den_ne x) (num_ne h0), dn_lt hx hy, ?_⟩
  replace h : Q (numD (x / y)) G := h
  rw [div_frac] at h
  exact h
theorem rd_less : ∀ a b G Q (E : DXK), pr_two (fun _ _ => True) (fun x y => .bl (decide (x < y))) a b G Q → DRun (t_less sp_pair_of) [some a, some b, none, none, none, none] G Q := by
  rintro a b G Q E ⟨x, y, rfl, rfl, hx, hy, _, h⟩
  conv => whnf
  refine ⟨x, rfl, ?_⟩
  conv => whnf
  refine ⟨y, rfl, ?_⟩
  conv => whnf
  refine ⟨smallL (by simp), ?_⟩
  conv => whnf
  refine ⟨mulND hx hy, ?_⟩
  conv => whnf
  refine ⟨mulND hy hx, ?_⟩
  have e : decide (x < y) = decide (x.num * y.den < y.num * x.den) := by
    congr 1
    exact propext (Rat.lt_iff x y)
  replace h : Q (.bl (decide (x < y))) G := h
  rw [e] at h
  conv => whnf
  exact h
/-- the floor of a fraction -/
theorem floor_frac {t d : Int} (h : 0 < d) : (t /. d).floor = t / d := by
  rw [floor_def]
  obtain ⟨f1, f2⟩ := frac_pos (t := t) h
  rw [f1, f2]
  have hg : (0 : Int) < (t.gcd d : Nat) := by have := Int.gcd_pos_of_ne_zero_right t (show d ≠ 0 by omega); omega
  have e1 : t = (t.gcd d : Nat) * (t / (t.gcd d : Nat)) := (Int.mul_ediv_cancel' (Int.gcd_dvd_left ..)).symm
  have e2 : d = (t.gcd d : Nat) * (d / (t.gcd d : Nat)) := (Int.mul_ediv_cancel' (Int.gcd_dvd_right ..)).symm
  have e3 : (t.gcd d : Nat) * (t / (t.gcd d : Nat)) / ((t.gcd d : Nat) * (d / (t.gcd d : Nat))) = (t / (t.gcd d : Nat)) / (d / (t.gcd d : Nat)) := Int.mul_ediv_mul_of_pos _ _ hg
  rw [← e1, ← e2] at e3
  exact e3.symm
def pr_floor_of (a b : D) (G : GHp) (Q : DK) : Prop := ∃ x s : Rat, a = numD x ∧ b = numD s ∧ Sz 1900 x ∧ Sz 1900 s ∧ 0 < s ∧ Q (numD (s * ((x / s).floor : Rat))) G
def sp_floor_of : DSp := sp2 fun a b G Q _ => pr_floor_of a b G Q
theorem num_pos {s : Rat} (h : 0 < s) : 0 < s.num := by
  have := (Rat.lt_iff 0 s).mp h
  simpa using this
theorem rd_floor_of : ∀ a b G Q (E : DXK), pr_floor_of a b G Q → DRun (t_floor_of sp_pair_of sp_times) [some a, some b, none, none, none, none] G Q := by
  rintro a b G Q E ⟨x, s, rfl, rfl, hx, hs, h0, h⟩
  have hn := num_pos h0
  have hd : 0 < (x.den : Int) * s.num := Int.mul_pos (by have := x.den_pos; omega) hn
  conv => whnf
  refine ⟨x, rfl, ?_⟩
  conv => whnf
  refine ⟨s, rfl, ?_⟩
  conv => whnf
  refine ⟨smallL (by simp), ?_⟩
  conv => whnf
  refine ⟨fun e => ?_, fun _ => ?_⟩
  · exfalso
    have e : s.num ≤ 0 := of_decide_eq_true e
    omega
  conv => whnf
  refine ⟨mulND (hx.mono (by decide)) (hs.mono (by decide)), ?_⟩
  conv => whnf
  refine ⟨mulDN (hx.mono (by decide)) (hs.mono (by decide)), ?_⟩
  conv => whnf
  refine ⟨div_ok (b := 3800) hd (hx.dn hs) (by decide) (by decide) _, ?_⟩
  conv => whnf
  have ef : (x / s).floor = x.num * (s.den : Int) / ((x.den : Int) * s.num) := by rw [div_frac, floor_frac hd]
  rw [ef] at h
  refine ⟨s, _, rfl, (numD_int _).symm, hs.mono (by decide), .int ?_ (by decide), trivial, h⟩
  have h1 := Int.natAbs_ediv_le_natAbs (x.num * (s.den : Int)) ((x.den : Int) * s.num)
  have h2 := hx.nd hs
  exact pow_le (Nat.lt_of_le_of_lt h1 h2) (by decide)
theorem floor_one (x : Rat) : numD ((1 : Rat) * ((x / 1).floor : Rat)) = .int x.floor := by
  have : x / 1 = x := by grind
  rw [this, Rat.one_mul, numD_int]
/-! the laws' own reckoning: pairs -/
def pr_law_low (a b : D) (G : GHp) (Q : DK) : Prop := ∃ t d : Int, a = .int t ∧ b = .int d ∧ d ≠ 0 ∧ t.natAbs < 2 ^ 8990 ∧ d.natAbs < 2 ^ 8990 ∧ Q (prD (t /. d)) G
def sp_law_low : DSp := sp2 fun a b G Q _ => pr_law_low a b G Q
theorem rd_law_low : ∀ a b G Q (E : DXK), pr_law_low a b G Q → DRun t_law_low [some a, some b, none, none, none] G Q := by
  rintro a b G Q E ⟨t, d, rfl, rfl, hd, ht, hs, h⟩
  have hg : 0 < t.gcd d := Int.gcd_pos_of_ne_zero_right _ hd
  have hgs : ((t.gcd d : Nat) : Int).natAbs < 2 ^ 8990 := by simpa using gcd_lt hd hs
  conv => whnf
  refine while_ind (fun n δ G' => G' = G ∧ ∃ m : Nat, δ = [some (.int t), some (.int d), some (.int m), some (.int n), none] ∧ m.gcd n = t.gcd d) d.natAbs ⟨rfl, t.natAbs, rfl, rfl⟩ ?_
  rintro n δ _ ⟨rfl, m, rfl, hgc⟩ N hN
  conv => whnf
  refine ⟨fun e => ?_, fun e => ?_⟩
  · have e : (0 : Int) < n := of_decide_eq_true e
    conv => whnf
    refine ⟨by omega, ?_⟩
    conv => whnf
    have em : ((m : Int) % (n : Int)) = ((m % n : Nat) : Int) := rfl
    refine hN (m % n) _ _ (Nat.mod_lt _ (by omega)) ⟨rfl, n, ?_, ?_⟩
    · rw [← em]; rfl
    · rw [← hgc, Nat.gcd_comm m n, Nat.gcd_rec n m, Nat.gcd_comm]
  · have e : ¬ (0 : Int) < n := of_decide_eq_false e
    have hn : n = 0 := by omega
    subst hn
    rw [Nat.gcd_zero_right] at hgc
    subst hgc
    conv => whnf
    refine ⟨fun e => ?_, fun e => ?_⟩
    · have e : 0 < d := of_decide_eq_true e
      obtain ⟨f1, f2⟩ := frac_pos (t := t) e
      conv => whnf
      refine ⟨mul_small (.inl (by omega)), ?_⟩
      conv => whnf
      refine ⟨div_ok (b := 8990) (by omega) hgs (by decide) (by decide) _, ?_⟩
      conv => whnf
      refine ⟨div_ok (b := 8990) (by omega) hgs (by decide) (by decide) _, ?_⟩
      conv => whnf
      refine ⟨smallL (by simp), ?_⟩
      unfold prD at h
      rw [f1, f2] at h
      have e1 : (1 : Int) * t = t := by omega
      have e2 : ((d.natAbs : Nat) : Int) = d := by omega
      show Q (.tup [.int ((1 : Int) * t / ((t.gcd d : Nat) : Int)), .int (((d.natAbs : Nat) : Int) / ((t.gcd d : Nat) : Int))]) _
      rw [e1, e2]
      exact h
    · have e : ¬ 0 < d := of_decide_eq_false e
      obtain ⟨f1, f2⟩ := frac_neg (t := t) (show d < 0 by omega)
      conv => whnf
      refine ⟨mul_small (.inl (by omega)), ?_⟩
      conv => whnf
      refine ⟨div_ok (b := 8990) (by omega) hgs (by decide) (by decide) _, ?_⟩
      conv => whnf
      refine ⟨div_ok (b := 8990) (by omega) hgs (by decide) (by decide) _, ?_⟩
      conv => whnf
      refine ⟨smallL (by simp), ?_⟩
      unfold prD at h
      rw [f1, f2] at h
      have e1 : (-1 : Int) * t = -t := by omega
      have e2 : ((d.natAbs : Nat) : Int) = -d := by omega
      show Q (.tup [.int ((-1 : Int) * t / ((t.gcd d : Nat) : Int)), .int (((d.natAbs : Nat) : Int) / ((t.gcd d : Nat) : Int))]) _
      rw [e1, e2]
      exact h
def pr_pair (C : Rat → Rat → Prop) (f : Rat → Rat → D) (a b : D) (G : GHp) (Q : DK) : Prop := ∃ x y : Rat, a = prD x ∧ b = prD y ∧ Sz 4000 x ∧ Sz 4000 y ∧ C x y ∧ Q (f x y) G
abbrev sp_pair (C : Rat → Rat → Prop) (f : Rat → Rat → D) : DSp := sp2 fun a b G Q _ => pr_pair C f a b G Q
abbrev sp_law_plus : DSp := sp_pair (fun _ _ => True) fun x y => prD (x + y)
abbrev sp_law_minus : DSp := sp_pair (fun _ _ => True) fun x y => prD (x - y)
abbrev sp_law_times : DSp := sp_pair (fun _ _ => True) fun x y => prD (x * y)
abbrev sp_law_over : DSp := sp_pair (fun _ y => y ≠ 0) fun x y => prD (x / y)
abbrev sp_law_less : DSp := sp_pair (fun _ _ => True) fun x y => .bl (decide (x < y))
/-- the greater one -/
def rmax (x y : Rat) : Rat := if x < y then y else x
abbrev sp_law_most : DSp := sp_pair (fun _ _ => True) fun x y => prD (rmax x y)
theorem nn_lt {x y : Rat} (hx : Sz 4000 x) (hy : Sz 4000 y) : (x.num * y.num).natAbs < 2 ^ 8990 := pow_le (hx.nn hy) (by decide)
theorem nd_lt {x y : Rat} (hx : Sz 4000 x) (hy : Sz 4000 y) : (x.num * (y.den : Int)).natAbs < 2 ^ 8990 := pow_le (hx.nd hy) (by decide)
theorem add_lt {x y : Rat} (hx : Sz 4000 x) (hy : Sz 4000 y) : (x.num * (y.den : Int) + y.num * x.den).natAbs < 2 ^ 8990 := pow_le (natAbs_add_lt (hx.nd hy) (hy.nd hx)) (by decide)
theorem sub_lt {x y : Rat} (hx : Sz 4000 x) (hy : Sz 4000 y) : (x.num * (y.den : Int) - y.num * x.den).natAbs < 2 ^ 8990 := pow_le (natAbs_sub_lt (hx.nd hy) (hy.nd hx)) (by decide)
theorem rd_law_plus : ∀ a b G Q (E : DXK), pr_pair (fun _ _ => True) (fun x y => prD (x + y)) a b G Q → DRun (t_law_plus sp_law_low) [some a, some b] G Q := by
  rintro a b G Q E ⟨x, y, rfl, rfl, hx, hy, _, h⟩
  conv => whnf
  refine ⟨mulND hx hy, ?_⟩
  conv => whnf
  refine ⟨mulND hy hx, ?_⟩
  conv => whnf
  refine ⟨mulDD hx hy, ?_⟩
  conv => whnf
  refine ⟨_, _, rfl, rfl, den_mul_ne x y, add_lt hx hy, dd_lt hx hy, ?_⟩
  replace h : Q (prD (x + y)) G := h
  rw [add_frac] at h
  exact h
theorem rd_law_minus : ∀ a b G Q (E : DXK), pr_pair (fun _ _ => True) (fun x y => prD (x - y)) a b G Q → DRun (t_law_minus sp_law_low) [some a, some b] G Q := by
  rintro a b G Q E ⟨x, y, rfl, rfl, hx, hy, _, h⟩
  conv => whnf
  refine ⟨mulND hx hy, ?_⟩
  conv => whnf
  refine ⟨mulND hy hx, ?_⟩
  conv => whnf
  refine ⟨mulDD hx hy, ?_⟩
  conv => whnf
  refine ⟨_, _, rfl, rfl, den_mul_ne x y, sub_lt hx hy, dd_lt hx hy, ?_⟩
  replace h : Q (prD (x - y)) G := h
  rw [sub_frac] at h
  exact h
theorem rd_law_over : ∀ a b G Q (E : DXK), pr_pair (fun _ y => y ≠ 0) (fun x y => prD (x / y)) a b G Q → DRun (t_law_over sp_law_low) [some a, some b] G Q := by
  rintro a b G Q E ⟨x, y, rfl, rfl, hx, hy, h0, h⟩
  conv => whnf
  refine ⟨mulND hx hy, ?_⟩
  conv => whnf
  refine ⟨mulDN hx hy, ?_⟩
  conv => whnf
  refine ⟨_, _, rfl, rfl, Int.mul_ne_zero (den_ne x) (num_ne h0), nd_lt hx hy, dn_lt hx hy, ?_⟩
  replace h : Q (prD (x / y)) G := h
  rw [div_frac] at h
  exact h
theorem lt_dec (x y : Rat) : decide (x.num * (y.den : Int) < y.num * x.den) = decide (x < y) := by
  congr 1
  exact propext (Rat.lt_iff x y).symm
theorem rd_law_less : ∀ a b G Q (E : DXK), pr_pair (fun _ _ => True) (fun x y => .bl (decide (x < y))) a b G Q → DRun t_law_less [some a, some b] G Q := by
  rintro a b G Q E ⟨x, y, rfl, rfl, hx, hy, _, h⟩
  conv => whnf
  refine ⟨mulND hx hy, ?_⟩
  conv => whnf
  refine ⟨mulND hy hx, ?_⟩
  replace h : Q (.bl (decide (x < y))) G := h
  rw [← lt_dec] at h
  conv => whnf
  exact h
theorem rd_law_most : ∀ a b G Q (E : DXK), pr_pair (fun _ _ => True) (fun x y => prD (rmax x y)) a b G Q → DRun (t_law_most sp_law_less) [some a, some b] G Q := by
  rintro a b G Q E ⟨x, y, rfl, rfl, hx, hy, _, h⟩
  conv => whnf
  refine ⟨x, y, rfl, rfl, hx, hy, trivial, ?_⟩
  replace h : Q (prD (rmax x y)) G := h
  unfold rmax at h
  conv => whnf
  refine ⟨fun e => ?_, fun e => ?_⟩
  · rw [if_pos (of_decide_eq_true e)] at h
    exact h
  · rw [if_neg (of_decide_eq_false e)] at h
    exact h
def pr_law_floor (a : D) (G : GHp) (Q : DK) : Prop := ∃ x : Rat, a = prD x ∧ Sz 8000 x ∧ Q (.int x.floor) G
def sp_law_floor : DSp := sp1 fun a G Q _ => pr_law_floor a G Q
theorem rd_law_floor : ∀ a G Q (E : DXK), pr_law_floor a G Q → DRun t_law_floor [some a] G Q := by
  rintro a G Q E ⟨x, rfl, hx, h⟩
  conv => whnf
  refine ⟨div_ok (b := 8000) (by have := x.den_pos; omega) (by simpa using hx.2) (by decide) (by decide) _, ?_⟩
  rw [floor_def] at h
  exact h
def pr_law_num (a : D) (G : GHp) (Q : DK) : Prop := ∃ x : Rat, a = prD x ∧ Q (numD x) G
def sp_law_num : DSp := sp1 fun a G Q _ => pr_law_num a G Q
theorem rd_law_num : ∀ a G Q (E : DXK), pr_law_num a G Q → DRun t_law_num [some a] G Q := by
  rintro a G Q E ⟨x, rfl, h⟩
  unfold numD at h
  conv => whnf
  refine ⟨fun e => ?_, fun e => ?_⟩
  · have e : (x.den : Int) = 1 := of_decide_eq_true e
    rw [if_pos (by omega)] at h
    exact h
  · have e : ¬ (x.den : Int) = 1 := of_decide_eq_false e
    rw [if_neg (by omega)] at h
    exact h
/-! == of numbers, of pairs -/
theorem pr_inj {x y : Rat} (h1 : x.num = y.num) (h2 : x.den = y.den) : x = y := Rat.ext h1 h2
theorem DD_pr {G : GHp} (x : Rat) : DD G (prD x) (.tuple [.int x.num, .int x.den]) := .tup (.cons (.int _) (.cons (.int _) .nil))
theorem Shp.pr (n : Nat) (x : Rat) : Shp (n + 1) (.tuple [.int x.num, .int x.den]) := (Shps.cons (.int _) (.cons (.int _) .nil) : Shps n _).tuple
theorem eqv_pr (x y : Rat) : PyData.eqv (.tuple [.int x.num, .int x.den]) (.tuple [.int y.num, .int y.den]) = decide (x = y) := by
  simp only [PyData.eqv, PyData.eqvAll, Bool.and_true]
  by_cases h : x = y
  · subst h; simp
  · rw [decide_eq_false h]
    by_cases h1 : x.num = y.num
    · have : x.den ≠ y.den := fun e => h (pr_inj h1 e)
      simp [h1]; omega
    · simp [h1]
theorem eq_pr {x y : Rat} {G : GHp} {Q : DK} (h : Q (.bl (decide (x = y))) G) : dEqQ (prD x) (prD y) G Q := by
  refine ⟨_, _, DD_pr x, DD_pr y, (Shp.pr 1 x).ok (by decide), (Shp.pr 1 y).ok (by decide), ?_⟩
  rw [eqv_pr]; exact h
theorem ne_pr {x y : Rat} {G : GHp} {Q : DK} (h : Q (.bl (!decide (x = y))) G) : dNeQ (prD x) (prD y) G Q := by
  refine ⟨_, _, DD_pr x, DD_pr y, (Shp.pr 1 x).ok (by decide), (Shp.pr 1 y).ok (by decide), ?_⟩
  rw [eqv_pr]; exact h
theorem fz_num (n : Nat) (q : Rat) : fz (n + 2) (numD q) = true := by
  rcases numD_cases q with ⟨i, _, e⟩ | ⟨_, e⟩
  · rw [e]; rfl
  · rw [e]
    show (decide ([D.int q.num, D.int q.den].length ≤ 1000) && [D.int q.num, D.int q.den].all (fz (n + 1))) = true
    simp [fz]
end NUM
set_option Elab.async false
set_option linter.all false
set_option maxRecDepth 100000
set_option maxHeartbeats 1000000
/-! DL, part 23: xs.remove(y) and xs.index(y), where what is sought is data of any depth. -/
namespace DL
open PySem PySem.Spec L2 PyProof.Rows
open PySem.AutoSeq1 (wpAny_loadPart')
open PySem.MeetsSeq PySem.MeetsSeq2 PySem.MeetsSeq3 PySem.SeqRoads2

theorem remove_loopAt (l : Addr) (items : Array Value) (n : Nat) (x : Value) (e : Value → Bool) (j : Nat) (hj : j < items.size) (hit : e items[j] = true) (k : Nat) (hs1 : items.size ≤ sizeLine) :
    ∀ i : Nat, j - i = k → i ≤ j → (∀ m (hm : m < items.size), i ≤ m → m < j → e items[m] = false) → Meets (Builtin.«list.remove.loop» ⟨[.ref l, x, rawInt i], []⟩)
      (fun A R s => s.heap.get? l = some { cls := .type "list", dict := none, data := .seq items n, slots := #[] } ∧ (∀ y, y ∈ items → SeqAt.EqAt A.in1 s y x (e y)) ∧ R (.ok (.ret .none)) { s with heap := s.heap.update l (Obj.mapSeq fun xs => xs.eraseIdxIfInBounds j) }) := by
  induction k with
  | zero =>
    intro i hk hij hno prog w A R s h
    obtain ⟨hp, g, d, tk, os⟩ := s; obtain ⟨hl, he, h⟩ := h
    have hij' : i = j := by omega
    subst hij'
    wp_walk using wpAny_loadPart' hl
    have hi : items[((i : Nat) : Int).toNat]? = some items[i] := by simp [hj]
    rw [hi]
    refine wpAny_bind (he _ (Array.getElem_mem hj) prog w _ _ ?_)
    rw [hit]
    have hz' : (items.eraseIdxIfInBounds i).size ≤ sizeLine + 1 := Nat.le_trans (size_erased items _) (Nat.le_succ_of_le hs1)
    wp_walk using (wpAny_updateSeq hl rfl (hz := hs1) (_hz' := hz')), wpAny_loadPart' hl
    simpa using h
  | succ k ih =>
    intro i hk hij hno prog w A R s h
    obtain ⟨hp, g, d, tk, os⟩ := s; obtain ⟨hl, he, h⟩ := h
    have hlt : i < items.size := by omega
    wp_walk using wpAny_loadPart' hl
    have hi : items[((i : Nat) : Int).toNat]? = some items[i] := by simp [hlt]
    have hc : ((i : Int) + 1) = ((i + 1 : Nat) : Int) := by push_cast; rfl
    rw [hi]
    refine wpAny_bind (he _ (Array.getElem_mem hlt) prog w _ _ ?_)
    rw [hno i hlt (Nat.le_refl _) (by omega)]
    wp_walk
    rw [hc]
    exact ⟨plainId_quiet plain_remove_loop _, codeAny_builtin entry_remove_loop (by
      rw [Around.under_plainId plain_remove_loop _]
      exact ih (i + 1) (by omega) (by omega) (fun m hm h1 h2 => hno m hm (by omega) h2) prog w A R _ ⟨hl, he, h⟩)⟩

theorem list_removeAt (l : Addr) (items : Array Value) (n : Nat) (x : Value) (e : Value → Bool) (j : Nat) (hj : j < items.size)
    (hit : e items[j] = true) (hno : ∀ m (hm : m < items.size), m < j → e items[m] = false) (hs1 : items.size ≤ sizeLine) :
    Meets (Builtin.«list.remove» ⟨[.ref l, x], []⟩)
      (fun A R s => s.heap.get? l = some { cls := .type "list", dict := none, data := .seq items n, slots := #[] } ∧ (∀ y, y ∈ items → SeqAt.EqAt A.in1 s y x (e y)) ∧ R (.ok (.ret .none)) { s with heap := s.heap.update l (Obj.mapSeq fun xs => xs.eraseIdxIfInBounds j) }) := by
  intro prog w A R s h
  obtain ⟨hp, g, d, tk, os⟩ := s; obtain ⟨hl, he, h⟩ := h
  wp_walk using wpAny_loadPart' hl
  exact ⟨plainId_quiet plain_remove_loop _, codeAny_builtin entry_remove_loop (by
    rw [Around.under_plainId plain_remove_loop _]
    exact remove_loopAt l items n x e j hj hit _ hs1 0 rfl (Nat.zero_le _) (fun m hm _ h2 => hno m hm h2) prog w A R _ ⟨hl, he, h⟩)⟩
theorem units65 {k : Nat} {A : Around} (r : Room k A) : A.units + 65 < cLine := by have := r.un; omega
section
variable {X : Cx}
def rRemoveD (K : PySem.W.Frag) : V → List V → Hp → VK → Prop := fun x xs H Q => ∃ (a : Addr) (ys : List V) (y : V) (d : PyData) (ds : List PyData) (j : Nat) (z : PyData), x = V.ref a ∧ xs = [y] ∧ H a = some (.lst ys) ∧ DpAll K H ys ds ∧ Dp K H y d ∧
  SeqAt.shaped (.list ds) = true ∧ SeqAt.shaped d = true ∧ ds[j]? = some z ∧ PyData.eqv z d = true ∧ (∀ (m : Nat) (z' : PyData), m < j → ds[m]? = some z' → PyData.eqv z' d = false) ∧ Q .non (upd H a (.lst (ys.eraseIdx j)))
theorem mt_removeD (hu : X.A.units + 65 < cLine) : MtR X "list.remove" (rRemoveD X.K) := by
  intro pins s σ H x xs v us Q I rx rxs h
  obtain ⟨a, ys, y, d, ds, j, z, rfl, rfl, hH, ha, hy, sl, sd, hz, hzj, hno, q⟩ := h
  cases rx
  cases rxs with
  | cons ry rt =>
    rename_i uy ut
    cases rt
    obtain ⟨bs, r1⟩ := Dp.reads I d y uy hy ry
    have hxs : PyData.canLayAll0 ds = true := SeqAt.canLay_of_shaped sl
    have hroom : X.A.units + 1 + min (PyData.depthAll ds) d.depth < cLine := room_in_shaped sd hu
    obtain ⟨zl, its, n, rv, hl, e0⟩ := I.lstM hH
    obtain ⟨as, h4⟩ := Dp.readsAll I ds _ its ha rv
    have hn : its.length = ds.length := SeqAt.ReadsAll.length ds its as h4
    have hmap : its.map (SeqAt.readOf s.heap) = ds := SeqAt.readsAll_map ds its as hxs h4
    obtain ⟨hjd, _⟩ := List.getElem?_eq_some_iff.mp hz
    have hjl : j < its.length := by omega
    have hj : j < its.toArray.size := by simpa using hjl
    have at_ : ∀ (m : Nat) (hm : m < its.toArray.size) (z' : PyData), ds[m]? = some z' → SeqAt.readOf s.heap its.toArray[m] = z' := by
      intro m hm z' hz'
      have hml : m < its.length := by simpa using hm
      rw [← hmap, List.getElem?_map, List.getElem?_eq_getElem hml] at hz'
      have e1 : SeqAt.readOf s.heap its[m] = z' := Option.some.inj (show some (SeqAt.readOf s.heap its[m]) = some z' from hz')
      simpa using e1
    refine call_meets PySem.F.slot_list_remove ⟨_, e0, rfl⟩ PySem.F.entry_list_remove (PySem.F.args_list_remove_2 _ _)
      (list_removeAt a its.toArray n uy (fun u => PyData.eqv (SeqAt.readOf s.heap u) d) j hj ?_ ?_ (by rw [List.size_toArray, ← hl]; exact zl)) ⟨e0, SeqAt.items_eqAt (vs := its.toArray) (show ReadsAll s.heap its.toArray.toList ds as from h4) r1 hxs (SeqAt.canLay_of_shaped sd) hroom, ?_⟩
    · show PyData.eqv (SeqAt.readOf s.heap its.toArray[j]) d = true
      rw [at_ j hj z hz]
      exact hzj
    · intro m hm hmj
      have hmd : m < ds.length := by omega
      have hz' : ds[m]? = some ds[m] := List.getElem?_eq_getElem hmd
      show PyData.eqv (SeqAt.readOf s.heap its.toArray[m]) d = false
      rw [at_ m hm _ hz']
      exact hno m _ hmj hz'
    · refine ⟨.non, _, I.lset (its' := its.eraseIdx j) hH e0 ?_ (rv.eraseIdx j) ?_, rfl, q⟩
      · show its.toArray.eraseIdxIfInBounds j = (its.eraseIdx j).toArray
        rw [List.eraseIdxIfInBounds_toArray]
      · have := len_erase ys j
        omega
def FstAt (es : List PyData) (d : PyData) (j : Nat) : Prop := ∃ z, es[j]? = some z ∧ PyData.eqv z d = true ∧ ∀ (m : Nat) (z' : PyData), m < j → es[m]? = some z' → PyData.eqv z' d = false
/-- xs.remove(y) where an equal one is there -/
def dRemove : DMt := fun x ds G Q => match ds with
  | [y] => onL x G fun a xs => ∃ (d : PyData) (es : List PyData) (j : Nat), DD G y d ∧ DDs G xs es ∧ SeqAt.shaped (.list es) = true ∧ SeqAt.shaped d = true ∧ FstAt es d j ∧ Q .non (gupd G a (.lst (xs.eraseIdx j)))
  | _ => False
theorem dmt_remove (hu : X.A.units + 65 < cLine) : MtR X "list.remove" (cMt X.K dRemove) :=
  MtR.imp (mt_removeD hu) fun v us H Q ⟨x, ds, G, Z, Q0, ok, r, rs, h, k⟩ => by
    rcases rs with _ | ⟨r1, rs⟩
    · exact False.elim h
    rcases rs with _ | ⟨r2, rs⟩
    · obtain ⟨a, xs, rfl, e, d, es, j, h1, h2, s1, s2, ⟨z, hz, hz1, hz2⟩, h3⟩ := onL_inv h
      cases r
      obtain ⟨hz0, vs, hv, rv⟩ := ok.ok a _ e
      obtain ⟨kk, ok'⟩ := wrote_l ok e (rv.eraseIdx j)
      exact ⟨a, vs, _, d, es, j, z, rfl, rfl, hv, DDs.dp ok h2 rv, DD.dp ok h1 r1, s1, s2, hz, hz1, hz2, k _ _ _ _ h3 kk ok' .non⟩
    · exact False.elim h
/-- xs.index(k) of whole numbers, where it is there -/
def dIndex : DMt := fun x ds G Q => match ds with
  | [.int k] => match lsOf G x with
    | some xs => ∃ (ns : List Int) (j : Nat), xs = ns.map .int ∧ ns[j]? = some k ∧ (∀ m z, m < j → ns[m]? = some z → z ≠ k) ∧ Q (.int j) G
    | none => False
  | _ => False
theorem reps_ints {K : PySem.W.Frag} {W : Hp} : ∀ {ns : List Int} {vs : List V}, Reps K W (ns.map .int) vs → vs = ns.map V.int
  | [], _, .nil => rfl
  | _ :: _, _, .cons r t => by cases r; rw [reps_ints t]; rfl
theorem flat_ints (ns : List Int) : (ns.map V.int).all flatV = true := by
  rw [List.all_eq_true]
  intro x hx
  obtain ⟨i, _, rfl⟩ := List.mem_map.mp hx
  rfl
theorem dmt_index : MtR X "list.index" (cMt X.K dIndex) :=
  MtR.imp mt_index fun v us H Q ⟨x, ds, G, Z, Q0, ok, r, rs, h, k⟩ => by
    rcases rs with _ | ⟨r1, rs⟩
    · exact False.elim h
    rcases rs with _ | ⟨r2, rs⟩
    · cases r1 with
      | int i =>
        unfold dIndex at h
        simp only at h
        split at h
        · next xs e =>
          obtain ⟨ns, j, rfl, hj, hno, h3⟩ := h
          obtain ⟨a, vs, rfl, hv, rv⟩ := lsOf_of ok r e
          have ev := reps_ints rv
          subst ev
          exact ⟨a, _, _, j, .int i, rfl, rfl, SqL.of hv, rfl, flat_ints ns, by rw [List.getElem?_map, hj]; rfl, by show (i == i) = true; simp, fun m z hm hz => by
            rw [List.getElem?_map] at hz
            cases e2 : ns[m]? with
            | none => rw [e2] at hz; cases hz
            | some w =>
              rw [e2] at hz; cases hz
              show (w == i) = false
              simpa using hno m w hm e2, k _ _ _ _ h3 Kp.refl ok (.int _)⟩
        · exact h.elim
      | _ => exact False.elim h
    · cases r1 <;> exact False.elim h
end
end DL
set_option Elab.async false
set_option linter.all false
set_option maxRecDepth 100000
set_option maxHeartbeats 1000000
/-! DL, part 24: dicts with keys of whole numbers and texts: {}, d[k] = v, d[k], for k in d; a dict that nobody changes any more (D.dct). -/
namespace DL
open PySem PySem.Spec L2 PyProof.Rows

def keyD : Key → D
  | .inl i => .int i
  | .inr x => .str x
def keyOf : D → Option Key
  | .int i => some (.inl i)
  | .str x => some (.inr x)
  | _ => none
def valD (kvs : List (Key × D)) (k : Key) : Option D := (kvs.find? fun kv => decide (kv.1 = k)).map (·.2)
def putD (kvs : List (Key × D)) (k : Key) (d : D) : List (Key × D) :=
  if (kvs.any fun kv => decide (kv.1 = k)) = true then kvs.map (fun kv => if kv.1 = k then (kv.1, d) else kv) else kvs ++ [(k, d)]
section
variable {K : PySem.W.Frag} {W : Hp}
abbrev KvR (K : PySem.W.Frag) (W : Hp) : List (Key × D) → List (Key × V) → Prop := Paired fun p q => q.1 = p.1 ∧ Rep K W p.2 q.2
theorem KvR.of : ∀ {kvs : List (Key × D)} {xs : List (Key × V)}, xs.map (·.1) = kvs.map (·.1) → Reps K W (kvs.map (·.2)) (xs.map (·.2)) → KvR K W kvs xs
  | [], [], _, _ => .nil
  | [], _ :: _, h, _ => by cases h
  | _ :: _, [], h, _ => by cases h
  | p :: r, q :: t, h, r1 => by
    simp only [List.map_cons, List.cons.injEq] at h
    rw [List.map_cons, List.map_cons] at r1
    cases r1 with
    | cons a b => exact .cons ⟨h.1, a⟩ (KvR.of h.2 b)
theorem KvR.keys : ∀ {kvs : List (Key × D)} {xs : List (Key × V)}, KvR K W kvs xs → xs.map (·.1) = kvs.map (·.1)
  | _, _, .nil => rfl
  | _, _, .cons h t => by rw [List.map_cons, List.map_cons, h.1, KvR.keys t]
theorem KvR.reps : ∀ {kvs : List (Key × D)} {xs : List (Key × V)}, KvR K W kvs xs → Reps K W (kvs.map (·.2)) (xs.map (·.2))
  | _, _, .nil => .nil
  | _, _, .cons h t => .cons h.2 (KvR.reps t)
theorem KvR.val : ∀ {kvs : List (Key × D)} {xs : List (Key × V)} {k : Key} {d : D}, KvR K W kvs xs → valD kvs k = some d → ∃ v, valV xs k = some v ∧ Rep K W d v
  | _, _, _, _, .nil, e => by cases e
  | p :: kvs, q :: xs, k, d, .cons h t, e => by
    by_cases hk : p.1 = k
    · have e : some p.2 = some d := by rw [← e]; simp [valD, List.find?_cons, hk]
      cases e
      exact ⟨q.2, valV_pos (h.1.trans hk), h.2⟩
    · have e : valD kvs k = some d := by rw [← e]; simp [valD, List.find?_cons, hk]
      obtain ⟨v, h1, h2⟩ := KvR.val t e
      exact ⟨v, by rw [valV_neg (by rw [h.1]; exact hk)]; exact h1, h2⟩
theorem KvR.any {k : Key} : ∀ {kvs : List (Key × D)} {xs : List (Key × V)}, KvR K W kvs xs → (xs.any fun kv => decide (kv.1 = k)) = kvs.any fun kv => decide (kv.1 = k)
  | _, _, .nil => rfl
  | _, _, .cons h t => by rw [List.any_cons, List.any_cons, h.1, KvR.any t]
theorem KvR.map {k : Key} {d : D} {v : V} (r : Rep K W d v) : ∀ {kvs : List (Key × D)} {xs : List (Key × V)}, KvR K W kvs xs → KvR K W (kvs.map fun kv => if kv.1 = k then (kv.1, d) else kv) (xs.map fun kv => if kv.1 = k then (kv.1, v) else kv)
  | _, _, .nil => .nil
  | p :: _, q :: _, .cons h t => by
    refine .cons ?_ (KvR.map r t)
    show (if q.1 = k then (q.1, v) else q).1 = (if p.1 = k then (p.1, d) else p).1 ∧ Rep K W (if p.1 = k then (p.1, d) else p).2 (if q.1 = k then (q.1, v) else q).2
    have hq := h.1
    by_cases hk : p.1 = k
    · rw [if_pos hk, if_pos (hq.trans hk)]; exact ⟨hq, r⟩
    · rw [if_neg hk, if_neg (by rw [hq]; exact hk)]; exact h
theorem KvR.snoc {p : Key × D} {q : Key × V} (h : q.1 = p.1 ∧ Rep K W p.2 q.2) : ∀ {kvs : List (Key × D)} {xs : List (Key × V)}, KvR K W kvs xs → KvR K W (kvs ++ [p]) (xs ++ [q])
  | _, _, .nil => .cons h .nil
  | _, _, .cons g t => .cons g (KvR.snoc h t)
theorem KvR.put {k : Key} {d : D} {v : V} {kvs : List (Key × D)} {xs : List (Key × V)} (h : KvR K W kvs xs) (r : Rep K W d v) : KvR K W (putD kvs k d) (putK xs k v) := by
  unfold putD putK
  rw [h.any]
  split
  · exact KvR.map r h
  · exact KvR.snoc ⟨rfl, r⟩ h
theorem KvR.mono {W' : Hp} (k : ∀ a o, W a = some o → W' a = some o) : ∀ {kvs : List (Key × D)} {xs : List (Key × V)}, KvR K W kvs xs → KvR K W' kvs xs
  | _, _, .nil => .nil
  | _, _, .cons h t => .cons ⟨h.1, h.2.mono k⟩ (KvR.mono k t)
theorem key_of {d : D} {v : V} {k : Key} (r : Rep K W d v) (h : keyOf d = some k) : v = kV k := by
  cases r <;> cases h <;> rfl
end
/-- {} to be changed -/
def dDictM : DTE := fun _ G Q => ∀ p, G p = none → Q (.ref p) (gupd G p (.dK []))
section
variable {X : Cx} {pos pos' tpos : Pos} {o i e : Expr} {to ti te : DTE} {W : WX}
theorem de_dictM : DE X (.Dict [] [] pos) dDictM :=
  PE.mono pe_dnewK fun σ H Q ⟨δ, G, Z, Q0, ok, rs, h, k⟩ => fun p hp => by
    have hg := (ok.free hp).1
    have kk : Kp H G Z (upd H p (.dK [])) (gupd G p (.dK [])) := Kp.laidG hp hg
    exact k _ _ _ _ (h p hg) kk (ok.laidG hp ⟨[], upd_same, rfl, .nil⟩) (.ref p)
/-- d[k] of a dict -/
def dGetR : DR2 := fun x y G Q => match keyOf y with
  | some k => match x with
    | .dct ks ds => match valD (ks.zip ds) k with
      | some d => Q d G
      | none => False
    | .ref a => match G a with
      | some (.dK kvs) => match valD kvs k with
        | some d => Q d G
        | none => False
      | _ => False
    | _ => False
  | none => False
theorem zip_of {ks : List Key} {ds : List D} {xs : List (Key × V)} {K : PySem.W.Frag} {W : Hp} (h1 : xs.map (·.1) = ks) (h2 : Reps K W ds (xs.map (·.2))) : KvR K W (ks.zip ds) xs := by
  subst h1
  induction xs generalizing ds with
  | nil => cases h2; exact .nil
  | cons p r ih =>
    rw [List.map_cons] at h2
    cases h2 with
    | cons a b => exact .cons ⟨rfl, a⟩ (ih b)
theorem de_get (hu : X.A.units + 64 < cLine) (ho : DE X o to) (hi : DE X i ti) (hs : NoSl i) : DE X (.Subscript o i pos) (dOp dGetR to ti) :=
  PE.mono (pe_dget (by omega) ho hi hs) fun σ H Q ⟨δ, G, Z, Q0, ok, rs, h, k⟩ =>
    ⟨δ, G, Z, _, ok, rs, h, fun x G1 v H1 h1 k1 ok1 r1 => ⟨δ, G1, Z, _, ok1, rs.mono k1.keep, h1, fun y G2 u H2 h2 k2 ok2 r2 => by
      have r1 := r1.mono k2.keep
      unfold dGetR at h2
      split at h2
      · next ky eky =>
        have eu := key_of r2 eky
        subst eu
        split at h2
        · next ks ds =>
          split at h2
          · next d ed =>
            cases r1 with
            | dct hq e rr =>
              obtain ⟨v, h3, h4⟩ := (zip_of e rr).val ed
              exact ⟨_, v, rfl, .inl ⟨_, ky, .inr ⟨_, U_le _ _ hq⟩, rfl, h3.symm⟩, k _ _ _ _ h2 (k1.trans k2) ok2 h4⟩
          · exact h2.elim
        · cases r1
          split at h2
          · next kvs ea =>
            split at h2
            · next d ed =>
              obtain ⟨hz, xs, hx, e1, rr⟩ := ok2.ok _ _ ea
              obtain ⟨v, h3, h4⟩ := (KvR.of e1 rr).val ed
              exact ⟨_, v, rfl, .inl ⟨_, ky, .inl hx, rfl, h3.symm⟩, k _ _ _ _ h2 (k1.trans k2) ok2 h4⟩
            · exact h2.elim
          · exact h2.elim
        · exact h2.elim
      · exact h2.elim⟩⟩
/-- d[k] = v -/
def dPutS (te to ti : DTE) : DTS := fun D δ G => te δ G fun v G1 => to δ G1 fun x G2 => ti δ G2 fun y G3 => match keyOf y with
  | some k => match x with
    | .ref a => match G3 a with
      | some (.dK kvs) => kvs.length < sizeLine ∧ D.nx δ (gupd G3 a (.dK (putD kvs k v)))
      | _ => False
    | _ => False
  | none => False
theorem ds_put (hu : X.A.units + 64 < cLine) (he : DE X e te) (ho : DE X o to) (hi : DE X i ti) (hs : swapsWith e (some (.Subscript o i pos')) pos.line X.env = pure false := by rfl) :
    DS X W (.Assign [.Subscript o i pos'] e pos) (dPutS te to ti) :=
  PS.mono (ps_dput (by omega) ho hi he hs) fun E σ H ⟨δ, G, Z, D0, ok, rs, h, l⟩ =>
    ⟨δ, G, Z, _, ok, rs, h, fun v G1 v' H1 h1 k1 ok1 r1 => ⟨δ, G1, Z, _, ok1, rs.mono k1.keep, h1, fun x G2 x' H2 h2 k2 ok2 r2 => ⟨δ, G2, Z, _, ok2, rs.mono (k1.trans k2).keep, h2, fun y G3 y' H3 h3 k3 ok3 r3 => by
      have q1 := r1.mono (k2.trans k3).keep
      have q2 := r2.mono k3.keep
      have kk := k1.trans (k2.trans k3)
      split at h3
      · next ky eky =>
        have eu := key_of r3 eky
        subst eu
        split at h3
        · cases q2
          split at h3
          · next kvs ea =>
            obtain ⟨hz, xs, hx, e1, rr⟩ := ok3.ok _ _ ea
            have hw : Kp H3 G3 Z (upd H3 _ (.dK (putK xs ky v'))) (gupd G3 _ (.dK (putD kvs ky v))) := Kp.wrote ea hz
            have hr := ((KvR.of e1 rr).put (k := ky) q1).mono hw.keep
            have hl : xs.length = kvs.length := by have := congrArg List.length e1; simpa using this
            exact ⟨_, _, rfl, .inl ⟨xs, ky, hx, rfl, by rw [hl]; exact h3.1, rfl⟩, (l.after kk).nx _ _ _ _ h3.2 hw (ok3.wrote ea ⟨_, upd_same, hr.keys, hr.reps⟩) (rs.mono (kk.trans hw).keep)⟩
          · exact h3.elim
        · exact h3.elim
      · exact h3.elim⟩⟩⟩
end
/-! for k in d -/
section
variable {K : PySem.W.Frag} {H : Hp} {G : GHp} {Z : Addr → Bool}
theorem rep_key {W : Hp} (k : Key) : Rep K W (keyD k) (kV k) := by
  cases k with
  | inl i => exact .int i
  | inr x => exact .str x
theorem it_keys {a : Addr} {o : Obj} {xs : List (Key × V)} {ks : List Key} (h : U H G Z a = some (.frz o (.dK xs))) (e : xs.map (·.1) = ks) : ItOk K (Itk a o xs) (ks.map keyD) none H G Z := by
  subst e
  refine ⟨fun i d H' G' e k ok _ => ?_, fun H' G' k ok _ => ?_⟩
  · have h' : H' a = some (.frz o (.dK xs)) := U_le _ _ (k.keep _ _ h)
    rw [List.map_map, List.getElem?_map] at e
    cases ex : xs[i]? with
    | none => rw [ex] at e; cases e
    | some p =>
      rw [ex] at e
      cases e
      have hi := (List.getElem?_eq_some_iff.mp ex).1
      refine ⟨⟨h', hi⟩, fun x H'' hy => ?_⟩
      obtain ⟨rfl, k2, v, e1, rfl⟩ := hy
      rw [ex] at e1; cases e1
      exact ⟨.refl, ok, rep_key _⟩
  · exact ⟨U_le _ _ (k.keep _ _ h), by rw [List.length_map, List.length_map]; exact Nat.le_refl _⟩
end
def dKeysI (te : DTE) : DTI := fun δ G R => te δ G fun x G1 => match x with
  | .dct ks _ => R (ks.map keyD) none G1
  | _ => False
section
variable {X : Cx} {tg e : Expr} {te : DTE} {W : WX} {st : Stmt} {t : DTS}
theorem di_keys (he : DE X e te) : DI X tg e (dKeysI te) :=
  PI.mono (pi_keys he) fun σ H R ⟨δ, G, Z, Q0, ok, rs, h, k⟩ => ⟨δ, G, Z, _, ok, rs, h, fun x G1 v H1 h1 k1 ok1 r1 => by
    cases r1 with
    | dct hq e rr => exact ⟨_, _, rfl, .inl ⟨_, U_le _ _ hq, k _ _ _ _ _ h1 k1 ok1 fun Z' z1 z2 => it_keys (U_ext z2 _ _ hq) e⟩⟩
    | _ => exact False.elim h1⟩
/-! a dict that is changed no more -/
inductive FrzSt (a : Addr) (x : D) : DSt → DSt → Prop
  | nil : FrzSt a x [] []
  | no {δ δ' : DSt} (o : Option D) : FrzSt a x δ δ' → FrzSt a x (o :: δ) (none :: δ')
  | sm {δ δ' : DSt} (o : Option D) : FrzSt a x δ δ' → FrzSt a x (o :: δ) (o :: δ')
  | re {δ δ' : DSt} : FrzSt a x δ δ' → FrzSt a x (some (.ref a) :: δ) (some x :: δ')
theorem FrzSt.rep {K : PySem.W.Frag} {W W' : Hp} {a : Addr} {x : D} (k : ∀ a o, W a = some o → W' a = some o) (hx : Rep K W' x (.ref a)) : ∀ {δ δ' : DSt} {σ : L2.St}, FrzSt a x δ δ' → RepSt K W δ σ → RepSt K W' δ' σ
  | _, _, _, .nil, .nil => .nil
  | _, _, _, .no _ h, .cons _ r => .cons (.no _) (FrzSt.rep k hx h r)
  | _, _, _, .sm _ h, .cons q r => .cons (q.mono k) (FrzSt.rep k hx h r)
  | _, _, _, .re h, .cons q r => by
    cases q with
    | so q => cases q; exact .cons (.so hx) (FrzSt.rep k hx h r)
def dFrz (t : DTS) : DTS := fun E δ G => ∃ (a : Addr) (kvs : List (Key × D)) (G' : GHp) (δ' : DSt), G = gupd G' a (.dK kvs) ∧ G' a = none ∧ FrzSt a (.dct (kvs.map (·.1)) (kvs.map (·.2))) δ δ' ∧ t E δ' G'
theorem ps_lockP {t : TS} (h : PS X st t) : PS X st (fun D σ H => ∃ d u, H d = some u ∧ Mut (some u) ∧ ∀ od, t D σ (upd H d (.frz od u))) :=
  ⟨fun pins s σ H D I ⟨d, u, hd, mu, q⟩ => by
    obtain ⟨od, I2⟩ := I.lock hd mu
    exact h.run pins s σ _ D I2 (q od)⟩
theorem ds_frz (h : DS X W st t) : DS X W st (dFrz t) :=
  PS.mono (ps_lockP h) fun E σ H ⟨δ, G, Z, D0, ok, rs, ⟨a, kvs, G', δ', e, ea, fs, h⟩, l⟩ => by
    subst e
    obtain ⟨hz, xs, hx, e1, rr⟩ := ok.ok a _ gupd_same
    refine ⟨a, _, hx, trivial, fun od => ?_⟩
    have k : ∀ b o, U H (gupd G' a (.dK kvs)) Z b = some o → U (upd H a (.frz od (.dK xs))) G' Z b = some o := fun b o e => by
      obtain ⟨h1, h2, h3⟩ := U_some e
      have hne : b ≠ a := fun q => by rw [q, gupd_same] at h1; cases h1
      exact U_of (by rw [gupd_ne hne] at h1; exact h1) h2 (by rw [upd_ne hne]; exact h3)
    have kk : Kp H (gupd G' a (.dK kvs)) Z (upd H a (.frz od (.dK xs))) G' := ⟨k, fun b o z e => by
      have hne : b ≠ a := fun q => by rw [q, hz] at z; cases z
      rw [upd_ne hne]; exact e⟩
    have ok' : Ok X.K (upd H a (.frz od (.dK xs))) G' Z := by
      refine ⟨fun b o e => ?_, fun b z => ?_⟩
      · have hne : b ≠ a := fun q => by rw [q, ea] at e; cases e
        obtain ⟨z, g⟩ := ok.ok b o (by rw [gupd_ne hne]; exact e)
        exact ⟨z, g.mono k (upd_ne hne)⟩
      · have hne : b ≠ a := fun q => by rw [q, hz] at z; cases z
        rw [upd_ne hne]; exact ok.hid b z
    have hr : Rep X.K (U (upd H a (.frz od (.dK xs))) G' Z) (.dct (kvs.map (·.1)) (kvs.map (·.2))) (.ref a) := .dct (U_of ea hz upd_same) e1 (rr.mono k)
    exact ⟨δ', G', Z, D0, ok', fs.rep k hr rs, h, l.after kk⟩
end
end DL
set_option Elab.async false
set_option linter.all false
set_option maxRecDepth 100000
set_option maxHeartbeats 1000000
/-! DL, part 25: < of data of any depth; max(xs, default=d), min(xs, default=d) of whole numbers; reversed(range(a, b)). -/
namespace DL
open PySem PySem.Spec L2 PyProof.Rows

section
variable {X : Cx}
def rLtD (K : PySem.W.Frag) : R2 := fun x y H Q => ∃ d e, Dp K H x d ∧ Dp K H y e ∧ PySem.W.alike d e = true ∧ d ≠ .none ∧ SeqAt.shaped d = true ∧ Q (.bl (PySem.W.dataLt d e)) H
theorem op_ltD (hu : X.A.units + 64 < cLine) : OpR X (compareOp .Lt) (rLtD X.K) := by
  intro pins s σ H x y v u Q I rx ry h
  obtain ⟨d, e, hd, he, al, hn, sd, q⟩ := h
  obtain ⟨as, r1⟩ := Dp.reads I d x v hd rx
  obtain ⟨bs, r2⟩ := Dp.reads I e y u he ry
  have hr : X.A.units + min d.depth e.depth < cLine := by
    unfold SeqAt.shaped at sd
    rw [Bool.and_eq_true] at sd
    have := of_decide_eq_true sd.2
    omega
  exact PySem.W.lt_data r1 r2 al hn hr ⟨.bl _, H, I, rfl, q⟩
def dLtQ : DR2 := fun x y G Q => match x, y with
  | .int i, .int j => Q (.bl (decide (i < j))) G
  | x, y => ∃ p q, DD G x p ∧ DD G y q ∧ PySem.W.alike p q = true ∧ p ≠ .none ∧ SeqAt.shaped p = true ∧ Q (.bl (PySem.W.dataLt p q)) G
theorem dop_ltQ (hu : X.A.units + 64 < cLine) : DOp X (compareOp .Lt) dLtQ :=
  OpR.imp (OpR.or op_lt (op_ltD hu)) fun v u H Q ⟨x, y, G, Z, Q0, ok, r1, r2, h, k⟩ => by
    have gen : (∃ p q, DD G x p ∧ DD G y q ∧ PySem.W.alike p q = true ∧ p ≠ .none ∧ SeqAt.shaped p = true ∧ Q0 (.bl (PySem.W.dataLt p q)) G) → rLtD X.K v u H Q :=
      fun ⟨p, q, e1, e2, s1, s2, s3, h⟩ => ⟨p, q, e1.dp ok r1, e2.dp ok r2, s1, s2, s3, k _ _ _ _ h .refl ok (.bl _)⟩
    cases r1 with
    | int i =>
      cases r2 with
      | int j => exact .inl ⟨_, _, rfl, rfl, k _ _ _ _ h .refl ok (.bl _)⟩
      | _ => exact .inr (gen h)
    | _ => cases r2 <;> exact .inr (gen h)
end
/-! ### max(xs, default=d), min(xs, default=d) -/
theorem maxOf_I : ∀ (y : Int) (ys : List Int), PySem.W.maxOf y ys ∈ y :: ys ∧ ∀ z ∈ y :: ys, z ≤ PySem.W.maxOf y ys
  | y, [] => ⟨by simp [PySem.W.maxOf], fun z hz => by simp at hz; subst hz; exact Int.le_refl _⟩
  | y, a :: r => by
    have e : PySem.W.maxOf y (a :: r) = PySem.W.maxOf (if PySem.W.DatumOrd.lt y a = true then a else y) r := rfl
    have e2 : PySem.W.DatumOrd.lt y a = decide (y < a) := rfl
    obtain ⟨h1, h2⟩ := maxOf_I (if PySem.W.DatumOrd.lt y a = true then a else y) r
    rw [e]
    rw [e2] at h1 h2 ⊢
    have h3 := h2 _ List.mem_cons_self
    refine ⟨?_, fun z hz => ?_⟩
    · rcases List.mem_cons.mp h1 with h | h
      · rw [h]; split <;> simp
      · exact List.mem_cons_of_mem _ (List.mem_cons_of_mem _ h)
    · by_cases c : y < a
      · rw [decide_eq_true c, if_pos rfl] at h2 h3 ⊢
        rcases List.mem_cons.mp hz with rfl | hz
        · omega
        · exact h2 z hz
      · rw [decide_eq_false c, if_neg (by decide)] at h2 h3 ⊢
        rcases List.mem_cons.mp hz with rfl | hz
        · exact h3
        · rcases List.mem_cons.mp hz with rfl | hz
          · omega
          · exact h2 z (List.mem_cons_of_mem _ hz)
theorem minOf_I : ∀ (y : Int) (ys : List Int), PySem.W.minOf y ys ∈ y :: ys ∧ ∀ z ∈ y :: ys, PySem.W.minOf y ys ≤ z
  | y, [] => ⟨by simp [PySem.W.minOf], fun z hz => by simp at hz; subst hz; exact Int.le_refl _⟩
  | y, a :: r => by
    have e : PySem.W.minOf y (a :: r) = PySem.W.minOf (if PySem.W.DatumOrd.lt a y = true then a else y) r := rfl
    have e2 : PySem.W.DatumOrd.lt a y = decide (a < y) := rfl
    obtain ⟨h1, h2⟩ := minOf_I (if PySem.W.DatumOrd.lt a y = true then a else y) r
    rw [e]
    rw [e2] at h1 h2 ⊢
    have h3 := h2 _ List.mem_cons_self
    refine ⟨?_, fun z hz => ?_⟩
    · rcases List.mem_cons.mp h1 with h | h
      · rw [h]; split <;> simp
      · exact List.mem_cons_of_mem _ (List.mem_cons_of_mem _ h)
    · by_cases c : a < y
      · rw [decide_eq_true c, if_pos rfl] at h2 h3 ⊢
        rcases List.mem_cons.mp hz with rfl | hz
        · omega
        · exact h2 z hz
      · rw [decide_eq_false c, if_neg (by decide)] at h2 h3 ⊢
        rcases List.mem_cons.mp hz with rfl | hz
        · exact h3
        · rcases List.mem_cons.mp hz with rfl | hz
          · omega
          · exact h2 z (List.mem_cons_of_mem _ hz)
theorem maxI_uniq {ns : List Int} {m : Int} (h1 : m ∈ ns) (h2 : ∀ z ∈ ns, z ≤ m) : m = maxI ns := by
  obtain ⟨q1, q2⟩ := maxI_mem (List.ne_nil_of_mem h1)
  have := q2 _ h1
  have := h2 _ q1
  omega
theorem minI_uniq {ns : List Int} {m : Int} (h1 : m ∈ ns) (h2 : ∀ z ∈ ns, m ≤ z) : m = minI ns := by
  obtain ⟨q1, q2⟩ := minI_mem (List.ne_nil_of_mem h1)
  have := q2 _ h1
  have := h2 _ q1
  omega
section
variable {X : Cx}
def rBestDef (K : PySem.W.Frag) (best : List Int → Int) : List V → List V → Hp → VK → Prop := fun xs zs H Q => ∃ (a : Addr) (ns : List Int) (d : V), xs = [.ref a] ∧ zs = [d] ∧ SqL K H a (ns.map V.int) ∧ (ns = [] → Q d H) ∧ (ns ≠ [] → Q (.int (best ns)) H)
theorem cr_maxDef (hc : X.calm = true) (hu : X.A.units + 64 < cLine) : CallRK X (.builtin "max") [Str.ofString "default"] (rBestDef X.K maxI) := by
  intro pins s σ H vs zs us ws Q I r rz h
  obtain ⟨a, ns, d, rfl, rfl, hs, q0, q1⟩ := h
  obtain rfl := Vals.ref1 r
  obtain ⟨w1, rfl, e1⟩ := vals1 rz
  obtain ⟨its, rv, hl, _⟩ := I.list hs
  have hi : IntsAre its ns := intsAre_of rv
  refine PySem.W.max_list_datum_default (α := Int) (I.ok.hd hc) hl.isList (PySem.W.HoldAll.of_ints hi) (by show X.A.units + 1 + PySem.W.Datum.depth Int < cLine; have : PySem.W.Datum.depth Int = 0 := rfl; omega) (fun e h' tk hk => ?_) fun y ys i v h' tk e hi hv hk => ?_
  · exact ⟨d, H, I.kept hk, e1, q0 e⟩
  · obtain ⟨t, rfl⟩ := PySem.W.int_of_holds hv
    refine ⟨.int _, H, I.kept hk, ⟨t, rfl⟩, ?_⟩
    obtain ⟨m1, m2⟩ := maxOf_I y ys
    rw [maxI_uniq m1 m2, ← e]
    exact q1 (by rw [e]; simp)
theorem cr_minDef (hc : X.calm = true) (hu : X.A.units + 64 < cLine) : CallRK X (.builtin "min") [Str.ofString "default"] (rBestDef X.K minI) := by
  intro pins s σ H vs zs us ws Q I r rz h
  obtain ⟨a, ns, d, rfl, rfl, hs, q0, q1⟩ := h
  obtain rfl := Vals.ref1 r
  obtain ⟨w1, rfl, e1⟩ := vals1 rz
  obtain ⟨its, rv, hl, _⟩ := I.list hs
  have hi : IntsAre its ns := intsAre_of rv
  refine PySem.W.min_list_datum_default (α := Int) (I.ok.hd hc) hl.isList (PySem.W.HoldAll.of_ints hi) (by show X.A.units + 1 + PySem.W.Datum.depth Int < cLine; have : PySem.W.Datum.depth Int = 0 := rfl; omega) (fun e h' tk hk => ?_) fun y ys i v h' tk e hi hv hk => ?_
  · exact ⟨d, H, I.kept hk, e1, q0 e⟩
  · obtain ⟨t, rfl⟩ := PySem.W.int_of_holds hv
    refine ⟨.int _, H, I.kept hk, ⟨t, rfl⟩, ?_⟩
    obtain ⟨m1, m2⟩ := minOf_I y ys
    rw [minI_uniq m1 m2, ← e]
    exact q1 (by rw [e]; simp)
end
/-! a built-in called with keywords -/
def cRK (K : PySem.W.Frag) (r : List D → List D → GHp → DK → Prop) : List V → List V → Hp → VK → Prop := fun vs zs H Q => ∃ (ds es : List D) (G : GHp) (Z : Addr → Bool) (Q0 : DK), Ok K H G Z ∧ Reps K (U H G Z) ds vs ∧ Reps K (U H G Z) es zs ∧ r ds es G Q0 ∧
  ∀ d G' v H', Q0 d G' → Kp H G Z H' G' → Ok K H' G' Z → Rep K (U H' G' Z) d v → Q v H'
def dCBK (r : List D → List D → GHp → DK → Prop) (t tk : DTA) : DTE := fun δ G Q => t δ G fun ds G1 => tk δ G1 fun es G2 => r ds es G2 Q
section
variable {X : Cx} {x : Str} {p pos : Pos} {e : Expr} {es : List Expr} {kws : List Keyword} {t tk : DTA} {id : String} {ks : List Str} {r : List D → List D → GHp → DK → Prop}
theorem de_callBK (hc : CallRK X (.builtin id) ks (cRK X.K r)) (hg : Gl X x) (hm : X.mg x = none) (hv : bootBuiltins x = some (.builtin id)) (ha : DA X (e :: es) t) (hk : DKw X kws tk) (hn : x ≠ "__name__" := by decide) (hdb : (x == ("__debug__" : Str)) = false := by decide)
    (he : backTo pos (starEach (e :: es) X.env) = (false, eval e X.env) :: backTo pos (starEach es X.env) := by rfl) (hpl : (backTo pos (starEach (e :: es) X.env)).any (·.1) = false := by rfl)
    (hall : (backToKw pos (keywordEach kws X.env)).all (·.1.isSome) = true := by rfl) (hnone : (backToKw pos (keywordEach kws X.env)).any (·.1.isNone) = false := by rfl) (hks : (backToKw pos (keywordEach kws X.env)).filterMap (·.1) = ks := by rfl) :
    DE X (.Call (.Name x p) (e :: es) kws pos) (dCBK r t tk) :=
  PE.mono (pe_callBK hc hg hm hv ha hk hn hdb he hpl hall hnone hks) fun σ H Q ⟨δ, G, Z, Q0, ok, rs, h, k⟩ =>
    ⟨δ, G, Z, _, ok, rs, h, fun ds G1 vs H1 h1 k1 ok1 r1 => ⟨δ, G1, Z, _, ok1, rs.mono k1.keep, h1, fun es G2 zs H2 h2 k2 ok2 r2 =>
      ⟨ds, es, G2, Z, Q0, ok2, r1.mono k2.keep, r2, h2, fun d G' v H' q k3 ok3 r3 => k _ _ _ _ q (k1.trans (k2.trans k3)) ok3 r3⟩⟩⟩
def dBest (best : List Int → Int) (ds es : List D) (G : GHp) (Q : DK) : Prop := match ds, es with
  | [x], [d] => match intsG G x with
    | some ns => (ns = [] → Q d G) ∧ (ns ≠ [] → Q (.int (best ns)) G)
    | none => False
  | _, _ => False
theorem best_of {K : PySem.W.Frag} {best : List Int → Int} {vs zs : List V} {H : Hp} {Q : VK} (h : cRK K (dBest best) vs zs H Q) : rBestDef K best vs zs H Q := by
  obtain ⟨ds, es, G, Z, Q0, ok, r1, r2, h, k⟩ := h
  unfold dBest at h
  split at h
  · next x d =>
    split at h
    · next ns e =>
      cases r1 with
      | cons a b =>
        cases b
        cases r2 with
        | cons c f =>
          cases f
          obtain ⟨a, rfl, ha⟩ := intsG_of ok a e
          exact ⟨_, ns, _, rfl, rfl, SqL.of ha, fun z => k _ _ _ _ (h.1 z) .refl ok c, fun z => k _ _ _ _ (h.2 z) .refl ok (.int _)⟩
    · exact h.elim
  · exact h.elim
theorem CallRK.imp {X : Cx} {f : Value} {ks : List Str} {r r' : List V → List V → Hp → VK → Prop} (hc : CallRK X f ks r) (h : ∀ vs zs H Q, r' vs zs H Q → r vs zs H Q) : CallRK X f ks r' :=
  fun pins s σ H xs zs us ws Q I r1 r2 q => hc pins s σ H xs zs us ws Q I r1 r2 (h _ _ _ _ q)
theorem dck_max (hc : X.calm = true) (hu : X.A.units + 64 < cLine) : CallRK X (.builtin "max") [Str.ofString "default"] (cRK X.K (dBest maxI)) := CallRK.imp (cr_maxDef hc hu) fun _ _ _ _ h => best_of h
theorem dck_min (hc : X.calm = true) (hu : X.A.units + 64 < cLine) : CallRK X (.builtin "min") [Str.ofString "default"] (cRK X.K (dBest minI)) := CallRK.imp (cr_minDef hc hu) fun _ _ _ _ h => best_of h
end
/-! reversed(range(a, b)) -/
def rngC (lo c : Int) (n : Nat) : List D := (List.range n).map fun (i : Nat) => D.int (lo + i * c)
theorem it_rangeC {K : PySem.W.Frag} {H : Hp} {G : GHp} {Z : Addr → Bool} {lo c : Int} {n : Nat} : ItOk K (Itc lo c n) (rngC lo c n) none H G Z := by
  refine ⟨fun i d H' G' e k ok _ => ?_, fun H' G' k ok _ => ?_⟩
  · have hi : i < n := by
      have := (List.getElem?_eq_some_iff.mp e).1
      simpa [rngC] using this
    have hd : d = .int (lo + i * c) := by
      simp [rngC, hi] at e
      exact e.symm
    subst hd
    refine ⟨hi, fun x H'' hy => ?_⟩
    obtain ⟨rfl, rfl⟩ := hy
    exact ⟨.refl, ok, .int _⟩
  · show n ≤ (rngC lo c n).length
    simp [rngC]
def dRevRng2 (ta tb : DTE) : DTI := fun δ G R => ta δ G fun x G1 => tb δ G1 fun y G2 => match x, y with
  | .int i, .int j => RgB i j ∧ R (rngC (i + (((j - i).toNat : Nat) : Int) - 1) (-1) (j - i).toNat) none G2
  | _, _ => False
section
variable {X : Cx} {tg a b : Expr} {ta tb : DTE} {p p2 pos pos2 : Pos}
theorem di_revRange2 (hg : Gl X "reversed") (hm : X.mg "reversed" = none) (hg2 : Gl X "range") (hm2 : X.mg "range" = none) (ha : DE X a ta) (hb : DE X b tb)
    (na : starEach [a, b] X.env = (false, eval a X.env) :: starEach [b] X.env := by rfl) (nb : starEach [b] X.env = (false, eval b X.env) :: starEach [] X.env := by rfl) (hp : (backTo pos2 (starEach [b] X.env)).any (·.1) = false := by rfl)
    (nl : starEach [Expr.Call (.Name "range" p2) [a, b] [] pos2] X.env = (false, eval (.Call (.Name "range" p2) [a, b] [] pos2) X.env) :: starEach [] X.env := by rfl) :
    DI X tg (.Call (.Name "reversed" p) [.Call (.Name "range" p2) [a, b] [] pos2] [] pos) (dRevRng2 ta tb) :=
  PI.mono (pi_revR hg hm (prg_2 hg2 hm2 ha hb na nb hp) nl) fun σ H R ⟨δ, G, Z, Q0, ok, rs, h, k⟩ =>
    ⟨δ, G, Z, _, ok, rs, h, fun x G1 v H1 h1 k1 ok1 r1 => ⟨δ, G1, Z, _, ok1, rs.mono k1.keep, h1, fun y G2 u H2 h2 k2 ok2 r2 => by
      cases r1 with
      | int i =>
        cases r2 with
        | int j => exact ⟨i, j, rfl, rfl, h2.1.1, h2.1.2.1, h2.1.2.2.1, h2.1.2.2.2, k _ _ _ _ _ h2.2 (k1.trans k2) ok2 fun Z' _ _ => it_rangeC⟩
        | _ => exact False.elim h2
      | _ => cases r2 <;> exact False.elim h2⟩⟩
end
end DL
set_option linter.all false
set_option maxRecDepth 100000
set_option maxHeartbeats 1000000
namespace DL
open PySem PySem.Spec L2 DL
/-! DL, part 26: the laws' _law_same told in full, for data without tracked parts: True or False. -/
def sameB : Nat → D → D → Bool
  | 0, _, _ => false
  | n + 1, x, y => match y, x with
    | .non, x => isNon x
    | .bl b, .bl a => a == b
    | .int j, .int i => decide (i = j)
    | .lst ys, .lst xs => decide (xs.length = ys.length) && (xs.zip ys).all fun p => sameB n p.1 p.2
    | .tup ys, .tup xs => decide (xs.length = ys.length) && (xs.zip ys).all fun p => sameB n p.1 p.2
    | _, _ => false
def prSm (n : Nat) (x y : D) (G : GHp) (Q : DK) : Prop := prSame n x y G Q ∨ (fz n x = true ∧ fz n y = true ∧ Q (.bl (sameB n x y)) G)
def spSm (n : Nat) : DSp := sp2 fun x y G Q _ => prSm n x y G Q
theorem sp_same_sm {n : Nat} : ∀ ds G Q E, spSame n ds G Q E → spSm n ds G Q E := fun ds G Q E h => by
  match ds, h with
  | [x, y], h => exact .inl h
theorem no_sm {ds : List D} {G : GHp} {Q : DK} {E : DXK} (h : spSm 0 ds G Q E) : False := by
  match ds, h with
  | [x, y], .inl ⟨S, _, h, _⟩ => cases h
  | [x, y], .inr ⟨_, h, _⟩ => cases h
theorem fz_items {n : Nat} {ts : List D} (hz : fz (n + 1) (.lst ts) = true ∨ fz (n + 1) (.tup ts) = true) : ts.length ≤ 1000 ∧ ∀ d ∈ ts, fz n d = true := by
  have hz : (decide (ts.length ≤ 1000) && ts.all (fz n)) = true := by rcases hz with h | h <;> exact h
  rw [Bool.and_eq_true] at hz
  exact ⟨of_decide_eq_true hz.1, List.all_eq_true.mp hz.2⟩
theorem zip_all {n : Nat} {xs ys : List D} (e : xs.length = ys.length) : ((List.range ys.length).filter fun i => !sameB n (xs[i]?.getD .non) (ys[i]?.getD .non)).isEmpty = (xs.zip ys).all fun p => sameB n p.1 p.2 := by
  rw [Bool.eq_iff_iff, List.isEmpty_iff, List.filter_eq_nil_iff, List.all_eq_true]
  constructor
  · intro h p hp
    obtain ⟨i, hi⟩ := List.mem_iff_getElem?.mp hp
    obtain ⟨h1, h2⟩ := List.getElem?_zip_eq_some.mp hi
    have hl : i < ys.length := (List.getElem?_eq_some_iff.mp h2).1
    have := h i (List.mem_range.mpr hl)
    rw [h1, h2] at this
    simpa using this
  · intro h i hi
    have hi := List.mem_range.mp hi
    have h1 : xs[i]? = some (xs[i]'(by omega)) := List.getElem?_eq_getElem (by omega)
    have h2 : ys[i]? = some ys[i] := List.getElem?_eq_getElem hi
    have := h (xs[i]'(by omega), ys[i]) (List.mem_iff_getElem?.mpr ⟨i, List.getElem?_zip_eq_some.mpr ⟨h1, h2⟩⟩)
    rw [h1, h2]
    simpa using this
theorem DDs_ix {G : GHp} : ∀ l : List Nat, DDs G (l.map fun (i : Nat) => D.int (0 + i)) (l.map fun (i : Nat) => .int (0 + i))
  | [] => .nil
  | a :: t => .cons (.int _) (DDs_ix t)
theorem rd_sm (n : Nat) : ∀ x y G Q (E : DXK), prSm (n + 1) x y G Q → DRun (tSame (spSm n)) [some x, some y, none] G Q := by
  rintro x y G Q E (h | ⟨hx, hy, h⟩)
  · exact rd_sameG n sp_same_sm x y G Q E h
  cases y with
  | non =>
    conv => whnf
    refine ⟨fun _ => ?_, fun e => tf e⟩
    conv => whnf
    refine ⟨fun _ => ?_, fun e => tf e⟩
    conv => whnf
    exact ⟨fun _ => h, fun e => tf e⟩
  | bl b =>
    cases x with
    | bl a =>
      conv => whnf
      refine ⟨fun e => ft e, fun _ => ?_⟩
      conv => whnf
      refine ⟨fun _ => ?_, fun e => tf e⟩
      conv => whnf
      refine ⟨fun e => ft e, fun _ => ?_⟩
      conv => whnf
      refine ⟨fun _ => ?_, fun e => tf e⟩
      conv => whnf
      cases a <;> cases b <;> exact h
    | non =>
      conv => whnf
      refine ⟨fun e => ft e, fun _ => ?_⟩
      conv => whnf
      refine ⟨fun _ => ?_, fun e => tf e⟩
      conv => whnf
      refine ⟨fun e => ft e, fun _ => ?_⟩
      conv => whnf
      refine ⟨fun e => ft e, fun _ => ?_⟩
      conv => whnf
      exact h
    | int i =>
      conv => whnf
      refine ⟨fun e => ft e, fun _ => ?_⟩
      conv => whnf
      refine ⟨fun _ => ?_, fun e => tf e⟩
      conv => whnf
      refine ⟨fun e => ft e, fun _ => ?_⟩
      conv => whnf
      refine ⟨fun e => ft e, fun _ => ?_⟩
      conv => whnf
      exact h
    | lst ds =>
      conv => whnf
      refine ⟨fun e => ft e, fun _ => ?_⟩
      conv => whnf
      refine ⟨fun _ => ?_, fun e => tf e⟩
      conv => whnf
      refine ⟨fun e => ft e, fun _ => ?_⟩
      conv => whnf
      refine ⟨fun e => ft e, fun _ => ?_⟩
      conv => whnf
      exact h
    | tup ds =>
      conv => whnf
      refine ⟨fun e => ft e, fun _ => ?_⟩
      conv => whnf
      refine ⟨fun _ => ?_, fun e => tf e⟩
      conv => whnf
      refine ⟨fun e => ft e, fun _ => ?_⟩
      conv => whnf
      refine ⟨fun e => ft e, fun _ => ?_⟩
      conv => whnf
      exact h
    | _ => cases hx
  | int j =>
    cases x with
    | int i =>
      conv => whnf
      refine ⟨fun e => ft e, fun _ => ?_⟩
      conv => whnf
      refine ⟨fun e => ft e, fun _ => ?_⟩
      conv => whnf
      refine ⟨fun _ => ?_, fun e => tf e⟩
      conv => whnf
      refine ⟨fun _ => ?_, fun e => tf e⟩
      conv => whnf
      refine ⟨fun _ => ?_, fun e => tf e⟩
      conv => whnf
      have e : decide (i - j = 0) = decide (i = j) := decide_eq_decide.mpr (by omega)
      have h : Q (.bl (decide (i = j))) G := h
      rw [← e] at h
      exact h
    | bl i =>
      conv => whnf
      refine ⟨fun e => ft e, fun _ => ?_⟩
      conv => whnf
      refine ⟨fun e => ft e, fun _ => ?_⟩
      conv => whnf
      refine ⟨fun _ => ?_, fun e => tf e⟩
      conv => whnf
      refine ⟨fun _ => ?_, fun e => tf e⟩
      conv => whnf
      refine ⟨fun e => ft e, fun _ => ?_⟩
      conv => whnf
      exact h
    | non =>
      conv => whnf
      refine ⟨fun e => ft e, fun _ => ?_⟩
      conv => whnf
      refine ⟨fun e => ft e, fun _ => ?_⟩
      conv => whnf
      refine ⟨fun _ => ?_, fun e => tf e⟩
      conv => whnf
      refine ⟨fun e => ft e, fun _ => ?_⟩
      conv => whnf
      exact h
    | lst ds =>
      conv => whnf
      refine ⟨fun e => ft e, fun _ => ?_⟩
      conv => whnf
      refine ⟨fun e => ft e, fun _ => ?_⟩
      conv => whnf
      refine ⟨fun _ => ?_, fun e => tf e⟩
      conv => whnf
      refine ⟨fun e => ft e, fun _ => ?_⟩
      conv => whnf
      exact h
    | tup ds =>
      conv => whnf
      refine ⟨fun e => ft e, fun _ => ?_⟩
      conv => whnf
      refine ⟨fun e => ft e, fun _ => ?_⟩
      conv => whnf
      refine ⟨fun _ => ?_, fun e => tf e⟩
      conv => whnf
      refine ⟨fun e => ft e, fun _ => ?_⟩
      conv => whnf
      exact h
    | _ => cases hx
  | lst ys =>
    cases x with
    | non =>
      conv => whnf
      refine ⟨fun e => ft e, fun _ => ?_⟩
      conv => whnf
      refine ⟨fun e => ft e, fun _ => ?_⟩
      conv => whnf
      refine ⟨fun e => ft e, fun _ => ?_⟩
      conv => whnf
      refine ⟨fun e => ft e, fun _ => ?_⟩
      conv => whnf
      refine ⟨fun _ => ?_, fun e => tf e⟩
      conv => whnf
      refine ⟨fun _ => ?_, fun e => tf e⟩
      conv => whnf
      exact h
    | bl b =>
      conv => whnf
      refine ⟨fun e => ft e, fun _ => ?_⟩
      conv => whnf
      refine ⟨fun e => ft e, fun _ => ?_⟩
      conv => whnf
      refine ⟨fun e => ft e, fun _ => ?_⟩
      conv => whnf
      refine ⟨fun e => ft e, fun _ => ?_⟩
      conv => whnf
      refine ⟨fun _ => ?_, fun e => tf e⟩
      conv => whnf
      refine ⟨fun _ => ?_, fun e => tf e⟩
      conv => whnf
      exact h
    | int i =>
      conv => whnf
      refine ⟨fun e => ft e, fun _ => ?_⟩
      conv => whnf
      refine ⟨fun e => ft e, fun _ => ?_⟩
      conv => whnf
      refine ⟨fun e => ft e, fun _ => ?_⟩
      conv => whnf
      refine ⟨fun e => ft e, fun _ => ?_⟩
      conv => whnf
      refine ⟨fun _ => ?_, fun e => tf e⟩
      conv => whnf
      refine ⟨fun _ => ?_, fun e => tf e⟩
      conv => whnf
      exact h
    | tup ds =>
      conv => whnf
      refine ⟨fun e => ft e, fun _ => ?_⟩
      conv => whnf
      refine ⟨fun e => ft e, fun _ => ?_⟩
      conv => whnf
      refine ⟨fun e => ft e, fun _ => ?_⟩
      conv => whnf
      refine ⟨fun e => ft e, fun _ => ?_⟩
      conv => whnf
      refine ⟨fun _ => ?_, fun e => tf e⟩
      conv => whnf
      refine ⟨fun _ => ?_, fun e => tf e⟩
      conv => whnf
      exact h
    | lst ds =>
      conv => whnf
      refine ⟨fun e => ft e, fun _ => ?_⟩
      conv => whnf
      refine ⟨fun e => ft e, fun _ => ?_⟩
      conv => whnf
      refine ⟨fun e => ft e, fun _ => ?_⟩
      conv => whnf
      refine ⟨fun e => ft e, fun _ => ?_⟩
      conv => whnf
      refine ⟨fun e => ft e, fun _ => ?_⟩
      conv => whnf
      refine ⟨fun e => ft e, fun _ => ?_⟩
      conv => whnf
      obtain ⟨hlx, hax⟩ := fz_items (n := n) (ts := ds) (Or.inl hx)
      obtain ⟨hly, hay⟩ := fz_items (n := n) (ts := ys) (Or.inl hy)
      have h : Q (.bl (decide (ds.length = ys.length) && (ds.zip ys).all fun p => sameB n p.1 p.2)) G := h
      by_cases el : ds.length = ys.length
      · rw [decide_eq_true el, Bool.true_and, ← zip_all el] at h
        refine ⟨fun _ => ?_, fun e => absurd (of_decide_eq_false e) (fun q => q (by rw [el]))⟩
        conv => whnf
        refine ⟨by unfold RgB; omega, ?_⟩
        refine lc_map (enc := fun (i : Nat) => D.int (0 + i)) (keep := fun i => !sameB n (ds[i]?.getD .non) (ys[i]?.getD .non)) (f := fun i => D.int (0 + i)) (xs := List.range (ys.length : Int).toNat) (smallL (by rw [List.length_range]; omega)) trivial (fun i hi R hR => ?_) (fun d hd _ R hR => hR) ?_
        · have hi : i < ys.length := by have := List.mem_range.mp hi; omega
          have g1 : ds[i]? = some (ds[i]'(by omega)) := List.getElem?_eq_getElem (by omega)
          have g2 : ys[i]? = some ys[i] := List.getElem?_eq_getElem hi
          conv => whnf
          refine atD_get (d := ds[i]'(by omega)) (by omega) (by omega) (by rw [show ((0 : Int) + (i : Int)).toNat = i by omega]; exact g1) ?_
          conv => whnf
          refine atD_get (d := ys[i]) (by omega) (by omega) (by rw [show ((0 : Int) + (i : Int)).toNat = i by omega]; exact g2) ?_
          conv => whnf
          rw [g1, g2] at hR
          refine .inr ⟨hax _ (List.getElem_mem _), hay _ (List.getElem_mem hi), ?_⟩
          exact hR
        · conv => whnf
          refine ⟨smallL (by simp), ?_⟩
          refine eq_nilL (ps := ((List.range ys.length).filter fun i => !sameB n (ds[i]?.getD .non) (ys[i]?.getD .non)).map fun (i : Nat) => .int (0 + i)) (DDs_ix _) (.of fun p hp => by
            obtain ⟨i, _, rfl⟩ := List.mem_map.mp hp
            exact .int _) ?_
          rw [Int.toNat_natCast, isEmpty_map]
          exact h
      · rw [decide_eq_false el, Bool.false_and] at h
        refine ⟨fun e => absurd (of_decide_eq_true e) (fun q => el (by omega)), fun _ => ?_⟩
        show Q (.bl (decide ((ds.length : Int) = (ys.length : Int)))) G
        rw [decide_eq_false (by omega)]
        exact h
    | _ => cases hx
  | tup ys =>
    cases x with
    | non =>
      conv => whnf
      refine ⟨fun e => ft e, fun _ => ?_⟩
      conv => whnf
      refine ⟨fun e => ft e, fun _ => ?_⟩
      conv => whnf
      refine ⟨fun e => ft e, fun _ => ?_⟩
      conv => whnf
      refine ⟨fun e => ft e, fun _ => ?_⟩
      conv => whnf
      refine ⟨fun e => ft e, fun _ => ?_⟩
      conv => whnf
      refine ⟨fun _ => ?_, fun e => tf e⟩
      conv => whnf
      exact h
    | bl b =>
      conv => whnf
      refine ⟨fun e => ft e, fun _ => ?_⟩
      conv => whnf
      refine ⟨fun e => ft e, fun _ => ?_⟩
      conv => whnf
      refine ⟨fun e => ft e, fun _ => ?_⟩
      conv => whnf
      refine ⟨fun e => ft e, fun _ => ?_⟩
      conv => whnf
      refine ⟨fun e => ft e, fun _ => ?_⟩
      conv => whnf
      refine ⟨fun _ => ?_, fun e => tf e⟩
      conv => whnf
      exact h
    | int i =>
      conv => whnf
      refine ⟨fun e => ft e, fun _ => ?_⟩
      conv => whnf
      refine ⟨fun e => ft e, fun _ => ?_⟩
      conv => whnf
      refine ⟨fun e => ft e, fun _ => ?_⟩
      conv => whnf
      refine ⟨fun e => ft e, fun _ => ?_⟩
      conv => whnf
      refine ⟨fun e => ft e, fun _ => ?_⟩
      conv => whnf
      refine ⟨fun _ => ?_, fun e => tf e⟩
      conv => whnf
      exact h
    | tup ds =>
      conv => whnf
      refine ⟨fun e => ft e, fun _ => ?_⟩
      conv => whnf
      refine ⟨fun e => ft e, fun _ => ?_⟩
      conv => whnf
      refine ⟨fun e => ft e, fun _ => ?_⟩
      conv => whnf
      refine ⟨fun e => ft e, fun _ => ?_⟩
      conv => whnf
      refine ⟨fun e => ft e, fun _ => ?_⟩
      conv => whnf
      refine ⟨fun e => ft e, fun _ => ?_⟩
      conv => whnf
      obtain ⟨hlx, hax⟩ := fz_items (n := n) (ts := ds) (Or.inr hx)
      obtain ⟨hly, hay⟩ := fz_items (n := n) (ts := ys) (Or.inr hy)
      have h : Q (.bl (decide (ds.length = ys.length) && (ds.zip ys).all fun p => sameB n p.1 p.2)) G := h
      by_cases el : ds.length = ys.length
      · rw [decide_eq_true el, Bool.true_and, ← zip_all el] at h
        refine ⟨fun _ => ?_, fun e => absurd (of_decide_eq_false e) (fun q => q (by rw [el]))⟩
        conv => whnf
        refine ⟨by unfold RgB; omega, ?_⟩
        refine lc_map (enc := fun (i : Nat) => D.int (0 + i)) (keep := fun i => !sameB n (ds[i]?.getD .non) (ys[i]?.getD .non)) (f := fun i => D.int (0 + i)) (xs := List.range (ys.length : Int).toNat) (smallL (by rw [List.length_range]; omega)) trivial (fun i hi R hR => ?_) (fun d hd _ R hR => hR) ?_
        · have hi : i < ys.length := by have := List.mem_range.mp hi; omega
          have g1 : ds[i]? = some (ds[i]'(by omega)) := List.getElem?_eq_getElem (by omega)
          have g2 : ys[i]? = some ys[i] := List.getElem?_eq_getElem hi
          conv => whnf
          refine atD_get (d := ds[i]'(by omega)) (by omega) (by omega) (by rw [show ((0 : Int) + (i : Int)).toNat = i by omega]; exact g1) ?_
          conv => whnf
          refine atD_get (d := ys[i]) (by omega) (by omega) (by rw [show ((0 : Int) + (i : Int)).toNat = i by omega]; exact g2) ?_
          conv => whnf
          rw [g1, g2] at hR
          refine .inr ⟨hax _ (List.getElem_mem _), hay _ (List.getElem_mem hi), ?_⟩
          exact hR
        · conv => whnf
          refine ⟨smallL (by simp), ?_⟩
          refine eq_nilL (ps := ((List.range ys.length).filter fun i => !sameB n (ds[i]?.getD .non) (ys[i]?.getD .non)).map fun (i : Nat) => .int (0 + i)) (DDs_ix _) (.of fun p hp => by
            obtain ⟨i, _, rfl⟩ := List.mem_map.mp hp
            exact .int _) ?_
          rw [Int.toNat_natCast, isEmpty_map]
          exact h
      · rw [decide_eq_false el, Bool.false_and] at h
        refine ⟨fun e => absurd (of_decide_eq_true e) (fun q => el (by omega)), fun _ => ?_⟩
        show Q (.bl (decide ((ds.length : Int) = (ys.length : Int)))) G
        rw [decide_eq_false (by omega)]
        exact h
    | lst ds =>
      conv => whnf
      refine ⟨fun e => ft e, fun _ => ?_⟩
      conv => whnf
      refine ⟨fun e => ft e, fun _ => ?_⟩
      conv => whnf
      refine ⟨fun e => ft e, fun _ => ?_⟩
      conv => whnf
      refine ⟨fun e => ft e, fun _ => ?_⟩
      conv => whnf
      refine ⟨fun _ => ?_, fun e => tf e⟩
      conv => whnf
      refine ⟨fun _ => ?_, fun e => tf e⟩
      conv => whnf
      exact h
    | _ => cases hx
  | _ => cases hy
end DL
set_option Elab.async false
set_option linter.all false
set_option maxRecDepth 100000
set_option maxHeartbeats 1000000
/-! DL, part 27: dicts with keys of tuples: {}, d[k] = v, d[k], for k in d, list(d), d changed no more (D.dcT); d.get(k, x); sorted(pairs of whole numbers). -/
namespace DL
open PySem PySem.Spec L2 PyProof.Rows

def keyOfs : List D → Option (List Key)
  | [] => some []
  | d :: r => match keyOf d, keyOfs r with
    | some k, some ks => some (k :: ks)
    | _, _ => none
def keysOf : D → Option (List Key)
  | .tup ds => if ds.length = 3 then none else keyOfs ds
  | _ => none
theorem keys_of {K : PySem.W.Frag} {W : Hp} : ∀ {ds : List D} {vs : List V} {ks : List Key}, Reps K W ds vs → keyOfs ds = some ks → vs = ks.map kV
  | [], _, ks, .nil, e => by cases e; rfl
  | d :: r, _, ks, .cons h t, e => by
    unfold keyOfs at e
    split at e
    · next k kr e1 e2 =>
      cases e
      rw [List.map_cons, key_of h e1, keys_of t e2]
    · cases e
/-! entries, by keys of any kind -/
section
variable {κ : Type} [DecidableEq κ] {K : PySem.W.Frag} {W : Hp}
def valG (kvs : List (κ × D)) (k : κ) : Option D := (kvs.find? fun kv => decide (kv.1 = k)).map (·.2)
def putG (kvs : List (κ × D)) (k : κ) (d : D) : List (κ × D) :=
  if (kvs.any fun kv => decide (kv.1 = k)) = true then kvs.map (fun kv => if kv.1 = k then (kv.1, d) else kv) else kvs ++ [(k, d)]
abbrev KgR (K : PySem.W.Frag) (W : Hp) : List (κ × D) → List (κ × V) → Prop := Paired fun p q => q.1 = p.1 ∧ Rep K W p.2 q.2
theorem KgR.of : ∀ {kvs : List (κ × D)} {xs : List (κ × V)}, xs.map (·.1) = kvs.map (·.1) → Reps K W (kvs.map (·.2)) (xs.map (·.2)) → KgR K W kvs xs
  | [], [], _, _ => .nil
  | [], _ :: _, h, _ => by cases h
  | _ :: _, [], h, _ => by cases h
  | p :: r, q :: t, h, r1 => by
    simp only [List.map_cons, List.cons.injEq] at h
    rw [List.map_cons, List.map_cons] at r1
    cases r1 with
    | cons a b => exact .cons ⟨h.1, a⟩ (KgR.of h.2 b)
theorem KgR.keys : ∀ {kvs : List (κ × D)} {xs : List (κ × V)}, KgR K W kvs xs → xs.map (·.1) = kvs.map (·.1)
  | _, _, .nil => rfl
  | _, _, .cons h t => by rw [List.map_cons, List.map_cons, h.1, KgR.keys t]
theorem KgR.reps : ∀ {kvs : List (κ × D)} {xs : List (κ × V)}, KgR K W kvs xs → Reps K W (kvs.map (·.2)) (xs.map (·.2))
  | _, _, .nil => .nil
  | _, _, .cons h t => .cons h.2 (KgR.reps t)
theorem KgR.val : ∀ {kvs : List (κ × D)} {xs : List (κ × V)} {k : κ}, KgR K W kvs xs → (∃ d v, valG kvs k = some d ∧ valV xs k = some v ∧ Rep K W d v) ∨ (valG kvs k = none ∧ valV xs k = none)
  | _, _, _, .nil => .inr ⟨rfl, rfl⟩
  | p :: kvs, q :: xs, k, .cons h t => by
    by_cases hk : p.1 = k
    · exact .inl ⟨p.2, q.2, by simp [valG, List.find?_cons, hk], valV_pos (h.1.trans hk), h.2⟩
    · have e1 : valG (p :: kvs) k = valG kvs k := by simp [valG, List.find?_cons, hk]
      have e2 : valV (q :: xs) k = valV xs k := valV_neg (by rw [h.1]; exact hk)
      rw [e1, e2]
      exact KgR.val t
theorem KgR.any {k : κ} : ∀ {kvs : List (κ × D)} {xs : List (κ × V)}, KgR K W kvs xs → (xs.any fun kv => decide (kv.1 = k)) = kvs.any fun kv => decide (kv.1 = k)
  | _, _, .nil => rfl
  | _, _, .cons h t => by rw [List.any_cons, List.any_cons, h.1, KgR.any t]
theorem KgR.map {k : κ} {d : D} {v : V} (r : Rep K W d v) : ∀ {kvs : List (κ × D)} {xs : List (κ × V)}, KgR K W kvs xs → KgR K W (kvs.map fun kv => if kv.1 = k then (kv.1, d) else kv) (xs.map fun kv => if kv.1 = k then (kv.1, v) else kv)
  | _, _, .nil => .nil
  | p :: _, q :: _, .cons h t => by
    refine .cons ?_ (KgR.map r t)
    show (if q.1 = k then (q.1, v) else q).1 = (if p.1 = k then (p.1, d) else p).1 ∧ Rep K W (if p.1 = k then (p.1, d) else p).2 (if q.1 = k then (q.1, v) else q).2
    have hq := h.1
    by_cases hk : p.1 = k
    · rw [if_pos hk, if_pos (hq.trans hk)]; exact ⟨hq, r⟩
    · rw [if_neg hk, if_neg (by rw [hq]; exact hk)]; exact h
theorem KgR.snoc {p : κ × D} {q : κ × V} (h : q.1 = p.1 ∧ Rep K W p.2 q.2) : ∀ {kvs : List (κ × D)} {xs : List (κ × V)}, KgR K W kvs xs → KgR K W (kvs ++ [p]) (xs ++ [q])
  | _, _, .nil => .cons h .nil
  | _, _, .cons g t => .cons g (KgR.snoc h t)
theorem KgR.put {k : κ} {d : D} {v : V} {kvs : List (κ × D)} {xs : List (κ × V)} (h : KgR K W kvs xs) (r : Rep K W d v) : KgR K W (putG kvs k d) (putK xs k v) := by
  unfold putG putK
  rw [h.any]
  split
  · exact KgR.map r h
  · exact KgR.snoc ⟨rfl, r⟩ h
theorem KgR.mono {W' : Hp} (k : ∀ a o, W a = some o → W' a = some o) : ∀ {kvs : List (κ × D)} {xs : List (κ × V)}, KgR K W kvs xs → KgR K W' kvs xs
  | _, _, .nil => .nil
  | _, _, .cons h t => .cons ⟨h.1, h.2.mono k⟩ (KgR.mono k t)
theorem zip_ofG {ks : List κ} {ds : List D} {xs : List (κ × V)} (h1 : xs.map (·.1) = ks) (h2 : Reps K W ds (xs.map (·.2))) : KgR K W (ks.zip ds) xs := by
  subst h1
  induction xs generalizing ds with
  | nil => cases h2; exact .nil
  | cons p r ih =>
    rw [List.map_cons] at h2
    cases h2 with
    | cons a b => exact .cons ⟨rfl, a⟩ (ih b)
end
/-- the entries of a dict, tracked or not -/
inductive EntT (G : GHp) : D → List (List Key × D) → Prop
  | tree (ks : List (List Key)) (ds : List D) : EntT G (.dcT ks ds) (ks.zip ds)
  | ref {a : Addr} {kvs : List (List Key × D)} : G a = some (.dT kvs) → EntT G (.ref a) kvs
def entT (G : GHp) : D → Option (List (List Key × D))
  | .dcT ks ds => some (ks.zip ds)
  | .ref a => match G a with
    | some (.dT kvs) => some kvs
    | _ => none
  | _ => none
def entK (G : GHp) : D → Option (List (Key × D))
  | .dct ks ds => some (ks.zip ds)
  | .ref a => match G a with
    | some (.dK kvs) => some kvs
    | _ => none
  | _ => none
section
variable {K : PySem.W.Frag} {H : Hp} {G : GHp} {Z : Addr → Bool}
theorem entT_of {x : D} {v : V} {kvs : List (List Key × D)} (ok : Ok K H G Z) (r : Rep K (U H G Z) x v) (h : entT G x = some kvs) : ∃ a xs, v = .ref a ∧ Rd H a (.dT xs) ∧ KgR K (U H G Z) kvs xs := by
  unfold entT at h
  split at h
  · next ks ds =>
    cases h
    cases r with
    | dcT hq e rr => exact ⟨_, _, rfl, .inr ⟨_, U_le _ _ hq⟩, zip_ofG e rr⟩
  · cases r
    split at h
    · next e =>
      cases h
      obtain ⟨_, xs, hx, e1, rr⟩ := ok.ok _ _ e
      exact ⟨_, xs, rfl, .inl hx, .of e1 rr⟩
    · cases h
  · cases h
theorem entK_of {x : D} {v : V} {kvs : List (Key × D)} (ok : Ok K H G Z) (r : Rep K (U H G Z) x v) (h : entK G x = some kvs) : ∃ a xs, v = .ref a ∧ Rd H a (.dK xs) ∧ KgR K (U H G Z) kvs xs := by
  unfold entK at h
  split at h
  · next ks ds =>
    cases h
    cases r with
    | dct hq e rr => exact ⟨_, _, rfl, .inr ⟨_, U_le _ _ hq⟩, zip_ofG e rr⟩
  · cases r
    split at h
    · next e =>
      cases h
      obtain ⟨_, xs, hx, e1, rr⟩ := ok.ok _ _ e
      exact ⟨_, xs, rfl, .inl hx, .of e1 rr⟩
    · cases h
  · cases h
theorem keysOf_of {y : D} {u : V} {k : List Key} (r : Rep K (U H G Z) y u) (h : keysOf y = some k) : ∃ b, u = .ref b ∧ H b = some (.tup (k.map kV)) := by
  unfold keysOf at h
  split at h
  · cases r with
    | tup q rr =>
      split at h
      · cases h
      · next hl =>
        refine ⟨_, rfl, ?_⟩
        rw [← keys_of rr h]
        exact q.elim (fun q => U_le _ _ q) fun q => absurd (rr.length.trans q.1) hl
  · cases h
end
/-- {} to be changed, with keys of tuples -/
def dDictT : DTE := fun _ G Q => ∀ p, G p = none → Q (.ref p) (gupd G p (.dT []))
/-- d[k] -/
def dGetT : DR2 := fun x y G Q => match keysOf y, entT G x with
  | some k, some kvs => match valG kvs k with
    | some d => Q d G
    | none => False
  | _, _ => False
/-- d.get(k, x), keys of tuples or plain ones -/
def isDct (G : GHp) (x : D) : Bool := (entT G x).isSome || (entK G x).isSome
def dGet2Q (x y z : D) (G : GHp) (Q : DK) : Prop := match keysOf y with
  | some k => match entT G x with
    | some kvs => Q ((valG kvs k).getD z) G
    | none => False
  | none => match keyOf y with
    | some k => match entK G x with
      | some kvs => Q ((valG kvs k).getD z) G
      | none => False
    | none => False
def dGet2 (to ti tx : DTE) : DTE := fun δ G Q => to δ G fun x G1 => isDct G1 x = true ∧ ti δ G1 fun y G2 => tx δ G2 fun z G3 => dGet2Q x y z G3 Q
/-- d[k] = v -/
def dPutT (te to ti : DTE) : DTS := fun D δ G => te δ G fun v G1 => to δ G1 fun x G2 => ti δ G2 fun y G3 => match keysOf y with
  | some k => match x with
    | .ref a => match G3 a with
      | some (.dT kvs) => kvs.length < sizeLine ∧ D.nx δ (gupd G3 a (.dT (putG kvs k v)))
      | _ => False
    | _ => False
  | none => False
section
variable {X : Cx} {pos pos' tpos apos cpos : Pos} {o i e f : Expr} {to ti te tx : DTE} {W : WX}
theorem de_dictT : DE X (.Dict [] [] pos) dDictT :=
  PE.mono pe_dnewT fun σ H Q ⟨δ, G, Z, Q0, ok, rs, h, k⟩ => fun p hp => by
    have hg := (ok.free hp).1
    have kk : Kp H G Z (upd H p (.dT [])) (gupd G p (.dT [])) := Kp.laidG hp hg
    exact k _ _ _ _ (h p hg) kk (ok.laidG hp ⟨[], upd_same, rfl, .nil⟩) (.ref p)
theorem de_getT (hu : X.A.units + 64 < cLine) (ho : DE X o to) (hi : DE X i ti) (hs : NoSl i) : DE X (.Subscript o i pos) (dOp dGetT to ti) :=
  PE.mono (pe_dget (by omega) ho hi hs) fun σ H Q ⟨δ, G, Z, Q0, ok, rs, h, k⟩ =>
    ⟨δ, G, Z, _, ok, rs, h, fun x G1 v H1 h1 k1 ok1 r1 => ⟨δ, G1, Z, _, ok1, rs.mono k1.keep, h1, fun y G2 u H2 h2 k2 ok2 r2 => by
      have r1 := r1.mono k2.keep
      unfold dGetT at h2
      split at h2
      · next ky kvs e1 e2 =>
        obtain ⟨b, rfl, hb⟩ := keysOf_of r2 e1
        obtain ⟨a, xs, rfl, ha, rr⟩ := entT_of ok2 r1 e2
        split at h2
        · next d ed =>
          rcases rr.val (k := ky) with ⟨d', v, q1, q2, q3⟩ | ⟨q1, _⟩
          · rw [ed] at q1
            cases q1
            exact ⟨a, v, rfl, .inr ⟨xs, ky, b, ha, rfl, hb, q2.symm⟩, k _ _ _ _ h2 (k1.trans k2) ok2 q3⟩
          · rw [ed] at q1; cases q1
        · exact h2.elim
      · exact h2.elim⟩⟩
theorem de_get2 (hu : X.A.units + 64 < cLine) (ho : DE X o to) (hi : DE X e ti) (hx : DE X f tx) (m : M2 X o "get" apos e f cpos) : DE X (.Call (.Attribute o "get" apos) [e, f] [] cpos) (dGet2 to ti tx) :=
  PE.mono (pe_dget2 (by omega) ho hi hx m) fun σ H Q ⟨δ, G, Z, Q0, ok, rs, h, k⟩ =>
    ⟨δ, G, Z, _, ok, rs, h, fun x G1 v H1 h1 k1 ok1 r1 => by
      obtain ⟨hd, h1⟩ := h1
      have hv : ∃ a, v = .ref a ∧ IsD H1 a := by
        unfold isDct at hd
        cases e1 : entT G1 x with
        | some kvs =>
          obtain ⟨a, xs, rfl, ha, _⟩ := entT_of ok1 r1 e1
          exact ⟨a, rfl, .inr ⟨xs, ha⟩⟩
        | none =>
          cases e2 : entK G1 x with
          | some kvs =>
            obtain ⟨a, xs, rfl, ha, _⟩ := entK_of ok1 r1 e2
            exact ⟨a, rfl, .inl ⟨xs, ha⟩⟩
          | none => rw [e1, e2] at hd; cases hd
      obtain ⟨a, rfl, ha⟩ := hv
      refine ⟨a, rfl, ha, δ, G1, Z, _, ok1, rs.mono k1.keep, h1, fun y G2 u H2 h2 k2 ok2 r2 => ⟨δ, G2, Z, _, ok2, rs.mono (k1.trans k2).keep, h2, fun z G3 w H3 h3 k3 ok3 r3 => ?_⟩⟩
      have q1 := r1.mono (k2.trans k3).keep
      have q2 := r2.mono k3.keep
      have kk := k1.trans (k2.trans k3)
      unfold dGet2Q at h3
      split at h3
      · next ky e1 =>
        obtain ⟨b, rfl, hb⟩ := keysOf_of q2 e1
        split at h3
        · next kvs e2 =>
          obtain ⟨a', xs, ea, ha', rr⟩ := entT_of ok3 q1 e2
          cases ea
          refine ⟨valV xs ky, .inr ⟨xs, ky, b, ha', rfl, hb, rfl⟩, ?_⟩
          rcases rr.val (k := ky) with ⟨d', v', p1, p2, p3⟩ | ⟨p1, p2⟩
          · rw [p1] at h3; rw [p2]; exact k _ _ _ _ h3 kk ok3 p3
          · rw [p1] at h3; rw [p2]; exact k _ _ _ _ h3 kk ok3 r3
        · exact h3.elim
      · split at h3
        · next ky e1 =>
          have eu := key_of q2 e1
          subst eu
          split at h3
          · next kvs e2 =>
            obtain ⟨a', xs, ea, ha', rr⟩ := entK_of ok3 q1 e2
            cases ea
            refine ⟨valV xs ky, .inl ⟨xs, ky, ha', rfl, rfl⟩, ?_⟩
            rcases rr.val (k := ky) with ⟨d', v', p1, p2, p3⟩ | ⟨p1, p2⟩
            · rw [p1] at h3; rw [p2]; exact k _ _ _ _ h3 kk ok3 p3
            · rw [p1] at h3; rw [p2]; exact k _ _ _ _ h3 kk ok3 r3
          · exact h3.elim
        · exact h3.elim⟩
theorem ds_putT (hu : X.A.units + 64 < cLine) (he : DE X e te) (ho : DE X o to) (hi : DE X i ti) (hs : swapsWith e (some (.Subscript o i pos')) pos.line X.env = pure false := by rfl) :
    DS X W (.Assign [.Subscript o i pos'] e pos) (dPutT te to ti) :=
  PS.mono (ps_dput (by omega) ho hi he hs) fun E σ H ⟨δ, G, Z, D0, ok, rs, h, l⟩ =>
    ⟨δ, G, Z, _, ok, rs, h, fun v G1 v' H1 h1 k1 ok1 r1 => ⟨δ, G1, Z, _, ok1, rs.mono k1.keep, h1, fun x G2 x' H2 h2 k2 ok2 r2 => ⟨δ, G2, Z, _, ok2, rs.mono (k1.trans k2).keep, h2, fun y G3 y' H3 h3 k3 ok3 r3 => by
      have q1 := r1.mono (k2.trans k3).keep
      have q2 := r2.mono k3.keep
      have kk := k1.trans (k2.trans k3)
      split at h3
      · next ky eky =>
        obtain ⟨b, rfl, hb⟩ := keysOf_of r3 eky
        split at h3
        · cases q2
          split at h3
          · next kvs ea =>
            obtain ⟨hz, xs, hx, e1, rr⟩ := ok3.ok _ _ ea
            have hw : Kp H3 G3 Z (upd H3 _ (.dT (putK xs ky v'))) (gupd G3 _ (.dT (putG kvs ky v))) := Kp.wrote ea hz
            have hr := ((KgR.of e1 rr).put (k := ky) q1).mono hw.keep
            have hl : xs.length = kvs.length := by have := congrArg List.length e1; simpa using this
            exact ⟨_, _, rfl, .inr ⟨xs, ky, b, hx, rfl, hb, by rw [hl]; exact h3.1, rfl⟩, (l.after kk).nx _ _ _ _ h3.2 hw (ok3.wrote ea ⟨_, upd_same, hr.keys, hr.reps⟩) (rs.mono (kk.trans hw).keep)⟩
          · exact h3.elim
        · exact h3.elim
      · exact h3.elim⟩⟩⟩
end
/-! for k in d, list(d) -/
section
variable {K : PySem.W.Frag} {H : Hp} {G : GHp} {Z : Addr → Bool}
theorem plain_tup {q : Addr} {xs : List V} (ok : Ok K H G Z) (h : H q = some (.tup xs)) : U H G Z q = some (.tup xs) := by
  refine U_of ?_ ?_ h
  · cases e : G q with
    | none => rfl
    | some o =>
      obtain ⟨_, g⟩ := ok.ok q o e
      cases o with
      | lst ds => obtain ⟨_, h1, _⟩ := g; rw [h] at h1; cases h1
      | dK ds => obtain ⟨_, h1, _⟩ := g; rw [h] at h1; cases h1
      | dT ds => obtain ⟨_, h1, _⟩ := g; rw [h] at h1; cases h1
      | ins C fs => obtain ⟨_, _, h1, _⟩ := g; rw [h] at h1; cases h1
      | exo C fs => obtain ⟨_, _, _, h1, _⟩ := g; rw [h] at h1; cases h1
  · cases e : Z q with
    | false => rfl
    | true =>
      obtain ⟨_, h1⟩ := ok.hid q e
      rw [h] at h1; cases h1
theorem reps_keys {W : Hp} : ∀ k : List Key, Reps K W (k.map keyD) (k.map kV)
  | [] => .nil
  | a :: r => .cons (rep_key a) (reps_keys r)
def keyT (k : List Key) : D := .tup (k.map keyD)
theorem rep_keyT {q : Addr} {k : List Key} (ok : Ok K H G Z) (h : H q = some (.tup (k.map kV))) : Rep K (U H G Z) (keyT k) (.ref q) := .tup (.inl (plain_tup ok h)) (reps_keys k)
theorem it_keysT {a : Addr} {o : Obj} {xs : List (List Key × V)} {ks : List (List Key)} (h : U H G Z a = some (.frz o (.dT xs))) (e : xs.map (·.1) = ks) : ItOk K (Itkt a o xs) (ks.map keyT) none H G Z := by
  subst e
  refine ⟨fun i d H' G' e k ok _ => ?_, fun H' G' k ok _ => ?_⟩
  · have h' : H' a = some (.frz o (.dT xs)) := U_le _ _ (k.keep _ _ h)
    rw [List.map_map, List.getElem?_map] at e
    cases ex : xs[i]? with
    | none => rw [ex] at e; cases e
    | some p =>
      rw [ex] at e
      cases e
      have hi := (List.getElem?_eq_some_iff.mp ex).1
      refine ⟨⟨h', hi⟩, fun x H'' hy => ?_⟩
      obtain ⟨rfl, k2, v, q, e1, rfl, hq⟩ := hy
      rw [ex] at e1; cases e1
      exact ⟨.refl, ok, rep_keyT ok hq⟩
  · exact ⟨U_le _ _ (k.keep _ _ h), by rw [List.length_map, List.length_map]; exact Nat.le_refl _⟩
theorem reps_isKeys (ok : Ok K H G Z) : ∀ {kvs : List (List Key × D)} {xs : List (List Key × V)} {bs : List Addr}, KgR K (U H G Z) kvs xs → IsKeys H xs bs → Reps K (U H G Z) (kvs.map fun kv => keyT kv.1) (bs.map V.ref)
  | _, _, _, .nil, .nil => .nil
  | p :: _, q :: _, b :: _, .cons h t, .cons g r => by
    refine .cons ?_ (reps_isKeys ok t r)
    show Rep K (U H G Z) (keyT p.1) (.ref b)
    rw [← h.1]
    exact rep_keyT ok g
end
def dKeysTI (te : DTE) : DTI := fun δ G R => te δ G fun x G1 => match x with
  | .dcT ks _ => R (ks.map keyT) none G1
  | _ => False
def dListTR (m : Bool) (x : D) (G : GHp) (Q : DK) : Prop := match entT G x with
  | some kvs => lcEnd m (kvs.map fun kv => keyT kv.1) G Q
  | none => False
section
variable {X : Cx} {tg e : Expr} {te : DTE} {W : WX} {st : Stmt} {t : DTS}
theorem di_keysT (he : DE X e te) : DI X tg e (dKeysTI te) :=
  PI.mono (pi_keys he) fun σ H R ⟨δ, G, Z, Q0, ok, rs, h, k⟩ => ⟨δ, G, Z, _, ok, rs, h, fun x G1 v H1 h1 k1 ok1 r1 => by
    cases r1 with
    | dcT hq e rr => exact ⟨_, _, rfl, .inr ⟨_, U_le _ _ hq, k _ _ _ _ _ h1 k1 ok1 fun Z' z1 z2 => it_keysT (U_ext z2 _ _ hq) e⟩⟩
    | _ => exact False.elim h1⟩
theorem dcall_listT (hc : X.calm = true) (m : Bool) : DCall X (.type "list") (dR1 (dListTR m)) :=
  dcall1 (call_list_dT hc) fun x v H G Z Q Q0 ok r h k => by
    unfold dListTR at h
    split at h
    · next kvs e =>
      obtain ⟨a, xs, rfl, ha, rr⟩ := entT_of ok r e
      exact ⟨a, xs, rfl, ha, fun p bs hp hb => lcEnd_of ok hp (reps_isKeys ok rr hb) h k⟩
    · exact h.elim
def dFrzT (t : DTS) : DTS := fun E δ G => ∃ (a : Addr) (kvs : List (List Key × D)) (G' : GHp) (δ' : DSt), G = gupd G' a (.dT kvs) ∧ G' a = none ∧ FrzSt a (.dcT (kvs.map (·.1)) (kvs.map (·.2))) δ δ' ∧ t E δ' G'
theorem ds_frzT (h : DS X W st t) : DS X W st (dFrzT t) :=
  PS.mono (ps_lockP h) fun E σ H ⟨δ, G, Z, D0, ok, rs, ⟨a, kvs, G', δ', e, ea, fs, h⟩, l⟩ => by
    subst e
    obtain ⟨hz, xs, hx, e1, rr⟩ := ok.ok a _ gupd_same
    refine ⟨a, _, hx, trivial, fun od => ?_⟩
    have k : ∀ b o, U H (gupd G' a (.dT kvs)) Z b = some o → U (upd H a (.frz od (.dT xs))) G' Z b = some o := fun b o e => by
      obtain ⟨h1, h2, h3⟩ := U_some e
      have hne : b ≠ a := fun q => by rw [q, gupd_same] at h1; cases h1
      exact U_of (by rw [gupd_ne hne] at h1; exact h1) h2 (by rw [upd_ne hne]; exact h3)
    have kk : Kp H (gupd G' a (.dT kvs)) Z (upd H a (.frz od (.dT xs))) G' := ⟨k, fun b o z e => by
      have hne : b ≠ a := fun q => by rw [q, hz] at z; cases z
      rw [upd_ne hne]; exact e⟩
    have ok' : Ok X.K (upd H a (.frz od (.dT xs))) G' Z := by
      refine ⟨fun b o e => ?_, fun b z => ?_⟩
      · have hne : b ≠ a := fun q => by rw [q, ea] at e; cases e
        obtain ⟨z, g⟩ := ok.ok b o (by rw [gupd_ne hne]; exact e)
        exact ⟨z, g.mono k (upd_ne hne)⟩
      · have hne : b ≠ a := fun q => by rw [q, hz] at z; cases z
        rw [upd_ne hne]; exact ok.hid b z
    have hr : Rep X.K (U (upd H a (.frz od (.dT xs))) G' Z) (.dcT (kvs.map (·.1)) (kvs.map (·.2))) (.ref a) := .dcT (U_of ea hz upd_same) e1 (rr.mono k)
    exact ⟨δ', G', Z, D0, ok', fs.rep k hr rs, h, l.after kk⟩
end
/-! sorted(a list of pairs of whole numbers) -/
def pairD (p : Int × Int) : D := .tup [.int p.1, .int p.2]
def pairsOf : List D → Option (List (Int × Int))
  | [] => some []
  | .tup [.int i, .int j] :: r => (pairsOf r).map ((i, j) :: ·)
  | _ :: _ => none
theorem pairsOf_map : ∀ ps : List (Int × Int), pairsOf (ps.map pairD) = some ps
  | [] => rfl
  | p :: r => by simp [pairsOf, pairD, pairsOf_map r]
theorem pairsOf_eq : ∀ {ds : List D} {ps : List (Int × Int)}, pairsOf ds = some ps → ds = ps.map pairD
  | [], ps, e => by simp [pairsOf] at e; subst e; rfl
  | d :: r, ps, e => by
    unfold pairsOf at e
    split at e
    · next h => cases h
    · next i j r' h =>
      cases h
      cases q : pairsOf r with
      | none => rw [q] at e; simp at e
      | some qs =>
        rw [q] at e
        simp at e
        subst e
        rw [List.map_cons, ← pairsOf_eq q]
        rfl
    · cases e
def dSortedP (m : Bool) (x : D) (G : GHp) (Q : DK) : Prop := match (lsOf G x).bind pairsOf with
  | some ps => ∀ qs : List (Int × Int), qs.Perm ps → qs.Pairwise (fun a b => SrtO.lexB b a = false) → lcEnd m (qs.map pairD) G Q
  | none => False
def pairAt (H : Hp) (v : V) : Int × Int := match v with
  | .ref t => match H t with
    | some (.tup [.int i, .int j]) => (i, j)
    | _ => (0, 0)
  | _ => (0, 0)
theorem pairAt_of {K : PySem.W.Frag} {H : Hp} {G : GHp} {Z : Addr → Bool} {p : Int × Int} {v : V} (r : Rep K (U H G Z) (pairD p) v) : pairAt H v = p ∧ ∃ t, v = .ref t ∧ H t = some (.tup [.int p.1, .int p.2]) := by
  cases r with
  | tup q rr =>
    cases rr with
    | cons a rr =>
      cases rr with
      | cons b rr =>
        cases rr
        cases a
        cases b
        have h := q.elim (fun q => U_le _ _ q) fun q => absurd q.1 (by decide : ¬ (2 : Nat) = 3)
        refine ⟨?_, _, rfl, h⟩
        show (match H _ with
          | some (.tup [.int i, .int j]) => (i, j)
          | _ => (0, 0)) = p
        rw [h]
theorem reps_pairs {K : PySem.W.Frag} {H : Hp} {G : GHp} {Z : Addr → Bool} : ∀ {ps : List (Int × Int)} {vs : List V}, Reps K (U H G Z) (ps.map pairD) vs → vs.map (pairAt H) = ps ∧ ∀ v ∈ vs, Rep K (U H G Z) (pairD (pairAt H v)) v ∧ ∃ t, v = .ref t ∧ H t = some (.tup [.int (pairAt H v).1, .int (pairAt H v).2])
  | [], _, .nil => ⟨rfl, fun v hv => by cases hv⟩
  | p :: r, v :: t, .cons h q => by
    obtain ⟨h1, h2⟩ := reps_pairs q
    obtain ⟨e, t0, e1, e2⟩ := pairAt_of h
    refine ⟨by rw [List.map_cons, h1, e], fun w hw => ?_⟩
    rcases List.mem_cons.mp hw with z | z
    · subst z
      rw [e]
      exact ⟨h, t0, e1, e2⟩
    · exact h2 w z
theorem reps_of_all {K : PySem.W.Frag} {W : Hp} {f : V → D} : ∀ {vs : List V}, (∀ v ∈ vs, Rep K W (f v) v) → Reps K W (vs.map f) vs
  | [], _ => .nil
  | v :: r, h => .cons (h v List.mem_cons_self) (reps_of_all fun w hw => h w (List.mem_cons_of_mem _ hw))
theorem dcall_sortedP {X : Cx} (m : Bool) : DCall X (.builtin "sorted") (dR1 (dSortedP m)) :=
  dcall1 cr_sortedPO fun x v H G Z Q Q0 ok r h k => by
    unfold dSortedP at h
    split at h
    · next ps e =>
      cases el : lsOf G x with
      | none => rw [el] at e; simp at e
      | some ds =>
        rw [el] at e
        simp only [Option.bind_some] at e
        obtain ⟨a, vs, rfl, ha, rv⟩ := lsOf_of ok r el
        rw [pairsOf_eq e] at rv
        obtain ⟨h1, h2⟩ := reps_pairs rv
        refine ⟨a, vs, pairAt H, rfl, SqL.of ha, fun w hw => (h2 w hw).2, fun ys p s1 s2 hp => ?_⟩
        have hq : (ys.map (pairAt H)).Perm ps := by rw [← h1]; exact s2.perm.map _
        have hs : (ys.map (pairAt H)).Pairwise (fun a b => SrtO.lexB b a = false) := List.pairwise_map.mpr s1
        have hr : Reps X.K (U H G Z) ((ys.map (pairAt H)).map pairD) ys := by
          rw [List.map_map]
          exact reps_of_all fun w hw => (h2 w (s2.perm.mem_iff.mp hw)).1
        exact lcEnd_of ok hp hr (h _ hq hs) k
    · exact h.elim
end DL
set_option Elab.async false
set_option linter.all false
set_option maxRecDepth 100000
set_option maxHeartbeats 2000000
/-! DL, part 28: comprehensions with two fors. -/
namespace DL
open PySem PySem.Spec L2 PyProof.Rows

/-- the inner walk -/
def dLcI (gd : Gd) (g : Tgt) (tt : DTT) (te : DTE) (δw : DSt) : List D → List D → GHp → (List D → GHp → Prop) → Prop
  | [], acc, G, N => gd.ok G ∧ N acc G
  | x :: xs, acc, G, N => gd.ok G ∧ match g.set x δw with
    | some δ' => tt δ' G fun b G1 => dIte b (te δ' G1 fun y G2 => acc.length < sizeLine ∧ dLcI gd g tt te δw xs (acc ++ [y]) G2 N) (dLcI gd g tt te δw xs acc G1 N)
    | none => False
def dLcO (m : Bool) (gd : Gd) (g : Tgt) (tt : DTT) (ti1 : DTI) (g1 : Tgt) (tt1 : DTT) (te : DTE) (vs1 : List Nat) (δw : DSt) : List D → List D → GHp → DK → Prop
  | [], acc, G, Q => gd.ok G ∧ lcEnd m acc G Q
  | x :: xs, acc, G, Q => gd.ok G ∧ match g.set x δw with
    | some δ' => tt δ' G fun b G1 => dIte b (ti1 δ' G1 fun its gd1 G2 => dLcI gd1 g1 tt1 te (dWipe δ' vs1) its acc G2 fun acc' G3 => dLcO m gd g tt ti1 g1 tt1 te vs1 δw xs acc' G3 Q) (dLcO m gd g tt ti1 g1 tt1 te vs1 δw xs acc G1 Q)
    | none => False
def dLc2 (m : Bool) (ti : DTI) (g : Tgt) (tt : DTT) (ti1 : DTI) (g1 : Tgt) (tt1 : DTT) (te : DTE) (vs vs1 : List Nat) : DTE := fun δ G Q => ti δ G fun its gd G1 => dLcO m gd g tt ti1 g1 tt1 te vs1 (dWipe δ vs) its [] G1 Q
/-- a comprehension's list on its way -/
structure LcS (K : PySem.W.Frag) (H1 : Hp) (G1 : GHp) (Z : Addr → Bool) (p : Addr) (acc : List V) (dacc : List D) (G : GHp) (H : Hp) : Prop where
  kp : Kp H1 G1 (zAt Z p) H G
  ok : Ok K H G (zAt Z p)
  at_ : H p = some (.lst acc)
  rp : Reps K (U H G (zAt Z p)) dacc acc
section
variable {K : PySem.W.Frag} {H1 H H' : Hp} {G1 G G' : GHp} {Z : Addr → Bool} {p : Addr} {acc : List V} {dacc : List D}
theorem LcS.go (s : LcS K H1 G1 Z p acc dacc G H) (k : Kp H G (zAt Z p) H' G') (ok : Ok K H' G' (zAt Z p)) : LcS K H1 G1 Z p acc dacc G' H' :=
  ⟨s.kp.trans k, ok, k.hid _ _ zAt_same s.at_, s.rp.mono k.keep⟩
theorem nzAt {a : Addr} (z : zAt Z p a = false) : a ≠ p ∧ Z a = false := by
  by_cases e : a = p
  · subst e; rw [zAt_same] at z; cases z
  · rw [zAt_ne e] at z; exact ⟨e, z⟩
theorem up_acc {xs : List V} : ∀ a o, U H G (zAt Z p) a = some o → U (upd H p (.lst xs)) G (zAt Z p) a = some o := fun a o e => by
  obtain ⟨e1, e2, e3⟩ := U_some e
  exact U_of e1 e2 (by rw [upd_ne (nzAt e2).1]; exact e3)
theorem LcS.snoc (s : LcS K H1 G1 Z p acc dacc G H) (hp : H1 p = none) {d : D} {v : V} (r : Rep K (U H G (zAt Z p)) d v) : LcS K H1 G1 Z p (acc ++ [v]) (dacc ++ [d]) G (upd H p (.lst (acc ++ [v]))) where
  kp := ⟨fun a o e => up_acc _ _ (s.kp.keep a o e), fun a o z e => by rw [upd_ne (ne_of_none e hp)]; exact s.kp.hid a o z e⟩
  ok := ⟨fun a o e => by
    obtain ⟨z, gk⟩ := s.ok.ok a o e
    exact ⟨z, gk.mono up_acc (upd_ne (nzAt z).1)⟩, fun a z => by
    by_cases e : a = p
    · subst e; exact ⟨_, upd_same⟩
    · rw [upd_ne e]; exact s.ok.hid a z⟩
  at_ := upd_same
  rp := (s.rp.mono up_acc).append (.cons (r.mono up_acc) .nil)
theorem LcS.new (ok : Ok K H1 G1 Z) (hp : H1 p = none) : LcS K H1 G1 Z p [] [] G1 (upd H1 p (.lst [])) where
  kp := ⟨fun a o e => by
    obtain ⟨e1, e2, e3⟩ := U_some e
    exact U_of e1 e2 (by rw [upd_ne (ne_of_none e3 hp)]; exact e3), fun a o z e => by rw [upd_ne (ne_of_none e hp)]; exact e⟩
  ok := ⟨fun a o e => by
    obtain ⟨z, gk⟩ := ok.ok a o e
    have ne : a ≠ p := fun q => by rw [q, (ok.free hp).1] at e; cases e
    refine ⟨by rw [zAt_ne ne]; exact z, gk.mono (fun b u eu => ?_) (upd_ne ne)⟩
    obtain ⟨e1, e2, e3⟩ := U_some eu
    have nb := ne_of_none e3 hp
    exact U_of e1 (by rw [zAt_ne nb]; exact e2) (by rw [upd_ne nb]; exact e3), fun a z => by
    by_cases e : a = p
    · subst e; exact ⟨_, upd_same⟩
    · rw [zAt_ne e] at z; rw [upd_ne e]; exact ok.hid a z⟩
  at_ := upd_same
  rp := .nil
theorem LcS.fin {m : Bool} {Q : VK} {Q0 : DK} {H0 : Hp} {G0 : GHp} (ok1 : Ok K H1 G1 Z) (hp : H1 p = none) (s : LcS K H1 G1 Z p acc dacc G H) (k1 : Kp H0 G0 Z H1 G1) (h : lcEnd m dacc G Q0)
    (k : ∀ d G' v H', Q0 d G' → Kp H0 G0 Z H' G' → Ok K H' G' Z → Rep K (U H' G' Z) d v → Q v H') : Q (.ref p) H := by
  obtain ⟨k2, ok2, hacc, racc⟩ := s
  have free := ok1.free hp
  have g2p : G p = none := by
    cases eg : G p with
    | none => rfl
    | some o => have := (ok2.ok p o eg).1; rw [zAt_same] at this; cases this
  have up : ∀ a o, U H G (zAt Z p) a = some o → U H G Z a = some o := fun a o e => by
    obtain ⟨e1, e2, e3⟩ := U_some e
    exact U_of e1 (nzAt e2).2 e3
  have kk : Kp H1 G1 Z H G := ⟨fun a o e => by
    obtain ⟨e1, e2, e3⟩ := U_some e
    exact up _ _ (k2.keep a o (U_of e1 (by rw [zAt_ne (ne_of_none e3 hp)]; exact e2) e3)), fun a o z e => k2.hid a o (by rw [zAt_ne (ne_of_none e hp)]; exact z) e⟩
  have okk : Ok K H G Z := ⟨fun a o e => by
    obtain ⟨z, gk⟩ := ok2.ok a o e
    exact ⟨(nzAt z).2, gk.mono up rfl⟩, fun a z => ok2.hid a (by unfold zAt; split <;> simp [z])⟩
  have hup : U H G Z p = some (.lst acc) := U_of g2p free.2 hacc
  cases m with
  | false => exact k _ _ _ _ h (k1.trans kk) okk (.lst hup (racc.mono up))
  | true =>
    have h3 := h p g2p
    have nop : ∀ a o, U H G (zAt Z p) a = some o → U H (gupd G p (.lst dacc)) Z a = some o := fun a o e => by
      obtain ⟨e1, e2, e3⟩ := U_some e
      obtain ⟨n1, n2⟩ := nzAt e2
      exact U_of (by rw [gupd_ne n1]; exact e1) n2 e3
    have k3 : Kp H1 G1 Z H (gupd G p (.lst dacc)) := ⟨fun a o e => by
      obtain ⟨e1, e2, e3⟩ := U_some e
      exact nop _ _ (k2.keep a o (U_of e1 (by rw [zAt_ne (ne_of_none e3 hp)]; exact e2) e3)), kk.hid⟩
    refine k _ _ _ _ h3 (k1.trans k3) ⟨fun a o e => ?_, okk.hid⟩ (.ref p)
    by_cases ea : a = p
    · subst ea
      rw [gupd_same] at e; cases e
      exact ⟨free.2, acc, hacc, racc.mono nop⟩
    · rw [gupd_ne ea] at e
      obtain ⟨z, gk⟩ := ok2.ok a o e
      exact ⟨(nzAt z).2, gk.mono nop rfl⟩
end
theorem lc2_split {K : PySem.W.Frag} {m : Bool} {ti ti1 : DTI} {g g1 : Tgt} {tt tt1 : DTT} {te : DTE} {vs vs1 : List Nat} {σ : L2.St} {H : Hp} {Q : VK} (hs : ∀ i ∈ g.slots, i ∈ vs) (hs1 : ∀ i ∈ g1.slots, i ∈ vs1) (h : cE K (dLc2 m ti g tt ti1 g1 tt1 te vs vs1) σ H Q) :
    tLc2 (cI K ti) (g.tg K) (cT K tt) (cI K ti1) (g1.tg K) (cT K tt1) (cE K te) vs vs1 σ H Q := by
  obtain ⟨δ, G, Z, Q0, ok, rs, h, k⟩ := h
  refine ⟨δ, G, Z, _, ok, rs, h, fun its gd G1 J H1 q k1 ok1 it p hp => ?_⟩
  have it := it (zAt Z p) (fun a z => by by_cases e : a = p <;> simp [zAt, e, z]) (fun a z => zAt_ne (fun e => z (by rw [e]; exact hp)))
  have rsw : RepSt K (U H1 G1 (zAt Z p)) (dWipe δ vs) (wipe σ vs) := ((rs.mono k1.keep).mono (fun a o e => by
    obtain ⟨e1, e2, e3⟩ := U_some e
    exact U_of e1 (by rw [zAt_ne (ne_of_none e3 hp)]; exact e2) e3)).wipe vs
  refine ⟨fun i n H2 => ∃ acc dacc G2, n + i = its.length ∧ LcS K H1 G1 Z p acc dacc G2 H2 ∧ dLcO m gd g tt ti1 g1 tt1 te vs1 (dWipe δ vs) (its.drop i) dacc G2 Q0,
    ⟨its.length, [], [], G1, rfl, .new ok1 hp, q⟩, ?_⟩
  rintro i n H2 ⟨acc, dacc, G2, hn, S, h2⟩
  cases e : its.drop i with
  | nil =>
    left
    rw [e] at h2
    have hi : its.length ≤ i := by
      have := congrArg List.length e
      simp at this
      omega
    have hil : i = its.length := by omega
    subst hil
    exact ⟨it.stop _ _ S.kp.q S.ok h2.1, S.fin ok1 hp k1 h2.2 k⟩
  | cons x r =>
    right
    rw [e] at h2
    obtain ⟨ex, er⟩ := List.drop_cons_of e
    obtain ⟨hgo, hy⟩ := it.go i x _ _ ex S.kp.q S.ok h2.1
    have hlt : i < its.length := by
      have := congrArg List.length e
      simp at this
      omega
    refine ⟨hgo, fun H' => ∃ n', n' < n ∧ ∃ acc dacc G2, n' + (i + 1) = its.length ∧ LcS K H1 G1 Z p acc dacc G2 H' ∧ dLcO m gd g tt ti1 g1 tt1 te vs1 (dWipe δ vs) (its.drop (i + 1)) dacc G2 Q0, fun _ z => z, fun v H3 y => ?_⟩
    obtain ⟨k3, ok3, r3⟩ := hy v H3 y
    have S3 := S.go k3 ok3
    have h3 := h2.2
    split at h3
    · next δ' es =>
      refine g.run U_le r3 (rsw.mono S3.kp.keep) es fun σ' rs' hw => ⟨(hw vs hs).trans (wipe_sub fun _ z => z), ?_⟩
      refine ⟨δ', G2, zAt Z p, _, ok3, rs', h3, fun b G4 H4 q4 k4 ok4 => ?_⟩
      have S4 := S3.go k4 ok4
      have rs4 := rs'.mono k4.keep
      cases b with
      | false =>
        have q4 := dIte_f q4
        exact iteF ⟨n - 1, by omega, acc, dacc, G4, by omega, S4, by rw [er]; exact q4⟩
      | true =>
        have q4 := dIte_t q4
        refine iteT ⟨δ', G4, zAt Z p, _, ok4, rs4, q4, fun its1 gd1 G5 J1 H5 q5 k5 ok5 it1 => ?_⟩
        have it1 := it1 (zAt Z p) (fun _ z => z) (fun _ _ => rfl)
        have S5 := S4.go k5 ok5
        have rs5 := (rs4.mono k5.keep).wipe vs1
        refine ⟨fun j kk H6 => ∃ acc dacc G6, kk + j = its1.length ∧ LcS K H1 G1 Z p acc dacc G6 H6 ∧ Kq H5 G5 (zAt Z p) H6 G6 ∧ dLcI gd1 g1 tt1 te (dWipe δ' vs1) (its1.drop j) dacc G6 fun acc' G3 => dLcO m gd g tt ti1 g1 tt1 te vs1 (dWipe δ vs) r acc' G3 Q0,
          ⟨its1.length, acc, dacc, G5, rfl, S5, ⟨fun _ _ z => z⟩, q5⟩, ?_⟩
        rintro j kk H6 ⟨acc6, dacc6, G6, hn6, S6, kq6, h6⟩
        cases e6 : its1.drop j with
        | nil =>
          left
          rw [e6] at h6
          have hj : its1.length ≤ j := by
            have := congrArg List.length e6
            simp at this
            omega
          have hjl : j = its1.length := by omega
          subst hjl
          exact ⟨it1.stop _ _ kq6 S6.ok h6.1, n - 1, by omega, acc6, dacc6, G6, by omega, S6, by rw [er]; exact h6.2⟩
        | cons x6 r6 =>
          right
          rw [e6] at h6
          obtain ⟨ex6, er6⟩ := List.drop_cons_of e6
          obtain ⟨hgo6, hy6⟩ := it1.go j x6 _ _ ex6 kq6 S6.ok h6.1
          have hlt6 : j < its1.length := by
            have := congrArg List.length e6
            simp at this
            omega
          refine ⟨hgo6, fun H' => ∃ k', k' < kk ∧ ∃ acc dacc G6, k' + (j + 1) = its1.length ∧ LcS K H1 G1 Z p acc dacc G6 H' ∧ Kq H5 G5 (zAt Z p) H' G6 ∧ dLcI gd1 g1 tt1 te (dWipe δ' vs1) (its1.drop (j + 1)) dacc G6 fun acc' G3 => dLcO m gd g tt ti1 g1 tt1 te vs1 (dWipe δ vs) r acc' G3 Q0, fun _ z => z, fun v7 H7 y7 => ?_⟩
          obtain ⟨k7, ok7, r7⟩ := hy6 v7 H7 y7
          have S7 := S6.go k7 ok7
          have kq7 : Kq H5 G5 (zAt Z p) H7 G6 := ⟨fun a o z => k7.keep a o (kq6.keep a o z)⟩
          have h7 := h6.2
          split at h7
          · next δ7 es7 =>
            refine g1.run U_le r7 (rs5.mono kq7.keep) es7 fun σ7 rs7 hw7 => ⟨(hw7 vs1 hs1).trans (wipe_sub fun _ z => z), ?_⟩
            refine ⟨δ7, G6, zAt Z p, _, ok7, rs7, h7, fun b8 G8 H8 q8 k8 ok8 => ?_⟩
            have S8 := S7.go k8 ok8
            have kq8 : Kq H5 G5 (zAt Z p) H8 G8 := ⟨fun a o z => k8.keep a o (kq7.keep a o z)⟩
            cases b8 with
            | false =>
              have q8 := dIte_f q8
              exact iteF ⟨kk - 1, by omega, acc6, dacc6, G8, by omega, S8, kq8, by rw [er6]; exact q8⟩
            | true =>
              have q8 := dIte_t q8
              refine iteT ⟨δ7, G8, zAt Z p, _, ok8, rs7.mono k8.keep, q8, fun yd G9 yv H9 q9 k9 ok9 r9 => ?_⟩
              have S9 := S8.go k9 ok9
              have kq9 : Kq H5 G5 (zAt Z p) H9 G9 := ⟨fun a o z => k9.keep a o (kq8.keep a o z)⟩
              exact ⟨acc6, S9.at_, by rw [← S9.rp.length]; exact q9.1, kk - 1, by omega, acc6 ++ [yv], dacc6 ++ [yd], G9, by omega, S9.snoc hp r9, ⟨fun a o z => up_acc _ _ (kq9.keep a o z)⟩, by rw [er6]; exact q9.2⟩
          · exact h7.elim
    · exact h3.elim
section
variable {X : Cx} {W : WX}
theorem de_lc2 (m : Bool) {elt tg iter tg1 iter1 : Expr} {ifs ifs1 : List Expr} {scope : Scope} {own : List (Str × Nat)} {vs1 : List Nat} {pos : Pos} {ti ti1 : DTI} {g g1 : Tgt} {tt tt1 : DTT} {te : DTE} (hc : X.calm = true) (hN : X.N.Nodup) (hi : DI X tg iter ti) (ok : BlkOk X.N X.env.scope scope own) (hv : ∀ i ∈ vs1, i ∈ own.map (·.2))
    (hg : ∀ (s : Shared) (H : Hp) (C : Addr) (cl : List (Str × Addr)) (fp : List Addr), PG (X.blk s H scope (compEnvC scope cl C X.env) fp) tg (g.tg X.K)) (ht : ∀ (s : Shared) (H : Hp) (C : Addr) (cl : List (Str × Addr)) (fp : List Addr), DTs (X.blk s H scope (compEnvC scope cl C X.env) fp) ifs tt)
    (hi1 : ∀ (s : Shared) (H : Hp) (C : Addr) (cl : List (Str × Addr)) (fp : List Addr), DI (X.blk s H scope (compEnvC scope cl C X.env) fp) tg1 iter1 ti1)
    (hg1 : ∀ (s : Shared) (H : Hp) (C : Addr) (cl : List (Str × Addr)) (fp : List Addr), PG (X.blk s H scope (compEnvC scope cl C X.env) fp) tg1 (g1.tg X.K)) (ht1 : ∀ (s : Shared) (H : Hp) (C : Addr) (cl : List (Str × Addr)) (fp : List Addr), DTs (X.blk s H scope (compEnvC scope cl C X.env) fp) ifs1 tt1)
    (he : ∀ (s : Shared) (H : Hp) (C : Addr) (cl : List (Str × Addr)) (fp : List Addr), DE (X.blk s H scope (compEnvC scope cl C X.env) fp) elt te) (hsl : ∀ i ∈ g.slots, i ∈ own.map (·.2)) (hsl1 : ∀ i ∈ g1.slots, i ∈ vs1) (hs : ∀ x, foldedSetIterable iter X.env x = pure x := by intro _; rfl) (hs1 : ∀ env x, foldedSetIterable iter1 env x = pure x := by intro _ _; rfl) :
    DE X (.ListComp elt [⟨tg, iter, ifs, 0⟩, ⟨tg1, iter1, ifs1, 0⟩] scope pos) (dLc2 m ti g tt ti1 g1 tt1 te (own.map (·.2)) vs1) :=
  PE.mono (pe_lc2 (wi1 := cI X.K ti1) (tt := cT X.K tt) (tt1 := cT X.K tt1) (te := cE X.K te) hc hN hi ok hv hg ht hi1 hg1 ht1 he hs hs1) fun σ H Q h => lc2_split hsl hsl1 h
end
/-! zip of two tuples -/
def dZipT (ta tb : DTE) : DTI := fun δ G R => ta δ G fun x G1 => tb δ G1 fun y G2 => ∃ as bs, x = .tup as ∧ y = .tup bs ∧ R (zipD as bs) none G2
section
variable {X : Cx} {tg e e2 : Expr} {te tb : DTE} {p pos tpos : Pos} {elts : List Expr} {kk : Nat}
theorem di_zipT (hg : Gl X "zip") (hm : X.mg "zip" = none) (he : DE X e te) (he2 : DE X e2 tb)
    (hs : starEach [e, e2] X.env = (false, eval e X.env) :: starEach [e2] X.env := by rfl) (hs2 : starEach [e2] X.env = (false, eval e2 X.env) :: starEach [] X.env := by rfl) (hpl : (backTo pos (starEach [e2] X.env)).any (·.1) = false := by rfl) :
    DI X (.Tuple elts kk tpos) (.Call (.Name "zip" p) [e, e2] [] pos) (dZipT te tb) :=
  PI.mono (RZ.pi_zipA hg hm (pa_cons he (pa_cons he2 pa_nil hs2) hs) hs hpl) fun σ H R ⟨δ, G, Z, Q0, ok, rs, h, k⟩ =>
    ⟨δ, G, Z, _, ok, rs, h, fun x G1 v H1 h1 k1 ok1 r1 => ⟨δ, G1, Z, _, ok1, rs.mono k1.keep, h1, fun y G2 u H2 h2 k2 ok2 r2 => by
      have r1 := r1.mono k2.keep
      obtain ⟨as, bs, rfl, rfl, h2⟩ := h2
      cases r1 with
        | @tup a xs _ qa ra =>
          cases r2 with
          | @tup b ys _ qb rb =>
            refine ⟨a, b, xs, ys, rfl, .inr ⟨TupAt.sq U_le qa, TupAt.sq U_le qb, k _ _ _ _ _ h2 (k1.trans k2) ok2 fun Z' z1 z2 => ?_⟩⟩
            have qa' := TupAt.mono (U_ext z2) qa
            have qb' := TupAt.mono (U_ext z2) qb
            have ra' := ra.mono (U_ext z2)
            have rb' := rb.mono (U_ext z2)
            refine ⟨fun i d H' G' e k ok gd => ?_, fun H' G' k ok gd => ?_⟩
            · have ha : SqT X.K H' a xs := TupAt.sq (fun _ _ z => U_le _ _ (k.keep _ _ z)) qa'
              have hb : SqT X.K H' b ys := TupAt.sq (fun _ _ z => U_le _ _ (k.keep _ _ z)) qb'
              obtain ⟨dx, dy, ex, ey, rfl⟩ := zipD_get e
              obtain ⟨v, e1, rv⟩ := (ra'.mono k.keep).get ex
              obtain ⟨w, e2, rw'⟩ := (rb'.mono k.keep).get ey
              refine ⟨⟨xs, ys, v, w, ha, hb, e1, e2⟩, fun x H'' hy => ?_⟩
              obtain ⟨T, x', y', rfl, hT, rfl, hx, hy⟩ := hy
              have q1 := hx xs ha
              rw [e1] at q1; cases q1
              have q2 := hy ys hb
              rw [e2] at q2; cases q2
              have kl : Kp H' G' Z' (upd H' T (.tup [v, w])) G' := Kp.laid hT
              exact ⟨kl, ok.laid hT, .tup (.inl (U_laid ok hT)) (.cons (rv.mono kl.keep) (.cons (rw'.mono kl.keep) .nil))⟩
            · refine ⟨xs, ys, TupAt.sq (fun _ _ z => U_le _ _ (k.keep _ _ z)) qa', TupAt.sq (fun _ _ z => U_le _ _ (k.keep _ _ z)) qb', ?_⟩
              rw [zipD_length, ra.length, rb.length]
              omega⟩⟩
end
end DL
set_option Elab.async false
set_option linter.all false
set_option maxRecDepth 100000
set_option maxHeartbeats 1000000
/-! DL, part 29: a, *b = tuple; x in a tuple of the module; dicts of the module with text keys; calls of what a slot holds; dicts written out; range with a step; split; None in a list. -/
namespace DL
open PySem PySem.Spec L2 PyProof.Rows

/-! a, *b = a tuple -/
theorem star_tup {prog : Program} {w : World} {A : Around} {E : Value → Shared → Prop} {s : Shared} {l : Addr} {items : Array Value} {x : Value} {r : List Value} {Q : List Value → Shared → Prop} (hl : IsTup s.heap l items) (hh : A.handled = none) (hz : items.size ≤ 16384) (e : items.toList = x :: r)
    (h : ∀ (h' : Heap) (tk : Nat), (∀ b o, s.heap.get? b = some o → h'.get? b = some o) → Q [x, .ref h'.objs.size] { s with heap := h'.push { cls := .type "list", data := .seq r.toArray }, toks := tk }) :
    wpAny (model prog w) A (unpackItems (.ref l) 2 (some 1)) Q E s := by
  have hsz : items.size = r.length + 1 := by rw [← Array.length_toList, e, List.length_cons]
  have hlt : l ≠ s.heap.objs.size := by obtain ⟨o, ho, _⟩ := hl; exact Nat.ne_of_lt (Heap.lt_size ho)
  unfold unpackItems
  refine wpAny_bind ?_
  unfold notIterableAtAll
  refine wpAny_bind (wpAny_specialOf hl.typeIs slot_tuple_iter.lookup ?_)
  refine wpAny_pure ?_
  simp only [Bool.false_eq_true, if_false]
  refine wpAny_bind (wpAny_holding (iter_tuple hl ?_))
  refine wpAny_bind (wpAny_holding (draw_tuple hlt 1 0 _ _ ⟨_, Heap.get?_push_size _ rfl, rfl, rfl⟩ (hl.push _) (by omega) fun h₁ hit₁ hs₁ => ?_))
  have hl₁ : IsTup h₁ l items := (hl.push _).extBut hs₁.extBut hlt
  rw [Nat.zero_add] at hit₁
  have hit₁' := hit₁
  obtain ⟨oi, hoi, _⟩ := hit₁'
  have hl₁' := hl₁
  obtain ⟨ol, hol, _⟩ := hl₁'
  rw [List.drop_zero]
  have hfl : (items.toList.take 1).length = 1 := by rw [List.length_take, Array.length_toList]; omega
  rw [if_neg (show ¬ ((items.toList.take 1).length < 1) by rw [hfl]; omega)]
  refine wpAny_bind (wpAny_holding (PySem.W.kun_collect (s := { s with heap := h₁ }) (T := "tuple_iterator") (.inr (.inr (.inr rfl))) (Walks.tuple (A := A.in1) hh s.heap.objs.size l hlt items) (fun j u st => st.1.typeIs) (k := 1) (by omega) ⟨hit₁, hl₁⟩ (Heap.lt_size hoi) (Heap.lt_size hol) (fun h₂ tk hk => ?_) (by rw [sizeLine_eq]; omega)))
  have e1 : items.toList.drop 1 = r := by rw [e]; rfl
  have e2 : items.toList.take 1 = [x] := by rw [e]; rfl
  rw [e1, e2]
  show wpAny _ _ (if r.length < 2 - 1 - 1 then _ else _) _ _ _
  rw [if_neg (by omega)]
  show wpAny _ _ (newList (r.take (r.length - (2 - 1 - 1))) >>= fun d => pure ([x] ++ [d] ++ r.drop (r.length - (2 - 1 - 1)))) _ _ _
  rw [show r.length - (2 - 1 - 1) = r.length by omega, List.take_length, List.drop_length]
  have he : ∀ b o, s.heap.get? b = some o → h₂.get? b = some o := fun b o q => by
    have hb : b ≠ s.heap.objs.size := Nat.ne_of_lt (Heap.lt_size q)
    exact hk b o hb (hs₁.extBut b o hb (Heap.get?_push_of_some _ q))
  refine wpAny_bind (wpAny_newList ?_ (by rw [sizeLine_eq]; omega))
  exact wpAny_pure (h h₂ tk he)
def gStar (K : PySem.W.Frag) (t1 t2 : TG) : TG := fun v σ H Q => ∃ a x xs, v = .ref a ∧ SqT K H a (x :: xs) ∧ xs.length ≤ 10000 ∧ ∀ d, H d = none → t1 x σ (upd H d (.lst xs)) fun σ1 H1 => t2 (.ref d) σ1 H1 Q
section
variable {X : Cx} {pos p2 : Pos} {k : Nat} {e1 e2 : Expr} {t1 t2 : TG}
theorem pg_star (hc : X.calm = true) (h1 : PG X e1 t1) (h2 : PG X e2 t2) (hs : assignEach [e1, .Starred e2 p2] X.env = [(false, assign e1 X.env), (true, assign e2 X.env)] := by rfl) :
    PG X (.Tuple [e1, .Starred e2 p2] k pos) (gStar X.K t1 t2) := by
  refine ⟨fun pins s σ H v u Q I r hw => ?_⟩
  obtain ⟨a, x, xs, rfl, hq, hl, hw⟩ := hw
  cases r
  obtain ⟨its, rv, ht, hz⟩ := I.tuple hq
  cases rv with
  | @cons _ x' _ its' rx rv =>
    rw [assign_Tuple]
    refine wpAny_bind (wpAny_standAt ?_)
    unfold unpack
    rw [hs]
    show wpAny _ _ (assignInOrder [assign e1 X.env, assign e2 X.env] =<< _) _ _ _
    have hl2 : its'.length = xs.length := rv.length.symm
    refine wpAny_bind (wpAny_holding (star_tup (x := x') (r := its') ht (I.ok.hd hc) (by simp; omega) (by simp) fun h' tk hk => ?_))
    have I1 : Inv X pins σ H { s with heap := h', toks := tk } := I.kept (t' := tk) hk
    have hf : H h'.objs.size = none := I1.hok.fresh (Nat.le_refl _)
    have I2 : Inv X pins σ (upd H h'.objs.size (.lst xs)) { s with heap := h'.push { cls := .type "list", data := .seq its'.toArray }, toks := tk } :=
      I1.laid (t' := tk) (fun b u q => Heap.get?_push_of_some _ q) (Nat.le_refl _) ⟨by rw [sizeLine_eq]; omega, its', 0, rv, Heap.get?_push_size _ rfl⟩
    refine assignInOrder_cons (thn (h1.run pins _ σ _ _ _ _ I2 rx (hw _ hf)) fun _ s1 ⟨σ1, H1, I3, q1⟩ => ?_)
    refine assignInOrder_cons (thn (h2.run pins s1 σ1 H1 (.ref h'.objs.size) _ _ I3 rfl q1) fun _ s2 ⟨σ2, H2, I4, q2⟩ => ?_)
    exact assignInOrder_nil ⟨σ2, H2, I4, q2⟩
end
/-- name, *name = a tuple -/
def dStar (i j : Nat) (te : DTE) : DTS := fun D δ G => te δ G fun x G1 => match x with
  | .tup (d :: ds) => ds.length ≤ 10000 ∧ D.nx ((δ.set i (some d)).set j (some (.lst ds))) G1
  | _ => False
section
variable {X : Cx} {W : WX} {pos p1 p2 p3 p4 : Pos} {k : Nat} {e : Expr} {te : DTE} {i j : Nat} {x y : Str}
theorem ds_star (hc : X.calm = true) (hN : X.N.Nodup) (hi : X.N[i]? = some x) (hx : Loc X.env.scope x) (hj : X.N[j]? = some y) (hy : Loc X.env.scope y) (he : DE X e te)
    (hfx : X.fn x = true ∨ X.env.scope.names.lookup x = some .local := by first | exact .inl rfl | exact .inr rfl) (hfy : X.fn y = true ∨ X.env.scope.names.lookup y = some .local := by first | exact .inl rfl | exact .inr rfl)
    (hs : swapsWithSole [.Tuple [.Name x p1, .Starred (.Name y p2) p3] k p4] e pos.line X.env = pure false := by rfl) (hw : swappedStores [.Tuple [.Name x p1, .Starred (.Name y p2) p3] k p4] e X.env = pure none := by rfl) :
    DS X W (.Assign [.Tuple [.Name x p1, .Starred (.Name y p2) p3] k p4] e pos) (dStar i j te) :=
  PS.mono (ps_asg he (pg_star hc (pg_name hN hi hx hfx) (pg_name hN hj hy hfy)) hs hw) fun E σ H ⟨δ, G, Z, D0, ok, rs, h, l⟩ =>
    ⟨δ, G, Z, _, ok, rs, h, fun v G1 v' H1 h1 k1 ok1 r1 => by
      split at h1
      · next d ds =>
        cases r1 with
        | tup q rr =>
          cases rr with
          | @cons _ v0 _ vs rd rr =>
            refine ⟨_, _, _, rfl, TupAt.sq U_le q, by rw [← rr.length]; exact h1.1, fun b hb => ?_⟩
            have kk : Kp H G Z (upd H1 b (.lst vs)) G1 := k1.trans (Kp.laid hb)
            refine l.nx _ _ _ _ h1.2 kk (ok1.laid hb) ?_
            exact ((rs.mono kk.keep).set (rd.mono (Kp.laid hb).keep) i).set (.lst (U_laid ok1 hb) (rr.mono (Kp.laid hb).keep)) j
      · exact h1.elim⟩
end

/-! x in a tuple of the module (of texts) -/
structure GTup (K : PySem.W.Frag) (mg : Str → Option Value) (x : Str) (vs : List Str) : Prop where
  m : mg x = some (.ref (He.ga K x))
  t : ∀ H, SqT K H (He.ga K x) (vs.map V.str)
def dInS (vs : List Str) (te : DTE) : DTE := fun δ G Q => te δ G fun x G1 => match x with
  | .str s => Q (.bl (decide (s ∈ vs))) G1
  | _ => False
theorem flat_strs : ∀ vs : List Str, (vs.map V.str).all flatV = true
  | [] => rfl
  | v :: r => by
    rw [List.map_cons, List.all_cons, flat_strs r]; rfl
theorem inV_strs (s : Str) : ∀ vs : List Str, inV (.str s) (vs.map V.str) = decide (s ∈ vs)
  | [] => by simp [inV]
  | v :: r => by
    have ih := inV_strs s r
    unfold inV at ih ⊢
    rw [List.map_cons, List.any_cons, ih]
    have e : eqV (.str v) (.str s) = decide (s = v) := by
      show decide (v = s) = decide (s = v)
      exact decide_eq_decide.mpr eq_comm
    rw [e, Bool.eq_iff_iff]
    simp [List.mem_cons]
section
variable {X : Cx} {x : Str} {vs : List Str} {e : Expr} {te : DTE} {p pos : Pos}
theorem inS_split {σ : L2.St} {H : Hp} {Q : VK} (T : GTup X.K X.mg x vs) (h : cE X.K (dInS vs te) σ H Q) : tOp (rIn X.K false) (cE X.K te) (tC (.ref (He.ga X.K x))) σ H Q := by
  obtain ⟨δ, G, Z, Q0, ok, rs, h, k⟩ := h
  refine ⟨δ, G, Z, _, ok, rs, h, fun y G1 v H1 h1 k1 ok1 r1 => ?_⟩
  cases r1 with
  | str s => exact ⟨_, _, rfl, .inr (T.t H1), rfl, flat_strs vs, by rw [if_neg (by decide), inV_strs]; exact k _ _ _ _ h1 k1 ok1 (.bl _)⟩
  | _ => exact False.elim h1
theorem de_inS (T : GTup X.K X.mg x vs) (hg : Gl X x) (he : DE X e te) (hm : behindInMarks .In (.Name x p) = false := by rfl) (hd : (x == ("__debug__" : Str)) = false := by decide) : DE X (.Compare e [.In] [.Name x p] pos) (dInS vs te) :=
  PE.mono (pe_cmpR op_in_seq he (pe_glob (v := .ref (He.ga X.K x)) hg T.m rfl hd) hm) fun _ _ _ h => inS_split T h
theorem dt_inS (T : GTup X.K X.mg x vs) (hg : Gl X x) (he : DE X e te) (hm : behindInMarks .In (.Name x p) = false := by rfl) (hd : (x == ("__debug__" : Str)) = false := by decide) : DT X (.Compare e [.In] [.Name x p] pos) (dTestB (dInS vs te)) :=
  PT.mono (pt_cmpR op_in_seq he (pe_glob (v := .ref (He.ga X.K x)) hg T.m rfl hd) hm) fun _ _ _ h => test_split (fun _ h => inS_split T h) h
end
/-! dicts of the module with text keys -/
def dvD (K : PySem.W.Frag) : He.Dv → D
  | .int i => .int i
  | .str x => .str x
  | .bl b => .bl b
  | .non => .non
  | .glo x => .ref (He.ga K x)
  | .adr q => .ref (q K)
  | _ => .scr []
def dvOk : He.Dv → Bool
  | .int _ | .str _ | .bl _ | .non | .glo _ | .adr _ => true
  | _ => false
theorem dv_rep {K : PySem.W.Frag} {W : Hp} : ∀ {d : He.Dv}, dvOk d = true → Rep K W (dvD K d) (d.v K)
  | .int i, _ => .int i
  | .str x, _ => .str x
  | .bl b, _ => .bl b
  | .non, _ => .non
  | .glo x, _ => .ref _
  | .adr q, _ => .ref _
  | .byt _, h => by cases h
  | .flt _, h => by cases h
  | .ty _, h => by cases h
structure GDic (K : PySem.W.Frag) (w : World) (mg : Str → Option Value) (x : Str) (kvs : List (Str × He.Dv)) : Prop where
  m : mg x = some (.ref (He.ga K x))
  kd : ∃ es n, KDict K w (He.ga K x) es n
  has : ∀ z, ∃ r, PySem.W.nsIn K (He.ga K x) z = some r ∧ r.isSome = decide (z ∈ kvs.map (·.1))
  val : ∀ q ∈ kvs, ∃ u, PySem.W.nsIn K (He.ga K x) q.1 = some (some u) ∧ RelV (q.2.v K) u
  good : ∀ q ∈ kvs, dvOk q.2 = true
def dGetG (kvs : List (Str × D)) (te : DTE) : DTE := fun δ G Q => te δ G fun x G1 => ∃ s d, x = .str s ∧ (s, d) ∈ kvs ∧ Q d G1
section
variable {X : Cx} {x : Str} {kvs : List (Str × He.Dv)} {e : Expr} {te : DTE} {p pos : Pos}
theorem inG_split {σ : L2.St} {H : Hp} {Q : VK} (T : GDic X.K X.w X.mg x kvs) (h : cE X.K (dInS (kvs.map (·.1)) te) σ H Q) : tOp (fun x' y H Q => ∃ (z : Str) (r : Option Value), x' = .str z ∧ y = .ref (He.ga X.K x) ∧ PySem.W.nsIn X.K (He.ga X.K x) z = some r ∧ Q (.bl r.isSome) H) (cE X.K te) (tC (.ref (He.ga X.K x))) σ H Q := by
  obtain ⟨δ, G, Z, Q0, ok, rs, h, k⟩ := h
  refine ⟨δ, G, Z, _, ok, rs, h, fun y G1 v H1 h1 k1 ok1 r1 => ?_⟩
  cases r1 with
  | str s =>
    obtain ⟨r, e1, e2⟩ := T.has s
    exact ⟨s, r, rfl, rfl, e1, by rw [e2]; exact k _ _ _ _ h1 k1 ok1 (.bl _)⟩
  | _ => exact False.elim h1
theorem de_inG {ks : List Str} (T : GDic X.K X.w X.mg x kvs) (hg : Gl X x) (he : DE X e te) (hk : kvs.map (·.1) = ks := by rfl) (hm : behindInMarks .In (.Name x p) = false := by rfl) (hd : (x == ("__debug__" : Str)) = false := by decide) : DE X (.Compare e [.In] [.Name x p] pos) (dInS ks te) := by
  subst hk
  obtain ⟨es, n, D⟩ := T.kd
  exact PE.mono (pe_cmpR (op_in_kd D) he (pe_glob (v := .ref (He.ga X.K x)) hg T.m rfl hd) hm) fun _ _ _ h => inG_split T h
theorem dt_inG {ks : List Str} (T : GDic X.K X.w X.mg x kvs) (hg : Gl X x) (he : DE X e te) (hk : kvs.map (·.1) = ks := by rfl) (hm : behindInMarks .In (.Name x p) = false := by rfl) (hd : (x == ("__debug__" : Str)) = false := by decide) : DT X (.Compare e [.In] [.Name x p] pos) (dTestB (dInS ks te)) := by
  subst hk
  obtain ⟨es, n, D⟩ := T.kd
  exact PT.mono (pt_cmpR (op_in_kd D) he (pe_glob (v := .ref (He.ga X.K x)) hg T.m rfl hd) hm) fun _ _ _ h => test_split (fun _ h => inG_split T h) h
end

section
variable {X : Cx} {x : Str} {kvs : List (Str × He.Dv)} {e o : Expr} {te : DTE} {p pos : Pos}
theorem getG_split {σ : L2.St} {H : Hp} {Q : VK} (T : GDic X.K X.w X.mg x kvs) (h : cE X.K (dGetG (kvs.map fun q => (q.1, dvD X.K q.2)) te) σ H Q) : tOp (rIxD X.K X.w) (tC (.ref (He.ga X.K x))) (cE X.K te) σ H Q := by
  obtain ⟨δ, G, Z, Q0, ok, rs, h, k⟩ := h
  refine ⟨δ, G, Z, _, ok, rs, h, fun y G1 v H1 h1 k1 ok1 r1 => ?_⟩
  obtain ⟨s, d, rfl, hm, h1⟩ := h1
  cases r1
  obtain ⟨q, hq, e⟩ := List.mem_map.mp hm
  cases e
  obtain ⟨u, e1, e2⟩ := T.val q hq
  obtain ⟨es, n, D⟩ := T.kd
  exact ⟨_, q.1, q.2.v X.K, rfl, rfl, ⟨es, n, u, D.at_, D.lit, e1, e2⟩, k _ _ _ _ h1 k1 ok1 (dv_rep (T.good q hq))⟩
theorem de_getG {kd : List (Str × D)} (T : GDic X.K X.w X.mg x kvs) (hg : Gl X x) (he : DE X e te) (hs : PlainIx e) (hk : kvs.map (fun q => (q.1, dvD X.K q.2)) = kd := by rfl) (hd : (x == ("__debug__" : Str)) = false := by decide) : DE X (.Subscript (.Name x p) e pos) (dGetG kd te) := by
  subst hk
  exact PE.mono (pe_ix ix_kdict (pe_glob (v := .ref (He.ga X.K x)) hg T.m rfl hd) he hs) fun _ _ _ h => getG_split T h
end
/-! a call of what a slot holds -/
def dCallH (i : Nat) (tab : List (Addr × DSp)) (t : DTA) : DTE := fun δ G Q => ∃ a sp, δ[i]? = some (some (.ref a)) ∧ (a, sp) ∈ tab ∧ t δ G fun ds G1 => sp ds G1 Q DX0
section
variable {X : Cx} {k i : Nat} {x : Str} {p pos : Pos} {e : Expr} {es : List Expr} {t : DTA} {tab : List (Addr × DSp)}
theorem pe_callH {t : TA} {S : List (Addr × Sp)} (A : ∀ q ∈ S, Held X.prog X.w X.K X.mg X.base k q.1 q.2) (hr : Room k X.A) (hN : X.N[i]? = some x) (hv : Vis X.env.scope x) (ha : PA X (e :: es) t)
    (hdb : (x == ("__debug__" : Str)) = false := by decide) (hcd : (x == ("__classdict__" : Str)) = false := by decide)
    (he : starEach (e :: es) X.env = (false, eval e X.env) :: starEach es X.env := by rfl) (hpl : (backTo pos (starEach es X.env)).any (·.1) = false := by rfl) :
    PE X (.Call (.Name x p) (e :: es) [] pos) (fun σ H Q => ∃ q ∈ S, σ[i]? = some (some (.ref q.1)) ∧ t σ H fun vs H1 => q.2 vs H1 Q (fun _ _ _ => False)) := by
  refine ⟨fun pins s σ H Q I h => ?_⟩
  obtain ⟨q, hq, hs, ht⟩ := h
  obtain ⟨fd, ps, F, hk, hb⟩ := (A q hq).ex
  refine (pe_callL (i := i) (f := q.1) (sp := q.2) (dvs := []) (E := fun _ _ _ => False) F hr hN hv hk hb .nil (fun _ _ _ _ _ _ _ z => z.elim) ha hdb hcd he hpl).run pins s σ H Q I ⟨hs, ?_⟩
  have e0 : (fun (vs : List V) (H1 : Hp) => q.2 (vs ++ []) H1 Q (fun _ _ _ => False)) = fun vs H1 => q.2 vs H1 Q (fun _ _ _ => False) := by
    funext vs H1
    rw [List.append_nil]
  show t σ H (fun vs H1 => q.2 (vs ++ []) H1 Q (fun _ _ _ => False))
  rw [e0]
  exact ht
theorem de_callH (A : ∀ q ∈ tab, Held X.prog X.w X.K X.mg X.base k q.1 (cSp X.K q.2)) (hr : Room k X.A) (hN : X.N[i]? = some x) (hv : Vis X.env.scope x) (ha : DA X (e :: es) t)
    (hdb : (x == ("__debug__" : Str)) = false := by decide) (hcd : (x == ("__classdict__" : Str)) = false := by decide)
    (he : starEach (e :: es) X.env = (false, eval e X.env) :: starEach es X.env := by rfl) (hpl : (backTo pos (starEach es X.env)).any (·.1) = false := by rfl) :
    DE X (.Call (.Name x p) (e :: es) [] pos) (dCallH i tab t) :=
  PE.mono (pe_callH (S := tab.map fun q => (q.1, cSp X.K q.2)) (fun q hq => by
      obtain ⟨q', hq', rfl⟩ := List.mem_map.mp hq
      exact A q' hq') hr hN hv ha hdb hcd he hpl) fun σ H Q ⟨δ, G, Z, Q0, ok, rs, ⟨a, sp, hi, hm, h⟩, k⟩ => by
    obtain ⟨v, h1, h2⟩ := rs.get hi
    cases h2
    exact ⟨_, List.mem_map.mpr ⟨(a, sp), hm, rfl⟩, h1, δ, G, Z, _, ok, rs, h, fun ds G1 vs H1 h1 k1 ok1 r1 => ⟨_, G1, Z, Q0, _, ok1, r1, h1, fun d G' v H' q k2 ok2 r2 => k _ _ _ _ q (k1.trans k2) ok2 r2, .none⟩⟩
theorem Held.at_ {P : Program} {w : World} {K : PySem.W.Frag} {mg : Str → Option Value} {base : Heap} {k : Nat} {f a : Addr} {sp : Sp} (e : f = a) (h : Held P w K mg base k f sp) : Held P w K mg base k a sp := e ▸ h
theorem all_cons {α : Type} {q : α → Prop} {a : α} {l : List α} (h : q a) (t : ∀ x ∈ l, q x) : ∀ x ∈ a :: l, q x := fun x hx => by
  rcases List.mem_cons.mp hx with rfl | hx
  · exact h
  · exact t x hx
theorem all_nil {α : Type} {q : α → Prop} : ∀ x ∈ ([] : List α), q x := fun x hx => by cases hx
theorem Held.of {P : Program} {w : World} {K : PySem.W.Frag} {mg : Str → Option Value} {base : Heap} {k j : Nat} {f : Addr} {fd : FuncData} {ps : List Str} {sp : DSp} (F : FnOk P w K mg base CX0 j f fd ps (cSp K sp)) (h : j ≤ k) (hk : PySem.W.keepIn K (.ref f) = true) (hb : Binds K fd ps []) :
    Held P w K mg base k f (cSp K sp) := ⟨⟨fd, ps, F.mono h, hk, hb⟩⟩
end
/-! range(i, j, c) -/
def dRng3 (ta tb tc : DTE) : DTI := fun δ G R => ta δ G fun x G1 => tb δ G1 fun y G2 => tc δ G2 fun z G3 => ∃ i j c n, x = .int i ∧ y = .int j ∧ z = .int c ∧ RgC i j c n ∧ R (rngC i c n) none G3
section
variable {X : Cx} {tg a b c : Expr} {ta tb tc : DTE} {p pos : Pos}
theorem di_range3 (hg : Gl X "range") (hm : X.mg "range" = none) (ha : DE X a ta) (hb : DE X b tb) (hc : DE X c tc)
    (hs : starEach [a, b, c] X.env = (false, eval a X.env) :: starEach [b, c] X.env := by rfl) (hs2 : starEach [b, c] X.env = (false, eval b X.env) :: starEach [c] X.env := by rfl) (hs3 : starEach [c] X.env = (false, eval c X.env) :: starEach [] X.env := by rfl)
    (hpl : (backTo pos (starEach [b, c] X.env)).any (·.1) = false := by rfl) :
    DI X tg (.Call (.Name "range" p) [a, b, c] [] pos) (dRng3 ta tb tc) :=
  PI.mono (pi_range3 hg hm (pa_cons ha (pa_cons hb (pa_cons hc pa_nil hs3) hs2) hs) hs hpl) fun σ H R ⟨δ, G, Z, Q0, ok, rs, h, k⟩ =>
    ⟨δ, G, Z, _, ok, rs, h, fun x G1 v H1 h1 k1 ok1 r1 => ⟨δ, G1, Z, _, ok1, rs.mono k1.keep, h1, fun y G2 u H2 h2 k2 ok2 r2 => ⟨δ, G2, Z, _, ok2, rs.mono (k1.trans k2).keep, h2, fun z G3 w H3 h3 k3 ok3 r3 => by
      obtain ⟨i, j, c, n, rfl, rfl, rfl, hc, h3⟩ := h3
      cases r1
      cases r2
      cases r3
      exact ⟨i, j, c, n, rfl, hc, k _ _ _ _ _ h3 (k1.trans (k2.trans k3)) ok3 fun Z' _ _ => it_rangeC⟩⟩⟩⟩
end
/-! text.split(sep) -/
def dSplit (to te : DTE) : DTE := fun δ G Q => to δ G fun x G1 => ∃ a, x = .str a ∧ te δ G1 fun y G2 => ∃ b, y = .str b ∧ (b.length == 0) = false ∧ a.length + 2 ≤ sizeLine ∧ Q (.lst ((Txt.split a b).map .str)) G2
theorem reps_strs {K : PySem.W.Frag} {W : Hp} : ∀ ys : List Str, Reps K W (ys.map D.str) (ys.map V.str)
  | [] => .nil
  | y :: r => .cons (.str y) (reps_strs r)
section
variable {X : Cx} {o e : Expr} {to te : DTE} {apos pos : Pos}
theorem de_split (ho : DE X o to) (he : DE X e te) (hs : starEach [e] X.env = [(false, eval e X.env)] := by rfl) (hbase : attributeBase o "split" X.env (eval o X.env) = eval o X.env := by rfl) (hline : (apos.endLine == pos.line) = true := by rfl) :
    DE X (.Call (.Attribute o "split" apos) [e] [] pos) (dSplit to te) :=
  PE.mono (pe_split ho he hs hbase hline) fun σ H Q ⟨δ, G, Z, Q0, ok, rs, h, k⟩ =>
    ⟨δ, G, Z, _, ok, rs, h, fun x G1 v H1 h1 k1 ok1 r1 => by
      obtain ⟨a, rfl, h1⟩ := h1
      cases r1
      refine ⟨⟨a, rfl⟩, δ, G1, Z, _, ok1, rs.mono k1.keep, h1, fun y G2 u H2 h2 k2 ok2 r2 => ?_⟩
      obtain ⟨b, rfl, hb, ha, h2⟩ := h2
      cases r2
      refine ⟨a, b, rfl, rfl, hb, ha, fun q hq => ?_⟩
      exact k _ _ _ _ h2 (k1.trans (k2.trans (Kp.laid hq))) (ok2.laid hq) (.lst (U_laid ok2 hq) (reps_strs _))⟩
end
/-! x in a list of any data -/
def rInA (K : PySem.W.Frag) : R2 := fun x y H Q => ∃ d ds, Dp K H x d ∧ Dp K H y (.list ds) ∧ SeqAt.shaped d = true ∧ SeqAt.shaped (.list ds) = true ∧ Q (.bl (ds.any fun z => PyData.eqv z d)) H
def dInA : DR2 := fun x y G Q => ∃ p qs, DD G x p ∧ DD G y (.list qs) ∧ SeqAt.shaped p = true ∧ SeqAt.shaped (.list qs) = true ∧ Q (.bl (qs.any fun z => PyData.eqv z p)) G
section
variable {X : Cx}
theorem op_inA (hu : X.A.units + 65 < cLine) : OpR X (compareOp .In) (rInA X.K) := by
  intro pins s σ H x y v u Q I rx ry h
  obtain ⟨d, ds, hd, he, sd, se, q⟩ := h
  obtain ⟨as, r1⟩ := Dp.reads I d x v hd rx
  obtain ⟨bs, r2⟩ := Dp.reads I (.list ds) y u he ry
  exact SeqAt.in_list_reads r2 r1 (SeqAt.canLay_of_shaped se) (SeqAt.canLay_of_shaped sd) (room_in_shaped sd hu) ⟨.bl _, H, I, rfl, q⟩
theorem dop_inA (hu : X.A.units + 65 < cLine) : DOp X (compareOp .In) dInA :=
  OpR.imp (op_inA hu) fun v u H Q ⟨x, y, G, Z, Q0, ok, r1, r2, ⟨p, qs, e1, e2, s1, s2, h⟩, k⟩ =>
    ⟨p, qs, e1.dp ok r1, e2.dp ok r2, s1, s2, k _ _ _ _ h .refl ok (.bl _)⟩
end
/-! dicts written out, with keys of texts -/
def dPairs : List (Str × DTE) → DSt → GHp → (List (Key × D) → GHp → Prop) → Prop
  | [], _, G, Q => Q [] G
  | (k, te) :: r, δ, G, Q => te δ G fun x G1 => dPairs r δ G1 fun kvs G2 => Q ((.inr k, x) :: kvs) G2
def mergeD (kvs : List (Key × D)) : List (Key × D) := kvs.foldl (fun acc kv => putD acc kv.1 kv.2) []
def dDisp (ps : List (Str × DTE)) : DTE := fun δ G Q => ∀ p, G p = none → dPairs ps δ (gupd G p (.dK [])) fun kvs G1 => G1 p = some (.dK []) ∧ kvs.length ≤ 15 ∧ Q (.ref p) (gupd G1 p (.dK (mergeD kvs)))
inductive DPs (X : Cx) : List (Option Expr) → List Expr → List (Str × DTE) → Prop
  | nil : DPs X [] [] []
  | cons {k : Str} {n : Nat} {kp : Pos} {v : Expr} {te : DTE} {ks : List (Option Expr)} {vs : List Expr} {ps : List (Str × DTE)} : DE X v te → DPs X ks vs ps → DPs X (some (.Constant (.str k) n kp) :: ks) (v :: vs) ((k, te) :: ps)
theorem KvR.putM {K : PySem.W.Frag} {W : Hp} : ∀ {kvs acc : List (Key × D)} {xs bcc : List (Key × V)}, KvR K W kvs xs → KvR K W acc bcc → KvR K W (kvs.foldl (fun acc kv => putD acc kv.1 kv.2) acc) (xs.foldl (fun acc kv => putK acc kv.1 kv.2) bcc)
  | _, _, _, _, .nil, r => r
  | p :: kvs, acc, q :: xs, bcc, .cons h t, r => by
    rw [List.foldl_cons, List.foldl_cons]
    have := r.put (k := p.1) h.2
    rw [h.1]
    exact KvR.putM t this
section
variable {X : Cx} {pos : Pos}
theorem DPs.pps : ∀ {ks : List (Option Expr)} {vs : List Expr} {ps : List (Str × DTE)}, DPs X ks vs ps → PPs X pos ks vs (ps.map fun p => (tC (.str p.1), cE X.K p.2))
  | _, _, _, .nil => pps_nil
  | _, _, _, .cons h t => pps_cons pe_str h (DPs.pps t)
theorem DPs.run {σ : L2.St} : ∀ {ps : List (Str × DTE)} {δ : DSt} {H : Hp} {G : GHp} {Z : Addr → Bool} {Q : List (V × V) → Hp → Prop} {Q0 : List (Key × D) → GHp → Prop}, Ok X.K H G Z → RepSt X.K (U H G Z) δ σ → dPairs ps δ G Q0 →
    (∀ kvs G' H' (xs : List (Key × V)), Q0 kvs G' → Kp H G Z H' G' → Ok X.K H' G' Z → KvR X.K (U H' G' Z) kvs xs → xs.length = ps.length → Q (xs.map fun kv => (kV kv.1, kv.2)) H') → tPairs (ps.map fun p => (tC (.str p.1), cE X.K p.2)) σ H Q
  | [], δ, H, G, Z, Q, Q0, ok, rs, h, k => k [] G H [] h .refl ok .nil rfl
  | p :: r, δ, H, G, Z, Q, Q0, ok, rs, h, k => by
    show cE X.K p.2 σ H _
    refine ⟨δ, G, Z, _, ok, rs, h, fun x G1 v H1 h1 k1 ok1 r1 => ?_⟩
    refine DPs.run (ps := r) ok1 (rs.mono k1.keep) h1 fun kvs G' H' xs q k2 ok2 r2 hl => ?_
    exact k _ _ _ ((.inr p.1, v) :: xs) q (k1.trans k2) ok2 (.cons ⟨rfl, r1.mono k2.keep⟩ r2) (by rw [List.length_cons, List.length_cons, hl])
theorem de_disp {ks : List (Option Expr)} {vs : List Expr} {ps : List (Str × DTE)} (h : DPs X ks vs ps) (hall : ks.all (·.isSome) = true) (hl : ks.length = vs.length) (h0 : ks ≠ []) (h15 : ks.length ≤ 15) : DE X (.Dict ks vs pos) (dDisp ps) :=
  PE.mono (pe_disp (h.pps (pos := pos)) hall hl h0 h15) fun σ H Q ⟨δ, G, Z, Q0, ok, rs, h, k⟩ => fun p hp => by
    have hg := (ok.free hp).1
    have hz := (ok.free hp).2
    have kk : Kp H G Z (upd H p (.dK [])) (gupd G p (.dK [])) := Kp.laidG hp hg
    have ok1 : Ok X.K (upd H p (.dK [])) (gupd G p (.dK [])) Z := ok.laidG hp ⟨[], upd_same, rfl, .nil⟩
    refine DPs.run ok1 (rs.mono kk.keep) (h p hg) fun kvs G' H' xs q k2 ok2 r2 hlen => ?_
    obtain ⟨ea, h15', q⟩ := q
    obtain ⟨hz2, ys, hy, e1, e2⟩ := ok2.ok p _ ea
    have ys0 : ys = [] := List.map_eq_nil_iff.mp e1
    subst ys0
    refine ⟨hy, xs, rfl, ?_, ?_⟩
    · have := KvR.keys r2
      have := congrArg List.length this
      rw [List.length_map, List.length_map] at this
      omega
    · have hw : Kp H' G' Z (upd H' p (.dK (mergeK [] xs))) (gupd G' p (.dK (mergeD kvs))) := Kp.wrote ea hz2
      have hr : KvR X.K (U (upd H' p (.dK (mergeK [] xs))) (gupd G' p (.dK (mergeD kvs))) Z) (mergeD kvs) (mergeK [] xs) := (KvR.putM r2 .nil).mono hw.keep
      exact k _ _ _ _ q (kk.trans (k2.trans hw)) (ok2.wrote ea ⟨_, upd_same, hr.keys, hr.reps⟩) (.ref p)
end
/-! d[k], d[l] = e, f: one dict, keys of texts -/
def dPut2 (i : Nat) (k1 k2 : Str) (ta : DTA) : DTS := fun D δ G => ta δ G fun ds G1 => ∃ a v w kvs, ds = [v, w] ∧ δ[i]? = some (some (.ref a)) ∧ G1 a = some (.dK kvs) ∧ kvs.length < 1000 ∧ D.nx δ (gupd G1 a (.dK (putD (putD kvs (.inr k1) v) (.inr k2) w)))
section
variable {X : Cx} {W : WX} {x : Str} {p1 p2 p3 p4 p5 p6 q1 q2 pos tpos vpos : Pos} {k1 k2 : Str} {n1 n2 kt kv i : Nat} {e f : Expr} {ta : DTA}
theorem ds_put2 (hc : X.calm = true) (hu : X.A.units + 64 < cLine) (hN : X.N[i]? = some x) (hv : Vis X.env.scope x) (ha : DA X [e, f] ta)
    (hdb : (x == ("__debug__" : Str)) = false := by decide) (hcd : (x == ("__classdict__" : Str)) = false := by decide)
    (hs : swapsWithSole [.Tuple [.Subscript (.Name x p1) (.Constant (.str k1) n1 p2) p3, .Subscript (.Name x p4) (.Constant (.str k2) n2 p5) p6] kt tpos] (.Tuple [e, f] kv vpos) pos.line X.env = pure false := by rfl)
    (hw : swappedStores [.Tuple [.Subscript (.Name x p1) (.Constant (.str k1) n1 p2) p3, .Subscript (.Name x p4) (.Constant (.str k2) n2 p5) p6] kt tpos] (.Tuple [e, f] kv vpos) X.env = pure none := by rfl) :
    DS X W (.Assign [.Tuple [.Subscript (.Name x p1) (.Constant (.str k1) n1 p2) p3, .Subscript (.Name x p4) (.Constant (.str k2) n2 p5) p6] kt tpos] (.Tuple [e, f] kv vpos) pos) (dPut2 i k1 k2 ta) :=
  PS.mono (ps_asg (pe_tup ha) (pg_tup hc (pgs_cons (pg_sub (pe_var hN hv hdb hcd) pe_str (set_dict (by omega))) (pgs_cons (pg_sub (pe_var hN hv hdb hcd) pe_str (set_dict (by omega))) pgs_nil))) hs hw) fun E σ H ⟨δ, G, Z, D0, ok, rs, h, l⟩ =>
    ⟨δ, G, Z, _, ok, rs, h, fun ds G1 vs H1 h1 kp ok1 r1 => by
      obtain ⟨a, v, w, kvs, rfl, hi, ea, hl, h1⟩ := h1
      cases r1 with
      | @cons _ v' _ _ rv r1 =>
        cases r1 with
        | @cons _ w' _ _ rw r1 =>
          cases r1
          refine ⟨by rw [sizeLine_eq]; simp, fun p hp => ?_⟩
          obtain ⟨y, hy, ry⟩ := rs.get hi
          cases ry
          obtain ⟨hz, xs, hx, e1, rr⟩ := ok1.ok _ _ ea
          have hne : a ≠ p := fun z => by rw [z, hp] at hx; cases hx
          have hlx : xs.length = kvs.length := by have := congrArg List.length e1; simpa using this
          have kk : Kp H G Z (upd H1 p (.tup [v', w'])) G1 := kp.trans (Kp.laid hp)
          have ok2 : Ok X.K (upd H1 p (.tup [v', w'])) G1 Z := ok1.laid hp
          have hx2 : (upd H1 p (.tup [v', w'])) a = some (.dK xs) := by rw [upd_ne hne]; exact hx
          have ky : KvR X.K (U H1 G1 Z) kvs xs := KvR.of e1 rr
          have ky2 : KvR X.K (U H1 G1 Z) (putD (putD kvs (.inr k1) v) (.inr k2) w) (putK (putK xs (.inr k1) v') (.inr k2) w') := (ky.put (k := .inr k1) rv).put (k := .inr k2) rw
          have l1 : (putK xs (.inr k1) v').length ≤ xs.length + 1 := length_putK xs (.inr k1) v'
          have hw2 : Kp (upd H1 p (.tup [v', w'])) G1 Z (upd (upd (upd H1 p (.tup [v', w'])) a (.dK (putK xs (.inr k1) v'))) a (.dK (putK (putK xs (.inr k1) v') (.inr k2) w'))) (gupd G1 a (.dK (putD (putD kvs (.inr k1) v) (.inr k2) w))) := by
            rw [upd_upd]
            exact Kp.wrote ea hz
          have hr := ky2.mono ((Kp.laid hp).keep (H := H1) (G := G1) (Z := Z)) |>.mono hw2.keep
          have ok3 : Ok X.K (upd (upd (upd H1 p (.tup [v', w'])) a (.dK (putK xs (.inr k1) v'))) a (.dK (putK (putK xs (.inr k1) v') (.inr k2) w'))) (gupd G1 a (.dK (putD (putD kvs (.inr k1) v) (.inr k2) w))) Z := by
            have := ok2.wrote (o := .dK (putK (putK xs (.inr k1) v') (.inr k2) w')) (go' := .dK (putD (putD kvs (.inr k1) v) (.inr k2) w)) ea ⟨_, upd_same, hr.keys, by rw [upd_upd] at hr; exact hr.reps⟩
            rw [upd_upd]
            exact this
          refine ⟨p, [v', w'], rfl, SqT.of upd_same, rfl, v', [w'], rfl, .ref a, hy, a, _, rfl, .inl ⟨xs, .inr k1, hx2, rfl, by rw [sizeLine_eq]; omega, rfl⟩, w', [], rfl, .ref a, hy, a, _, rfl, .inl ⟨_, .inr k2, upd_same, rfl, by rw [sizeLine_eq]; omega, rfl⟩, rfl, ?_⟩
          exact (l.after kk).nx _ _ _ _ h1 hw2 ok3 (rs.mono (kk.trans hw2).keep)⟩
end
end DL
set_option Elab.async false
set_option linter.all false
set_option maxRecDepth 100000
set_option maxHeartbeats 1000000
/-! DL, part 30: the Hook with one Bool more and dicts of the module; tuples and dicts of the module told. -/
namespace DL
open PySem PySem.Spec L2 PyProof.Rows He
abbrev AlF : Type := AlT × Bool
def obsF (fa : List Fa) (fn : List DefD) (ts : List Tab) (ex : PySem.W.Frag → Bool) (K : PySem.W.Frag) : AlF := (obsT fa fn ts K, ex K)
def valF (fn : List DefD) (ts : List Tab) (w : World) : AlF := (valT fn ts w, true)
def SaysF (fa : List Fa) (fn : List DefD) (ts : List Tab) (ex : PySem.W.Frag → Bool) (w : World) (K : PySem.W.Frag) : Prop := obsF fa fn ts ex K = valF fn ts w
def obsFG (n : Nat) (fa : List Fa) (fn : List DefD) (ts : List Tab) (ex : PySem.W.Frag → Bool) (g : Addr → Option Obj) : AlF := obsF fa fn ts ex (frG g (cStatics :: asD g n))
def hookF (n : Nat) (fa : List Fa) (fn : List DefD) (ts : List Tab) (ex : PySem.W.Frag → Bool) : PySem.W.Hook where
  α := AlF
  obs := fun s => obsFG n fa fn ts ex s.heap.get?
  val := fun w => valF fn ts w
  says := fun w h => ∃ K : PySem.W.Frag, K.In h ∧ SaysF fa fn ts ex w K
  of := fun _ _ e => ⟨_, frG_in, e⟩
  keeps := fun _ _ _ ⟨K, hK, c⟩ k => ⟨K, PySem.W.Frag.In.keeps hK k, c⟩
theorem obsFG_eq {n : Nat} {fa : List Fa} {fn : List DefD} {ts : List Tab} {ex : PySem.W.Frag → Bool} {g : Addr → Option Obj} {s : Shared} (h : ∀ a, g a = s.heap.get? a) : obsFG n fa fn ts ex g = (hookF n fa fn ts ex).obs s := by
  have e : g = s.heap.get? := funext h
  rw [e] <;> rfl
section
variable {fa : List Fa} {fn : List DefD} {ts : List Tab} {ex : PySem.W.Frag → Bool} {w : World} {K : PySem.W.Frag}
theorem SaysF.d (c : SaysF fa fn ts ex w K) : SaysD fa fn K := congrArg (fun z : AlF => z.1.1) c
theorem SaysF.more (c : SaysF fa fn ts ex w K) : ex K = true := congrArg (fun z : AlF => z.2) c
theorem SaysF.tab (c : SaysF fa fn ts ex w K) (i : Nat) {t : Tab} (h : ts[i]? = some t := by rfl) : dicW K (t.1 K) = some (keysIn w.params t.2) := by
  have e : ts.map (fun t => dicW K (t.1 K)) = ts.map fun t => some (keysIn w.params t.2) := congrArg (fun z : AlF => z.1.2) c
  have e2 : (ts.map fun t => dicW K (t.1 K))[i]? = (ts.map fun t => some (keysIn w.params t.2))[i]? := by rw [e]
  rw [List.getElem?_map, List.getElem?_map, h] at e2
  exact Option.some.inj e2
end
/-! what a dict of the module has -/
theorem find_keys {P : Params} : ∀ {l : List DictEntry} {ks : List Str}, l.map He.keyOf = keysIn P ks → (∀ z, (l.find? (·.key.isStr z)).isSome = decide (z ∈ ks)) ∧ l.any (·.refKey) = false
  | [], [], _ => ⟨fun z => by simp, rfl⟩
  | [], _ :: _, h => by cases h
  | _ :: _, [], h => by cases h
  | e :: r, k :: ks, h => by
    have h1 : He.keyOf e :: r.map He.keyOf = some (k, PyData.keyHash P k) :: keysIn P ks := h
    injection h1 with h2 h3
    obtain ⟨i1, i2⟩ := find_keys h3
    unfold He.keyOf at h2
    split at h2
    · next x t q =>
      have h4 := (Prod.mk.inj (Option.some.inj h2)).1
      subst h4
      have ek : ∀ z, e.key.isStr z = decide (z = x) := fun z => by
        rw [q]
        show (x == z) = _
        rw [Bool.eq_iff_iff, beq_iff_eq, decide_eq_true_eq]
        exact eq_comm
      refine ⟨fun z => ?_, ?_⟩
      · rw [List.find?_cons, ek]
        by_cases hz : z = x
        · rw [decide_eq_true hz]
          simp [hz]
        · rw [decide_eq_false hz]
          show (r.find? _).isSome = _
          rw [i1]
          simp [hz]
      · rw [List.any_cons, i2]
        have : e.refKey = false := by
          unfold DictEntry.refKey
          rw [q]
        rw [this]; rfl
    · cases h2
theorem has_of {K : PySem.W.Frag} {P : Params} {a : Addr} {ks : List Str} (h : dicW K a = some (keysIn P ks)) (z : Str) : ∃ r, PySem.W.nsIn K a z = some r ∧ r.isSome = decide (z ∈ ks) := by
  unfold dicW at h
  split at h
  · next c es n sl q =>
    split at h
    · have h := Option.some.inj h
      obtain ⟨i1, i2⟩ := find_keys h
      unfold PySem.W.nsIn
      rw [q]
      have e1 := i1 z
      show ∃ r, (match es.toList.find? (·.key.isStr z) with
        | some e => some (some e.val)
        | none => if es.toList.any (·.refKey) then none else some none) = some r ∧ _
      cases hf : es.toList.find? (·.key.isStr z) with
      | some e =>
        rw [hf] at e1
        exact ⟨some e.val, rfl, e1⟩
      | none =>
        rw [hf] at e1
        exact ⟨none, by rw [i2]; rfl, e1⟩
    · cases h
  · cases h
theorem GTup.of {K : PySem.W.Frag} {mg : Str → Option Value} {x : Str} {vs : List Str} (m : mg x = some (.ref (ga K x))) (h : tupB K x (vs.map Dv.str) = true) : GTup K mg x vs :=
  ⟨m, fun H => by have := tupB_ok h H; rw [List.map_map] at this; exact this⟩
theorem GDic.of {K : PySem.W.Frag} {w : World} {mg : Str → Option Value} {x : Str} {kvs : List (Str × Dv)} (m : mg x = some (.ref (ga K x))) (h : dicW K (ga K x) = some (keysIn w.params (kvs.map (·.1)))) (hv : valsB K (ga K x) kvs = true) (hg : ∀ q ∈ kvs, dvOk q.2 = true) : GDic K w mg x kvs :=
  ⟨m, dicW_ok h, has_of h, fun q hq => valsB_ok hv hq, hg⟩
end DL
set_option Elab.async false
set_option linter.all false
set_option maxRecDepth 100000
set_option maxHeartbeats 1000000
/-! DL, part 31: == and != by what they answer (told by the one who reads). -/
namespace DL
open PySem PySem.Spec L2
def EqB (G : GHp) (x y : D) (b : Bool) : Prop := ∃ p q, DD G x p ∧ DD G y q ∧ SeqAt.shaped p = true ∧ SeqAt.shaped q = true ∧ PyData.eqv p q = b
def dEqB : DR2 := fun x y G Q => ∃ b, EqB G x y b ∧ Q (.bl b) G
def dNeB : DR2 := fun x y G Q => ∃ b, EqB G x y b ∧ Q (.bl (!b)) G
section
variable {X : Cx}
theorem dop_eqB (hu : X.A.units + 64 < cLine) : DOp X (compareOp .Eq) dEqB :=
  OpR.imp (op_eqD hu) fun v u H Q ⟨x, y, G, Z, Q0, ok, r1, r2, ⟨b, ⟨p, q, e1, e2, s1, s2, e⟩, h⟩, k⟩ =>
    ⟨p, q, e1.dp ok r1, e2.dp ok r2, s1, s2, by rw [e]; exact k _ _ _ _ h .refl ok (.bl _)⟩
theorem dop_neB (hu : X.A.units + 64 < cLine) : DOp X (compareOp .NotEq) dNeB :=
  OpR.imp (op_neD hu) fun v u H Q ⟨x, y, G, Z, Q0, ok, r1, r2, ⟨b, ⟨p, q, e1, e2, s1, s2, e⟩, h⟩, k⟩ =>
    ⟨p, q, e1.dp ok r1, e2.dp ok r2, s1, s2, by rw [e]; exact k _ _ _ _ h .refl ok (.bl _)⟩
end
section
variable {G : GHp}
theorem EqB.int (i j : Int) : EqB G (.int i) (.int j) (decide (i = j)) := ⟨_, _, .int i, .int j, (Shp.int (n := 1) i).ok (by decide), (Shp.int (n := 1) j).ok (by decide), by simp only [PyData.eqv]; rw [Bool.eq_iff_iff]; simp⟩
theorem EqB.bl (i j : Bool) : EqB G (.bl i) (.bl j) (decide (i = j)) := ⟨_, _, .bl i, .bl j, (Shp.bl (n := 1) i).ok (by decide), (Shp.bl (n := 1) j).ok (by decide), by simp only [PyData.eqv]; rw [Bool.eq_iff_iff]; simp⟩
theorem EqB.of_eq {x y : D} {b c : Bool} (h : EqB G x y b) (e : b = c) : EqB G x y c := e ▸ h
end
end DL
set_option Elab.async false
set_option linter.all false
set_option maxRecDepth 100000
set_option maxHeartbeats 1000000
/-! DL, part 32: repr of data, and defs that are run where nothing is being shown. -/
namespace DL
open PySem PySem.Spec L2 PyProof.Rows
/-- a def's promise where nothing is being shown -/
structure FnG (P : Program) (w : World) (K : PySem.W.Frag) (mg : Str → Option Value) (base : Heap) (k : Nat) (f : Addr) (fd : FuncData) (ps : List Str) (sp : Sp) : Prop where
  len : ∀ vs H Q E, sp vs H Q E → vs.length = ps.length
  go : ∀ (A : Around) (outer : List Env) (s : Shared) (H : Hp) (ar : Args) (us : List Value) (vs : List V) (Q : VK) (E : XK), Room k A → A.guards = some [] → Env0 P w K mg base A outer s H → BindsTo s fd ar (ps.zip us) → Vals vs us → sp vs H Q E →
    codeAny (model P w) A (.call (.ref f) ar) (CR CX0 outer P w H s Q E) s
section
variable {P : Program} {w : World} {K : PySem.W.Frag} {mg : Str → Option Value} {base : Heap} {x qual : Str} {st : Stmt} {f : Addr} {fd : FuncData} {N ps : List Str} {k : Nat} {t : DTS} {l : DSt} {dv : List V} {kv : List (Str × V)}
theorem FnG.of {sp : Sp} (F : FnOk P w K mg base CX0 k f fd ps sp) : FnG P w K mg base k f fd ps sp := ⟨F.len, fun A o s H ar us vs Q E r _ => F.run A o s H ar us vs Q E r⟩
theorem FnG.mono {j : Nat} {sp : Sp} (F : FnG P w K mg base j f fd ps sp) (h : j ≤ k) : FnG P w K mg base k f fd ps sp := ⟨F.len, fun A o s H ar us vs Q E r => F.go A o s H ar us vs Q E (r.mono h)⟩
/-- a def of the text by its body -/
theorem FunD.okG {sp : Sp} (F : FunD K x qual (defArgs st) (defBody st) (defScope st) dv kv f fd) (S : FnScope N ps (defScope st)) (len : ∀ vs H Q E, sp vs H Q E → vs.length = ps.length)
    (hb : ∀ (cdv : Value) (A : Around) (outer : List Env) (s : Shared) (H : Hp) (vs : List V) (Q : VK) (E : XK), Room k (A.deeper (envOfC qual (defScope st) s.heap.objs.size f cdv)) → (A.deeper (envOfC qual (defScope st) s.heap.objs.size f cdv)).guards = some [] → sp vs H Q E →
      ∃ t, PSs (cxOf CX0 P w K mg base N qual (defScope st) f cdv A outer s H E) (defBody st) t ∧ t { nx := fun _ H' => Q .non H', rt := Q } (start N vs) H) : FnG P w K mg base (k + 1) f fd ps sp := by
  obtain ⟨oc, od, dV, kV, doc, pm, an, cdv, ct, osl, rfl, lk, hcd, _, _⟩ := F.ex
  refine ⟨len, fun A outer s H ar us vs Q E room gd e0 bnd rel hsp => ?_⟩
  have hlen := len _ _ _ _ hsp
  have KI : K.In s.heap := e0.mod.kin.keeps fun b o e => (e0.bs b o e).1
  have limit : s.heap.NoLimit := e0.mod.nolimit.keeps fun b o e => (e0.bs b o e).1
  have kinds : ∀ y ∈ ps.zip us, (defScope st).names.lookup y.1 = some .local ∨ ((defScope st).names.lookup y.1 = some .cell ∧ ((cellsFrom (s.heap.objs.size + 1) (defScope st).names []).lookup y.1).isSome = true) := by
    rintro ⟨n, v⟩ hy
    rcases S.par n (List.of_mem_zip hy).1 with q | q
    · exact Or.inl q
    · exact Or.inr ⟨q, PySem.W.cellsFrom_some _ _ _ (.inl q)⟩
  apply codeAny_call_function room.depth (KI _ _ lk) rfl S.co S.gen rfl (PySem.W.codeRec_of KI hcd) (bnd _ _ _ _ _)
  apply wpAny_newFunctionEnv_cells S.kind kinds
  intro env he s1 hin
  subst he
  refine ⟨limit.keeps hin.toInCall.keep, codeAny_func ?_⟩
  obtain ⟨t, ht, hrun⟩ := hb cdv A outer s H vs Q E (room.deeper _) gd hsp
  have J0 : Inv (cxOf CX0 P w K mg base N qual (defScope st) f cdv A outer s H E) [] (start N vs) H s1 := inv_start S room.hd e0 hlen rel hin
  refine wpAny_mono (ht.run [] s1 (start N vs) H _ J0 hrun) (fun fl s' hs => ?_) (fun e s' hs => hs)
  cases fl with
  | brk => obtain ⟨_, _, _, q⟩ := hs; exact q.elim
  | cont => obtain ⟨_, _, _, q⟩ := hs; exact q.elim
  | next => obtain ⟨σ', H', J, q⟩ := hs; exact ⟨.non, H', J.os, J.bare, J.base, J.hok, rfl, q⟩
  | ret u => obtain ⟨v, σ', H', J, rv, q⟩ := hs; exact ⟨v, H', J.os, J.bare, J.base, J.hok, rv, q⟩
abbrev DerG (P : Program) (w : World) (K : PySem.W.Frag) (mg : Str → Option Value) (base : Heap) (N : List Str) (qual : Str) (st : Stmt) (f : Addr) (k : Nat) (t : DTS) : Prop :=
  ∀ (cdv : Value) (A : Around) (outer : List Env) (s : Shared) (H : Hp) (E : XK), Room k (A.deeper (envOfC qual (defScope st) s.heap.objs.size f cdv)) → (A.deeper (envOfC qual (defScope st) s.heap.objs.size f cdv)).guards = some [] →
    DSs (cxOf CX0 P w K mg base N qual (defScope st) f cdv A outer s H E).nox W0 (defBody st) t
theorem DFunG.ok {sp : DSp} (F : FunD K x qual (defArgs st) (defBody st) (defScope st) dv kv f fd) (S : FnScope N ps (defScope st)) (len : ∀ ds G Q E, sp ds G Q E → ds.length = ps.length) (d : DerG P w K mg base N qual st f k t)
    (rd : ∀ ds G Q E, sp ds G Q E → DRun t (dstart N ds) G Q) : FnG P w K mg base (k + 1) f fd ps (cSp K sp) := by
  refine FunD.okG F S (fun vs H Q E ⟨ds, G, Z, Q0, E0, ok, rs, h, k, x⟩ => rs.length.symm.trans (len _ _ _ _ h)) fun cdv A outer s H vs Q E hr hg ⟨ds, G, Z, Q0, E0, ok, rs, h, k, x⟩ => ?_
  exact ⟨_, PSs.nox (d cdv A outer s H E hr hg), _, G, Z, _, ok, RepSt.start rs, rd ds G Q0 E0 h, ⟨fun δ' G' σ' H' q k1 ok1 _ => k _ _ _ _ q k1 ok1 .non, fun _ _ _ _ q => q.elim, fun _ _ _ _ q => q.elim, fun d G' v H' q k1 ok1 r1 => k _ _ _ _ q k1 ok1 r1, fun _ _ _ _ _ q => q.elim, fun _ _ _ _ _ _ _ _ q => q.elim⟩⟩
theorem DFunG.ok0 {p : GHp → DK → DXK → Prop} (F : FunD K x qual (defArgs st) (defBody st) (defScope st) dv kv f fd) (S : FnScope N ps (defScope st)) (hp : ps.length = 0) (hl : List.replicate (N.length - 0) none = l) (d : DerG P w K mg base N qual st f k t)
    (rd : ∀ G Q E, p G Q E → DRun t (l) G Q) : FnG P w K mg base (k + 1) f fd ps (cSp K (sp0 p)) :=
  DFunG.ok F S (fun ds G Q E h => by
    match ds, h with
    | [], _ => exact hp.symm) d fun ds G Q E h => by
    match ds, h with
    | [], h => subst hl; exact rd G Q E h
theorem DFunG.ok1 {p : D → GHp → DK → DXK → Prop} (F : FunD K x qual (defArgs st) (defBody st) (defScope st) dv kv f fd) (S : FnScope N ps (defScope st)) (hp : ps.length = 1) (hl : List.replicate (N.length - 1) none = l) (d : DerG P w K mg base N qual st f k t)
    (rd : ∀ a G Q E, p a G Q E → DRun t (some a :: l) G Q) : FnG P w K mg base (k + 1) f fd ps (cSp K (sp1 p)) :=
  DFunG.ok F S (fun ds G Q E h => by
    match ds, h with
    | [_], _ => exact hp.symm) d fun ds G Q E h => by
    match ds, h with
    | [a], h => subst hl; exact rd a G Q E h
theorem DFunG.ok2 {p : D → D → GHp → DK → DXK → Prop} (F : FunD K x qual (defArgs st) (defBody st) (defScope st) dv kv f fd) (S : FnScope N ps (defScope st)) (hp : ps.length = 2) (hl : List.replicate (N.length - 2) none = l) (d : DerG P w K mg base N qual st f k t)
    (rd : ∀ a b G Q E, p a b G Q E → DRun t (some a :: some b :: l) G Q) : FnG P w K mg base (k + 1) f fd ps (cSp K (sp2 p)) :=
  DFunG.ok F S (fun ds G Q E h => by
    match ds, h with
    | [_, _], _ => exact hp.symm) d fun ds G Q E h => by
    match ds, h with
    | [a, b], h => subst hl; exact rd a b G Q E h
theorem DFunG.ok3 {p : D → D → D → GHp → DK → DXK → Prop} (F : FunD K x qual (defArgs st) (defBody st) (defScope st) dv kv f fd) (S : FnScope N ps (defScope st)) (hp : ps.length = 3) (hl : List.replicate (N.length - 3) none = l) (d : DerG P w K mg base N qual st f k t)
    (rd : ∀ a b c G Q E, p a b c G Q E → DRun t (some a :: some b :: some c :: l) G Q) : FnG P w K mg base (k + 1) f fd ps (cSp K (sp3 p)) :=
  DFunG.ok F S (fun ds G Q E h => by
    match ds, h with
    | [_, _, _], _ => exact hp.symm) d fun ds G Q E h => by
    match ds, h with
    | [a, b, c], h => subst hl; exact rd a b c G Q E h
theorem DFunG.ok4 {p : D → D → D → D → GHp → DK → DXK → Prop} (F : FunD K x qual (defArgs st) (defBody st) (defScope st) dv kv f fd) (S : FnScope N ps (defScope st)) (hp : ps.length = 4) (hl : List.replicate (N.length - 4) none = l) (d : DerG P w K mg base N qual st f k t)
    (rd : ∀ a b c e G Q E, p a b c e G Q E → DRun t (some a :: some b :: some c :: some e :: l) G Q) : FnG P w K mg base (k + 1) f fd ps (cSp K (sp4 p)) :=
  DFunG.ok F S (fun ds G Q E h => by
    match ds, h with
    | [_, _, _, _], _ => exact hp.symm) d fun ds G Q E h => by
    match ds, h with
    | [a, b, c, e], h => subst hl; exact rd a b c e G Q E h
theorem DFunG.ok5 {p : D → D → D → D → D → GHp → DK → DXK → Prop} (F : FunD K x qual (defArgs st) (defBody st) (defScope st) dv kv f fd) (S : FnScope N ps (defScope st)) (hp : ps.length = 5) (hl : List.replicate (N.length - 5) none = l) (d : DerG P w K mg base N qual st f k t)
    (rd : ∀ a b c e g G Q E, p a b c e g G Q E → DRun t (some a :: some b :: some c :: some e :: some g :: l) G Q) : FnG P w K mg base (k + 1) f fd ps (cSp K (sp5 p)) :=
  DFunG.ok F S (fun ds G Q E h => by
    match ds, h with
    | [_, _, _, _, _], _ => exact hp.symm) d fun ds G Q E h => by
    match ds, h with
    | [a, b, c, e, g], h => subst hl; exact rd a b c e g G Q E h
theorem DFunG.ok6 {p : D → D → D → D → D → D → GHp → DK → DXK → Prop} (F : FunD K x qual (defArgs st) (defBody st) (defScope st) dv kv f fd) (S : FnScope N ps (defScope st)) (hp : ps.length = 6) (hl : List.replicate (N.length - 6) none = l) (d : DerG P w K mg base N qual st f k t)
    (rd : ∀ a b c e g i G Q E, p a b c e g i G Q E → DRun t (some a :: some b :: some c :: some e :: some g :: some i :: l) G Q) : FnG P w K mg base (k + 1) f fd ps (cSp K (sp6 p)) :=
  DFunG.ok F S (fun ds G Q E h => by
    match ds, h with
    | [_, _, _, _, _, _], _ => exact hp.symm) d fun ds G Q E h => by
    match ds, h with
    | [a, b, c, e, g, i], h => subst hl; exact rd a b c e g i G Q E h
end
/-! calls of such defs -/
section
variable {X : Cx} {k : Nat} {f : Addr} {fd : FuncData} {ps : List Str} {sp : DSp} {x : Str} {p pos : Pos} {e : Expr} {es : List Expr} {t : DTA}
theorem run_fnG {sp : Sp} {pins : List (Addr × Obj)} {σ : L2.St} {H : Hp} {s : Shared} {Q : VK} {us : List Value} {vs : List V} (F : FnG X.prog X.w X.K X.mg X.base k f fd ps sp) (hr : Room k X.A) (hgd : X.A.guards = some []) (hb : Binds X.K fd ps [])
    (I : Inv X pins σ H s) (r : Vals vs us) (h : sp vs H Q (fun _ _ _ => False)) : wpAny (model X.prog X.w) X.A (call (.ref f) us) (EP X pins σ Q) X.xe s := by
  have hl : (us ++ []).length = ps.length := by rw [List.append_nil, ← r.length]; exact F.len _ _ _ _ h
  have hbt := hb s us I.kIn hl
  rw [List.append_nil] at hbt
  refine wpAny_call (codeAny_mono (F.go X.A X.stack s H ⟨us, []⟩ us vs Q (fun _ _ _ => False) hr hgd I.env0 hbt r h) fun r s' hq => ?_)
  match r, hq with
  | .ok (.ret u), hq => exact I.after hq
  | .ok .next, hq => exact False.elim hq
  | .ok .brk, hq => exact False.elim hq
  | .ok .cont, hq => exact False.elim hq
  | .error e, hq => exact False.elim hq
theorem de_callG (F : FnG X.prog X.w X.K X.mg X.base k f fd ps (cSp X.K sp)) (hr : Room k X.A) (hgd : X.A.guards = some []) (hg : Gl X x) (hm : X.mg x = some (.ref f)) (hk : PySem.W.keepIn X.K (.ref f) = true) (hb : Binds X.K fd ps [])
    (ha : DA X (e :: es) t) (hdb : (x == ("__debug__" : Str)) = false := by decide) (he : starEach (e :: es) X.env = (false, eval e X.env) :: starEach es X.env := by rfl) (hpl : (backTo pos (starEach es X.env)).any (·.1) = false := by rfl) :
    DE X (.Call (.Name x p) (e :: es) [] pos) (dCall sp [] t) := by
  have h0 : PE X (.Call (.Name x p) (e :: es) [] pos) (tCall (cSp X.K sp) [] (fun _ _ _ => False) (cA X.K t)) := ⟨fun pins s σ H Q I h => by
    refine wpAny_Call_Name_kw (ld_glob I hg hm ?_ hdb)
    refine PySem.W.callWith_K (h₀ := X.base) I.ok.mod.kin hk (thn (ha.run pos pins s σ H _ I h) fun us s1 ⟨vs, H1, I1, r, q⟩ => ⟨I1.kIn, ?_⟩) he hpl
    have q : cSp X.K sp (vs ++ []) H1 Q (fun _ _ _ => False) := q
    rw [List.append_nil] at q
    exact run_fnG F hr hgd hb I1 r q⟩
  exact PE.mono h0 fun σ H Q ⟨δ, G, Z, Q0, ok, rs, h, k⟩ =>
    ⟨δ, G, Z, _, ok, rs, h, fun ds G1 vs H1 h1 k1 ok1 r1 => ⟨_, G1, Z, Q0, _, ok1, r1.append .nil, h1, fun d G' v H' q k2 ok2 r2 => k _ _ _ _ q (k1.trans k2) ok2 r2, .none⟩⟩
theorem de_callG0 (F : FnG X.prog X.w X.K X.mg X.base k f fd ps (cSp X.K sp)) (hr : Room k X.A) (hgd : X.A.guards = some []) (hg : Gl X x) (hm : X.mg x = some (.ref f)) (hk : PySem.W.keepIn X.K (.ref f) = true) (hb : Binds X.K fd ps [])
    (hdb : (x == ("__debug__" : Str)) = false := by decide) : DE X (.Call (.Name x p) [] [] pos) (dCall sp [] dNil) := by
  have h0 : PE X (.Call (.Name x p) [] [] pos) (tCall (cSp X.K sp) [] (fun _ _ _ => False) tNil) := ⟨fun pins s σ H Q I h => by
    refine wpAny_Call_Name_kw (ld_glob I hg hm ?_ hdb)
    exact PySem.W.callWith_K0 I.kIn hk (run_fnG (us := []) F hr hgd hb I .nil h)⟩
  exact PE.mono h0 fun σ H Q ⟨δ, G, Z, Q0, ok, rs, h, k⟩ => ⟨_, G, Z, Q0, _, ok, .nil, h, k, .none⟩
end
/-! repr -/
def reprOk (p : PyData) : Prop := p.showable = true ∧ p.hasDict = false ∧ p.depth ≤ 60 ∧ p.shown.length ≤ sizeLine
def dReprR (x : D) (G : GHp) (Q : DK) : Prop := ∃ p, DD G x p ∧ reprOk p ∧ Q (.str p.shown) G
def rRepr (K : PySem.W.Frag) : List V → Hp → VK → Prop := fun xs H Q => ∃ v p, xs = [v] ∧ Dp K H v p ∧ reprOk p ∧ Q (.str p.shown) H
section
variable {X : Cx}
theorem call_reprG (hg : X.A.guards = some []) (hu : X.A.units + 64 < cLine) : CallR X (.builtin "repr") (rRepr X.K) := by
  intro pins s σ H xs us Q I r h
  obtain ⟨v, p, rfl, hd, ⟨h1, h2, h3, h4⟩, q⟩ := h
  obtain ⟨u, rfl, rv⟩ := vals1 r
  have ref : ∀ a, u = .ref a → wpAny (model X.prog X.w) X.A (call (.builtin "repr") [u]) (EP X pins σ Q) X.xe s := by
    rintro a rfl
    obtain ⟨as, rd⟩ := Dp.reads I p v (.ref a) hd rv
    refine repr_of_reads' rd h1 (fun e => by rw [h2] at e; cases e) hg (by omega) (fun _ _ e => e) (fun h' u tk hk => ?_) h4
    exact ⟨.str _, H, I.kept hk, ⟨_, rfl⟩, q⟩
  cases hd with
  | non =>
    obtain rfl : u = .none := rv
    exact PySem.P.repr_of_none ⟨.str _, H, I.tok _, ⟨_, rfl⟩, q⟩
  | bl b =>
    obtain rfl : u = .bool b := rv
    exact PySem.P.repr_of_bool ⟨.str _, H, I.tok _, ⟨_, rfl⟩, q⟩
  | int i =>
    obtain ⟨t, rfl⟩ := rv
    exact PySem.P.repr_of_int (of_decide_eq_true h1) ⟨.str _, H, I.tok _, ⟨_, rfl⟩, q⟩
  | str y =>
    obtain ⟨t, rfl⟩ := rv
    exact PySem.P.repr_of_str ⟨.str _, H, I.tok _, ⟨_, rfl⟩, q⟩ h4
  | tup _ _ => exact ref _ rv
  | lst _ _ => exact ref _ rv
theorem dcall_repr (hg : X.A.guards = some []) (hu : X.A.units + 64 < cLine) : DCall X (.builtin "repr") (dR1 dReprR) :=
  dcall1 (call_reprG hg hu) fun x v H G Z Q Q0 ok r ⟨p, hd, h1, h⟩ k => ⟨v, p, rfl, hd.dp ok r, h1, k _ _ _ _ h .refl ok (.str _)⟩
end
/-! the law, where nothing is being shown -/
section
variable {P : Program} {w : World} {K : PySem.W.Frag} {mg mb : Str → Option Value} {k : Nat} {fa a : Addr} {fd : FuncData} {x : Str} {sp : Sp} {s₁ : Shared} {vs : List Value} {ns : List Int}
/-- the same where the script alone may be told of -/
theorem coreG {H : Hp} (KX : K.In s₁.heap) (nG : s₁.heap.Ns mainGlobals mg) (nB : s₁.heap.Ns builtinsNs mb) (boot : ∀ y : Str, y ≠ "__name__" → mb y = bootBuiltins y) (lim : s₁.heap.NoLimit) (gens : s₁.gens = #[])
    (ha : s₁.heap.get? a = some { cls := .type "list", data := .seq vs.toArray }) (room : Room k callerA) (F : ∀ base : Heap, K.In base → base.Ns mainGlobals mg → FnG P w K mg base k fa fd [x] sp)
    (bind1 : ∀ (s : Shared) (u : Value), BindsTo s fd ⟨[u], []⟩ [(x, u)]) (sp1 : sp [.ref a] H (fun v _ => v = .bl true) fun _ _ _ => False)
    (only : Only H) (hok : HOk P w H s₁.heap) (just : ∀ b, H b ≠ none → b = a) (out : H a ≠ none → K.lookup a = none) :
    codeAny (model P w) callerA (.call (.ref fa) ⟨[.ref a], []⟩) (fun r s' => r = .ok (.ret (.bool true)) ∧ OldK s₁.heap s'.heap ∧ s'.os = s₁.os ∧ AllBare s'.gens) s₁ := by
  have free : ∀ {b : Addr} {o : Obj} {es : Array DictEntry} {n : Nat}, s₁.heap.get? b = some o → o.data = .dict es n → H b = none := by
    intro b o es n e d
    refine Classical.byContradiction fun q => ?_
    have eb := just b q
    rw [eb, ha] at e
    cases e
    exact nomatch d
  have seen : ∀ {b : Addr} {m : Str → Option Value}, s₁.heap.Ns b m → (hidT s₁.heap H).Ns b m := by
    rintro b m ⟨o, es, n, e, d, r⟩
    exact ⟨o, es, n, hidT_get e (free e d), d, r⟩
  have KB : K.In (hidT s₁.heap H) := by
    intro b o e
    refine hidT_get (KX b o e) (Classical.byContradiction fun q => ?_)
    have eb := just b q
    rw [eb] at q e
    rw [out q] at e
    cases e
  obtain ⟨mc, l1, l2⟩ := lim
  have start0 : Env0 P w K mg (hidT s₁.heap H) callerA [] s₁ H :=
    { frames := rfl, mod := ⟨KB, seen nG, ⟨mb, seen nB, boot⟩, ⟨mc, seen l1, l2⟩⟩, bs := fun b o e => of_hidT e, bsz := Nat.le_of_eq (hidT_size _ _), funs := trivial
      frf := fun b hb => absurd hb (List.not_mem_nil), hok := hok, bare := .of_eq gens }
  have ran := (F _ KB (seen nG)).go callerA [] s₁ H ⟨[.ref a], []⟩ [.ref a] [.ref a] _ _ room rfl start0 (bind1 s₁ (.ref a)) (.cons rfl .nil) sp1
  refine codeAny_mono ran fun r s' h => ?_
  match r, h with
  | .error e, h => exact False.elim h
  | .ok .next, h => exact False.elim h
  | .ok .brk, h => exact False.elim h
  | .ok .cont, h => exact False.elim h
  | .ok (.ret u), h =>
    obtain ⟨v, H', os, bare, un, hok', rv, q⟩ := h
    have q : v = .bl true := q
    rw [q] at rv
    have rv : u = .bool true := rv
    rw [rv]
    refine ⟨rfl, OldK.of_keep fun b o e => ?_, os, bare⟩
    rcases only b with z | ⟨ob, xs, z⟩
    · exact un.keep b o e z (fun q => absurd q List.not_mem_nil) (List.not_mem_nil)
    · have w1 := (hok b _ z).1
      have w2 := (hok' b _ (un.frzs b ob _ z)).1
      rw [e] at w1
      cases w1
      exact w2
theorem law_callG (KX : K.In s₁.heap) (nG : s₁.heap.Ns mainGlobals mg) (nB : s₁.heap.Ns builtinsNs mb) (boot : ∀ y : Str, y ≠ "__name__" → mb y = bootBuiltins y) (lim : s₁.heap.NoLimit) (gens : s₁.gens = #[])
    (ha : s₁.heap.get? a = some { cls := .type "list", data := .seq vs.toArray }) (hi : IntsAre vs ns) (hl : ns.length ≤ sizeLine) (room : Room k callerA) (F : ∀ base : Heap, K.In base → base.Ns mainGlobals mg → FnG P w K mg base k fa fd [x] sp)
    (bind1 : ∀ (s : Shared) (u : Value), BindsTo s fd ⟨[u], []⟩ [(x, u)]) (hsp : ∀ H : Hp, SqL K H a (ns.map V.int) → sp [.ref a] H (fun v _ => v = .bl true) fun _ _ _ => False) :
    codeAny (model P w) callerA (.call (.ref fa) ⟨[.ref a], []⟩) (fun r s' => r = .ok (.ret (.bool true)) ∧ OldK s₁.heap s'.heap ∧ s'.os = s₁.os ∧ AllBare s'.gens) s₁ := by
  have rv := vals_ints hi
  have lv := hi.length
  cases hk : K.lookup a with
  | some o =>
    have e := KX a o hk
    rw [ha] at e
    cases e
    have hq : SqL K (fun _ => none) a (ns.map V.int) := .inr ⟨_, vs.toArray, _, hk, rfl, rfl, rfl, by rw [List.size_toArray, lv]; exact hl, by simpa using rv⟩
    exact coreG KX nG nB boot lim gens ha room F bind1 (hsp _ hq) (fun _ => .inl rfl) (fun b u z => nomatch z) (fun b z => (z rfl).elim) fun z => (z rfl).elim
  | none =>
    have e1 : (fun b => if b = a then some (HO.frz { cls := .type "list", data := .seq vs.toArray } (.lst (ns.map V.int))) else none) a = some (HO.frz { cls := .type "list", data := .seq vs.toArray } (.lst (ns.map V.int))) := if_pos rfl
    refine coreG (H := fun b => if b = a then some (.frz { cls := .type "list", data := .seq vs.toArray } (.lst (ns.map V.int))) else none) KX nG nB boot lim gens ha room F bind1 (hsp _ (.inl (.inr ⟨_, e1⟩))) (fun b => ?_) (fun b u z => ?_) (fun b z => ?_) fun _ => hk
    · dsimp only
      split
      · exact .inr ⟨_, _, rfl⟩
      · exact .inl rfl
    · dsimp only at z
      split at z
      · next c => cases z; subst c; exact ⟨ha, by rw [List.length_map]; exact hl, vs, _, rv, ha⟩
      · cases z
    · refine Classical.byContradiction fun c => z ?_
      exact if_neg c
end
theorem walk_lawG {l : PySem.W.OpenLaw} {n k : Nat} {q : Program} {loose : List Str} {XP : (Str → Option Value) → Heap → Prop} {YP : World → Heap → Prop} {d : DefRec} {x : Str}
    (hn : l.most = some n) (hn2 : n ≤ sizeLine) (hdf : d.params.defaults = []) (hr : Room k callerA)
    (F : ∀ (w : World) (mg : Str → Option Value) (fa : Addr) (h : Heap), YP w h → h.Ns mainGlobals mg → mg d.name = some (.ref fa) →
      ∃ (K : PySem.W.Frag) (fd : FuncData), K.In h ∧ (∀ (s : Shared) (u : Value), BindsTo s fd ⟨[u], []⟩ [(x, u)]) ∧ ∀ base : Heap, K.In base → base.Ns mainGlobals mg → FnG l.prog w K mg base k fa fd [x] (cSp K (spLaw n))) :
    PySem.W.WalkO q loose XP YP l.row.toRowW d [] (fun f vs => PySem.call f vs) := by
  apply Att.attach_callB hn hdf
  intro w s₀ s₁ mg mb fa o pm cd doc a vs ns g y ho hd hcd hmg hobj hints hlen hbits hg
  obtain ⟨K, fd, KX, hb, hF⟩ := F w mg fa _ y g.T.g hmg
  exact law_callG KX g.T.g g.T.b g.T.builtins g.T.nolimit hg hobj hints (Nat.le_trans hlen hn2) hr hF hb fun H hS => law_sp hlen hbits hS
end DL
set_option Elab.async false
set_option linter.all false
set_option maxRecDepth 100000
set_option maxHeartbeats 1000000
/-! DL, part 33: an exception of one's own as a value. -/
namespace DL
open PySem PySem.Spec L2 PyProof.Rows
section
variable {X : Cx} {e : Expr} {es : List Expr} {ta : TA} {x : Str} {C fI : Addr} {p pos : Pos} {k : Nat} {fd : FuncData} {ps : List Str} {f : Str}
/-- C(e): a new exception, held -/
theorem pe_newX {sp : Sp} (T : OexC X.K C) (iC : PySem.W.findIn X.K (.ref C) "__init__" = some (some (.ref fI))) (tI : PySem.W.typeIn X.K (.ref fI) = some (.type "function"))
    (F1 : FnOk X.prog X.w X.K X.mg X.base CX0 k fI fd ps sp) (hr : Room (k + 1) X.A) (hb : Binds X.K fd ps []) (hg : Gl X x) (hm : X.mg x = some (.ref C)) (ha : PA X (e :: es) ta)
    (hdb : (x == ("__debug__" : Str)) = false := by decide) (he : starEach (e :: es) X.env = (false, eval e X.env) :: starEach es X.env := by rfl) (hpl : (backTo pos (starEach es X.env)).any (·.1) = false := by rfl) :
    PE X (.Call (.Name x p) (e :: es) [] pos) (fun σ H Q => ta σ H fun vs H1 => vs.length ≤ 1000 ∧ ∀ a, H1 a = none → sp (.ref a :: vs) (upd H1 a (exo a C none)) (fun v H2 => v = .non ∧ Q (.ref a) H2) (fun _ _ _ => False)) := by
  refine ⟨fun pins s σ H Q I h => ?_⟩
  obtain ⟨nm, q, N, bs, bm, sn, sub, ab, col, dd, k0, k1, k2, k3, k5, hC, hbm⟩ := T.cls
  apply wpAny_Call_Name_kw
  apply ld_glob I hg hm ?_ hdb
  refine PySem.W.callWith_K (h₀ := X.base) I.ok.mod.kin T.kC (thn (ha.run pos pins s σ H _ I h) fun us s1 hh => ?_) he hpl
  obtain ⟨vs, H1, I1, r1, hz, q1⟩ := hh
  refine ⟨I1.kIn, ?_⟩
  show wpAny _ _ (call (.ref C) us) _ _ _
  obtain ⟨hp, g, dr, tk, os⟩ := s1
  obtain ⟨A0, hA0⟩ : ∃ A0, A0 = hp.objs.size + 1 := ⟨_, rfl⟩
  have big : hp.objs.size ≤ A0 := by omega
  have none1 : H1 A0 = none := I1.hok.fresh big
  have q2 := q1 A0 none1
  have keeps : ∀ b o, hp.get? b = some o → ((hp.push (PySem.W.kdv_tup us)).push (PySem.HandSPX.excO C hp.objs.size)).get? b = some o := fun b o e => Heap.get?_push_of_some _ (Heap.get?_push_of_some _ e)
  have at_ : ((hp.push (PySem.W.kdv_tup us)).push (PySem.HandSPX.excO C hp.objs.size)).get? A0 = some (PySem.HandSPX.excO C hp.objs.size) := by rw [hA0]; heap_get
  have I2 := I1.laid (t' := tk) (a := A0) (o := exo A0 C none) (h' := (hp.push (PySem.W.kdv_tup us)).push (PySem.HandSPX.excO C hp.objs.size)) keeps big (exo_ok at_)
  have r2 : Vals (V.ref A0 :: vs) (Value.ref A0 :: us) := .cons rfl r1
  have hl : (Value.ref A0 :: us ++ []).length = ps.length := by
    rw [List.append_nil, ← r2.length]
    exact F1.len _ _ _ _ q2
  have hus : us.length ≤ sizeLine := by rw [← Paired.length r1, sizeLine_eq]; omega
  have bnd := hb _ (Value.ref A0 :: us) I2.kIn hl
  rw [List.append_nil] at bnd
  have ran := F1.run _ X.stack _ _ ⟨Value.ref A0 :: us, []⟩ (Value.ref A0 :: us) _ _ (fun _ _ _ => False) (hr.make C us []) (I2.env0.make C us []) bnd r2 q2
  rw [hA0] at ran
  refine wpAny_call (PySem.HandSPX.call_own F.excBase_ValueError (fun Y => PySem.HandSPX.refsVE_contains Y bm hbm) (I1.kIn _ _ hC) (PySem.W.looks_findIn I1.kIn iC) (fun self => PySem.W.bind_fn I1.kIn self tI) hus (codeAny_mono ran fun r s' hq => ?_))
  match r, hq with
  | .error er, hq => exact False.elim hq
  | .ok .next, hq => exact False.elim hq
  | .ok .brk, hq => exact False.elim hq
  | .ok .cont, hq => exact False.elim hq
  | .ok (.ret u), hq =>
    rw [← hA0] at hq
    obtain ⟨v, H2, os2, bare2, un2, hok2, rv, ev, q3⟩ := hq
    subst ev
    have J := I2.after (Q := fun v H2 => v = .non ∧ Q (.ref A0) H2) ⟨.non, H2, os2, bare2, un2, hok2, rv, rfl, q3⟩
    obtain ⟨v, H3, I3, rv3, ev3, q4⟩ := J
    subst ev3
    refine ⟨rv, ?_⟩
    exact ⟨.ref A0, H3, I3, by rw [hA0]; rfl, q4⟩
end
def dNewX (C : Addr) (f : Str) (ta : DTA) : DTE := fun δ G Q => ta δ G fun ds G1 => match ds with
  | [d] => ∀ a, G1 a = none → Q (.ref a) (gupd G1 a (.exo C [(f, d)]))
  | _ => False
section
variable {X : Cx} {e : Expr} {es : List Expr} {ta : DTA} {x : Str} {C fI : Addr} {p pos : Pos} {k : Nat} {fd : FuncData} {ps : List Str} {f : Str}
theorem de_newX (T : OexC X.K C) (T2 : ExoF X.K C) (iC : PySem.W.findIn X.K (.ref C) "__init__" = some (some (.ref fI))) (tI : PySem.W.typeIn X.K (.ref fI) = some (.type "function"))
    (F1 : FnOk X.prog X.w X.K X.mg X.base CX0 k fI fd ps (spI C f)) (hr : Room (k + 1) X.A) (hb : Binds X.K fd ps []) (hg : Gl X x) (hm : X.mg x = some (.ref C)) (ha : DA X (e :: es) ta)
    (hdb : (x == ("__debug__" : Str)) = false := by decide) (he : starEach (e :: es) X.env = (false, eval e X.env) :: starEach es X.env := by rfl) (hpl : (backTo pos (starEach es X.env)).any (·.1) = false := by rfl) :
    DE X (.Call (.Name x p) (e :: es) [] pos) (dNewX C f ta) :=
  PE.mono (pe_newX T iC tI F1 hr hb hg hm ha hdb he hpl) fun σ H Q ⟨δ, G, Z, Q0, ok, rs, h, kq⟩ =>
    ⟨δ, G, Z, _, ok, rs, h, fun ds G1 vs H1 h1 k1 ok1 r1 => by
      rcases r1 with _ | ⟨ra, r1⟩
      · exact False.elim h1
      rcases r1 with _ | ⟨rb, r1⟩
      · next d v =>
        refine ⟨by simp, fun a hna => ⟨a, v, rfl, upd_same, fun dx hdx hne => ⟨rfl, ?_⟩⟩⟩
        have h1 : ∀ a, G1 a = none → Q0 (.ref a) (gupd G1 a (.exo C [(f, d)])) := h1
        have hdx' : H1 dx = none := by rw [upd_ne hne] at hdx; exact hdx
        have ea : (upd (upd (upd H1 a (exo a C none)) dx (exd dx [(f, v)])) a (exo a C (some dx))) = upd (upd H1 dx (exd dx [(f, v)])) a (exo a C (some dx)) := by
          funext b
          by_cases q : b = a
          · rw [q, upd_same, upd_same]
          · rw [upd_ne q, upd_ne q]
            by_cases q2 : b = dx
            · rw [q2, upd_same, upd_same]
            · rw [upd_ne q2, upd_ne q2, upd_ne q]
        rw [ea]
        have k2 : Kp H1 G1 Z (upd H1 dx (exd dx [(f, v)])) G1 := Kp.laid hdx'
        have ok2 := ok1.laid (o := exd dx [(f, v)]) hdx'
        have ha2 : (upd H1 dx (exd dx [(f, v)])) a = none := by rw [upd_ne (Ne.symm hne)]; exact hna
        have ga : G1 a = none := (ok1.free hna).1
        have k3 : Kp (upd H1 dx (exd dx [(f, v)])) G1 Z (upd (upd H1 dx (exd dx [(f, v)])) a (exo a C (some dx))) (gupd G1 a (.exo C [(f, d)])) := Kp.laidG ha2 ga
        have fr := ok1.free hdx'
        refine kq _ _ _ _ (h1 a ga) (k1.trans (k2.trans k3)) (ok2.laidG ha2 ⟨T2, dx, [(f, v)], upd_same, U_of (by rw [gupd_ne hne]; exact fr.1) fr.2 (by rw [upd_ne hne, upd_same]), rfl, .cons (ra.mono (k2.trans k3).keep) .nil⟩) (.ref a)
      · exact False.elim h1⟩
end
/-! what the module's own exception class tells -/
def exoB (K : PySem.W.Frag) (C : Addr) : Bool :=
  decide (PySem.W.findIn K (.ref C) "__getattribute__" = some (some (.builtin "BaseException.__getattribute__"))) && (decide (PySem.W.findIn K (.ref C) "__getattr__" = some none) && (decide (PySem.W.subIn K (.ref C) (.type "BaseException") = some true) && (PySem.W.hasDictIn K C &&
  (decide (PySem.W.findIn K (.ref C) "__class__" = some (some (.builtin "object.__class__"))) && (decide (PySem.W.specialIn K (.builtin "object.__class__") "__get__" = some (some (.builtin "getset_descriptor.__get__"))) && (decide (PySem.W.takesIn K (.builtin "object.__class__") = some true) &&
  (decide (PySem.W.mroIn K C (.type "object") = some true) && [Tg.int, .bool, .str, .tup, .lst, .dct, .non, .exc].all fun t => decide (PySem.W.kitOne K (.ref C) (.type t.name) = some false))))))))
theorem exoB_ok {K : PySem.W.Frag} {C : Addr} (h : exoB K C = true) : ExoF K C := by
  unfold exoB at h
  simp only [Bool.and_eq_true, decide_eq_true_eq, List.all_eq_true] at h
  obtain ⟨h1, h2, h3, h4, h5, h6, h7, h8, h9⟩ := h
  exact ⟨⟨h1, h2, h3, h4, h5, h6, h7, h8⟩, fun t => h9 t (by cases t <;> simp)⟩
end DL
set_option Elab.async false
set_option linter.all false
set_option maxRecDepth 100000
set_option maxHeartbeats 1000000
/-! DL, part 34: pairs taken apart while an exception is handled. -/
namespace DL
open PySem PySem.Spec L2 PyProof.Rows HotX
section
variable {prog : Program} {w : World} {A : Around} {E : Value → Shared → Prop} {s : Shared}
/-- a tuple's iterator at its end, where an exception is handled -/
theorem tupEndHot {q t x1 : Addr} {n : Nat} {its : Array Value} {Q : Option Value → Shared → Prop} (hot : HotAt A x1 s.heap) (hx1 : x1 ≠ q) (hq : IsTupIter s.heap q t n) (ht : IsTup s.heap t its) (hn : its[n]? = none)
    (hQ : ∀ h', Heap.ExtBut q s.heap h' → Q none { s with heap := h' }) : wpAny (model prog w) A (pyNext (.ref q)) Q E s := by
  obtain ⟨oq, g1, c1, d1⟩ := id hq
  obtain ⟨ot, g2, _, l2, d2⟩ := ht
  obtain ⟨hh, o1, vs1, h1, dd1, cc1⟩ := hot
  unfold pyNext
  refine wpAny_bind (wpAny_attempt (wpAny_callSpecial?_slot (name := Str.ofString "__next__") hq.typeIs slot_tupleiter_next
    (wpAny_call_entry slot_tupleiter_next hq.typeIs entry_tupleiter_next ?_ (args_tupleiter_next _))))
  show wpAny _ _ (field (.ref q) 0 >>= _) _ _ s
  refine wpAny_bind (wpAny_field g1 d1 (x := .ref t) rfl ?_)
  show wpAny _ _ (if (Value.ref t == Value.none) = true then _ else _) _ _ s
  rw [if_neg (show ¬ ((Value.ref t == Value.none) = true) from Bool.false_ne_true)]
  show wpAny _ _ (field (.ref q) 1 >>= _) _ _ s
  refine wpAny_bind (wpAny_field g1 d1 (x := .int n 0) rfl ?_)
  show wpAny _ _ (seqItems? (.ref t) >>= _) _ _ s
  refine wpAny_bind (wpAny_seqItems g2 d2 ?_)
  simp only [Int.toNat_natCast, hn]
  refine wpAny_bind (wpAny_rule (wpAny_bind (wpAny_setField g1 d1 (by simp) ?_)))
  show wpAny _ _ (newExc (.type "StopIteration") [] >>= _) _ _ _
  refine wpAny_bind ?_
  simp only [newExc, newTuple]
  refine wpAny_bind (wpAny_newObj_type ?_ (by size_fits))
  refine wpAny_bind (m := firstArgMember _ _) (wpAny_of_eq (a := Value.none) (by first | rfl | (simp only [firstArgMember]; rfl)) ?_)
  refine wpAny_newObj_type ?_ (by size_fits)
  have h2 : (s.heap.update q (Obj.mapFields fun x => x.setIfInBounds 0 Value.none)).get? x1 = some o1 := by
    rw [Heap.get?_update_other _ _ (Ne.symm hx1)]
    exact h1
  refine raiseNew_hot ⟨hh, o1, vs1, Heap.get?_push_of_some _ (Heap.get?_push_of_some _ h2), dd1, cc1⟩ (Nat.ne_of_lt (Heap.lt_size (Heap.get?_push_of_some _ h2))) (Heap.get?_push_size _ rfl) rfl
    (by first | (simp; done) | (simp; omega) | (simp only [Array.size_append]; simp; omega)) ?_
  refine wpAny_bind (wpAny_isInstance (T := "StopIteration") (b := true) ⟨_, Heap.get?_update_self _ (Heap.get?_push_size _ rfl) rfl, rfl⟩ isSubtype_stop ?_)
  refine wpAny_pure (hQ _ fun b o hb e => ?_)
  have e2 : (s.heap.update q (Obj.mapFields fun x => x.setIfInBounds 0 Value.none)).get? b = some o := by
    rw [Heap.get?_update_other _ _ (Ne.symm hb)]
    exact e
  rw [Heap.get?_update_other _ _ (Nat.ne_of_gt (Heap.lt_size (Heap.get?_push_of_some _ e2)))]
  exact Heap.get?_push_of_some _ (Heap.get?_push_of_some _ e2)
theorem apartHot {t x1 : Addr} {its : Array Value} {Q : List Value → Shared → Prop} (hot : HotAt A x1 s.heap) (ht : IsTup s.heap t its)
    (hQ : ∀ h', Heap.ExtBut s.heap.objs.size s.heap h' → Q its.toList { s with heap := h' }) : wpAny (model prog w) A (unpackItems (.ref t) its.size none) Q E s := by
  have tne : t ≠ s.heap.objs.size := by
    obtain ⟨o, ho, _⟩ := ht
    exact Nat.ne_of_lt (Heap.lt_size ho)
  obtain ⟨hh, o1, vs1, h1, dd1, cc1⟩ := hot
  have xne : x1 ≠ s.heap.objs.size := Nat.ne_of_lt (Heap.lt_size h1)
  unfold unpackItems
  refine wpAny_bind ?_
  unfold notIterableAtAll
  refine wpAny_bind (wpAny_specialOf ht.typeIs slot_tuple_iter.lookup ?_)
  refine wpAny_pure ?_
  simp only [Bool.false_eq_true, if_false]
  refine wpAny_bind (wpAny_holding (iter_tuple ht ?_))
  refine wpAny_bind (wpAny_holding (draw_tuple tne its.size 0 _ _ ⟨_, Heap.get?_push_size _ rfl, rfl, rfl⟩ (ht.push _) (by omega) fun g1 it1 sb1 => ?_))
  have all_ : List.take its.size (List.drop 0 its.toList) = its.toList := by
    rw [List.drop_zero]
    exact List.take_of_length_le (by simp)
  rw [all_, if_neg (by simp)]
  have tg : IsTup g1 t its := (ht.push _).extBut sb1.extBut tne
  have xg : g1.get? x1 = some o1 := sb1.extBut x1 o1 xne (Heap.get?_push_of_some _ h1)
  refine wpAny_bind (wpAny_holding (tupEndHot ⟨hh, o1, vs1, xg, dd1, cc1⟩ xne it1 tg (by simp) fun g2 eb2 => ?_))
  simp only [Option.isSome_none, Bool.false_eq_true, if_false]
  exact wpAny_pure (hQ g2 fun b o hb e => eb2 b o hb (sb1.extBut b o hb (Heap.get?_push_of_some _ e)))
end
/-- a, b = x, y with plain local names, where an exception is handled -/
theorem ps_parH {X : Cx} {i j : Nat} {x y : Str} {a b : Expr} {ta : TA} {px py pt pos : Pos} {kt k2 pt2} (hc : L2H.HotC X) (hN : X.N.Nodup) (hi : X.N[i]? = some x) (hj : X.N[j]? = some y) (hij : i ≠ j)
    (hx : X.env.scope.names.lookup x = some .local) (hy : X.env.scope.names.lookup y = some .local) (ha : PA X [a, b] ta)
    (hw : swappedStores [.Tuple [.Name x px, .Name y py] kt pt] (.Tuple [a, b] k2 pt2) X.env = pure (some [x, y]))
    (hs : swapsWithSole [.Tuple [.Name x px, .Name y py] kt pt] (.Tuple [a, b] k2 pt2) pos.line X.env = pure false := by rfl) :
    PS X (.Assign [.Tuple [.Name x px, .Name y py] kt pt] (.Tuple [a, b] k2 pt2) pos) (tPar i j ta) := by
  refine ⟨fun pins s σ H D I h => ?_⟩
  rw [exec_Assign_arm]
  refine wpAny_bind (wpAny_standAt ?_)
  rw [hs]
  refine wpAny_bind (wpAny_pure ?_)
  rw [if_neg (by decide)]
  refine wpAny_bind (Tuple_ (thn (ha.run _ pins s σ H _ I h) fun us s1 ⟨vs, H1, I1, r1, v, w, e1, q1⟩ => ?_))
  subst e1
  obtain ⟨u1, u2, rfl, rv, rw_⟩ : ∃ u1 u2, us = [u1, u2] ∧ RelV v u1 ∧ RelV w u2 := by
    cases r1 with
    | cons r2 t1 =>
      cases t1 with
      | cons r3 t2 =>
        cases t2
        exact ⟨_, _, rfl, r2, r3⟩
  refine wpAny_newObj_type ?_ (by show 2 ≤ sizeLine; decide)
  have J : Inv X pins σ H1 { s1 with heap := s1.heap.push { cls := .type "tuple", data := .seq [u1, u2].toArray } } := I1.kept (t' := s1.toks) fun b o e => Heap.get?_push_of_some _ e
  obtain ⟨x1, hot⟩ := hc.at J
  rw [hw]
  refine wpAny_bind (wpAny_pure ?_)
  show wpAny (model X.prog X.w) X.A (do rule "assign.swapped-stores"; let zs ← unpackItems (.ref s1.heap.objs.size) 2 none; assignInOrder [fun z => bindName X.env y z, fun z => bindName X.env x z] zs.reverse; pure Flow.next) _ _ _
  refine wpAny_bind (wpAny_rule (wpAny_bind (apartHot (its := #[u1, u2]) hot (IsTup.new s1.heap _) fun g1 eb => ?_)))
  have J1 := J.kept (h' := g1) (t' := s1.toks) fun b o e => eb b o (Nat.ne_of_lt (Heap.lt_size e)) e
  show wpAny _ _ (assignInOrder [fun z => bindName X.env y z, fun z => bindName X.env x z] [u2, u1] >>= fun _ => pure Flow.next) _ _ _
  refine wpAny_bind (assignInOrder_cons (wpAny_bindName (store_ok J1 hN hj (.inl hy) rw_ (fun s2 J2 => ?_) (.inr hy))))
  refine assignInOrder_cons (wpAny_bindName (store_ok J2 hN hi (.inl hx) rv (fun s3 J3 => assignInOrder_nil (wpAny_pure ?_)) (.inr hx)))
  have J3 := J3
  rw [List.set_comm _ _ (Ne.symm hij)] at J3
  exact ⟨_, H1, J3, q1⟩
end DL
set_option Elab.async false
set_option linter.all false
set_option maxRecDepth 100000
set_option maxHeartbeats 1000000
/-! DL, part 35: exceptions whose context is None (L2N). Printed by mk35.py out of DL12, DL14, DL16, DL18. -/
namespace DL
open PySem PySem.Spec L2
def DMkN (X : Cx) (e : Expr) (t : DTM) : Prop := L2N.PMk X e (cM X.K t)
theorem PMkN.mono {X : Cx} {e : Expr} {t u : St → Hp → XK → Prop} (h : L2N.PMk X e t) (k : ∀ σ H Q, u σ H Q → t σ H Q) : L2N.PMk X e u := fun pins s σ H Q I q => h pins s σ H Q I (k σ H Q q)
section
variable {X : Cx} {W : WX} {e : Expr} {t : DTX} {tm : DTM} {pos : Pos}
theorem ds_raiseN (hc : X.calm = true) (tk : L2N.Takes X W) (he : DMkN X e tm) : DS X W (.Raise (some e) none pos) (dRaise tm) :=
  PS.mono (L2N.ps_raise hc tk he) fun E σ H ⟨δ, G, Z, D0, ok, rs, h, l⟩ => ⟨δ, G, Z, _, ok, rs, h, l.xl rs⟩
theorem de_callXN {k : Nat} {f : Addr} {fd : FuncData} {ps : List Str} {sp : DSp} {x : Str} {p : Pos} {es : List Expr} {ta : DTA} (tk : L2N.Takes X W) (F : FnOk X.prog X.w X.K X.mg X.base (L2N.CX X.prog X.w) k f fd ps (cSp X.K sp)) (hr : Room k X.A) (hg : Gl X x) (hm : X.mg x = some (.ref f)) (hk : PySem.W.keepIn X.K (.ref f) = true) (hb : Binds X.K fd ps [])
    (ha : DA X (e :: es) ta) (hdb : (x == ("__debug__" : Str)) = false := by decide) (he : starEach (e :: es) X.env = (false, eval e X.env) :: starEach es X.env := by rfl) (hpl : (backTo pos (starEach es X.env)).any (·.1) = false := by rfl) :
    DEx X W (.Call (.Name x p) (e :: es) [] pos) (dCallX sp ta) :=
  PE.mono (pe_callS (E := WE W) F hr hg hm hk hb (fun σ => L2N.passAt tk σ) ha hdb he hpl) fun σ H Q ⟨δ, G, Z, Q0, E0, ok, rs, h, k, x⟩ =>
    ⟨δ, G, Z, _, ok, rs, h, fun ds G1 vs H1 h1 k1 ok1 r1 => ⟨ds, G1, Z, Q0, E0, ok1, r1, h1, fun d G' v H' q k2 ok2 r2 => k _ _ _ _ q (k1.trans k2) ok2 r2, x.after k1⟩⟩
end
theorem takes_w0N {X : Cx} : L2N.Takes X W0 := fun u s' ⟨a, B, sI, pins, σ, H, cls, d, e, I, nb, up, sky, na, os, ag, w⟩ => w.elim
theorem passX0N {X : Cx} : Passes (L2N.CX X.prog X.w) X (fun _ _ _ => False) := fun pins σ H s e s' I c => L2N.passAt (W := W0) takes_w0N σ pins H s e s' I c
section
variable {P : Program} {w : World} {K : PySem.W.Frag} {mg : Str → Option Value} {base : Heap} {x qual : Str} {st : Stmt} {f : Addr} {fd : FuncData} {N ps : List Str} {k : Nat} {t : DTS} {l : DSt} {dv : List V} {kv : List (Str × V)}
theorem takes_cxN {scope : Scope} {cdv : Value} {A : Around} {outer : List Env} {s : Shared} {H : Hp} {E : XK} : L2N.Takes (cxOf (L2N.CX P w) P w K mg base N qual scope f cdv A outer s H E) (WD E) := L2N.takes_of rfl rfl rfl rfl
theorem passes_cxN {scope : Scope} {cdv : Value} {A : Around} {outer : List Env} {s : Shared} {H : Hp} {E : XK} : PassesOwn (model P w) (cxOf (L2N.CX P w) P w K mg base N qual scope f cdv A outer s H E).A (cxOf (L2N.CX P w) P w K mg base N qual scope f cdv A outer s H E).env (cxOf (L2N.CX P w) P w K mg base N qual scope f cdv A outer s H E).xe := passes_of rfl
abbrev DerXN (P : Program) (w : World) (K : PySem.W.Frag) (mg : Str → Option Value) (base : Heap) (N : List Str) (qual : Str) (st : Stmt) (f : Addr) (k : Nat) (t : DTS) : Prop :=
  ∀ (cdv : Value) (A : Around) (outer : List Env) (s : Shared) (H : Hp) (E : XK), Room k (A.deeper (PyProof.Rows.envOfC qual (defScope st) s.heap.objs.size f cdv)) → DSs (cxOf (L2N.CX P w) P w K mg base N qual (defScope st) f cdv A outer s H E) (WD E) (defBody st) t
theorem DFunXN.ok {sp : DSp} (F : FunD K x qual (defArgs st) (defBody st) (defScope st) dv kv f fd) (S : FnScope N ps (defScope st)) (len : ∀ ds G Q E, sp ds G Q E → ds.length = ps.length) (d : DerXN P w K mg base N qual st f k t)
    (rd : ∀ ds G Q E0, sp ds G Q E0 → DRunX t (dstart N ds) G Q E0) : FnOk P w K mg base (L2N.CX P w) (k + 1) f fd ps (cSp K sp) := by
  refine F.ok S (fun vs H Q E ⟨ds, G, Z, Q0, E0, ok, rs, h, k, x⟩ => rs.length.symm.trans (len _ _ _ _ h)) fun cdv A outer s H vs Q E hr ⟨ds, G, Z, Q0, E0, ok, rs, h, k, x⟩ => ?_
  refine ⟨_, d cdv A outer s H E hr, _, G, Z, _, ok, RepSt.start rs, rd ds G Q0 E0 h, ⟨fun δ' G' σ' H' q k1 ok1 _ => k _ _ _ _ q k1 ok1 .non, fun _ _ _ _ q => q.elim, fun _ _ _ _ q => q.elim, fun d G' v H' q k1 ok1 r1 => k _ _ _ _ q k1 ok1 r1,
    fun c δ' G' σ' H' q k1 ok1 _ => x.bare c G' H' q k1 ok1, fun c fs δ' G' σ' H' dx xs q k1 ok1 _ u e r => x.own c fs G' H' dx xs q k1 ok1 u e r⟩⟩
theorem DFunXN.ok0 {p : GHp → DK → DXK → Prop} (F : FunD K x qual (defArgs st) (defBody st) (defScope st) dv kv f fd) (S : FnScope N ps (defScope st)) (hp : ps.length = 0) (hl : List.replicate (N.length - 0) none = l) (d : DerXN P w K mg base N qual st f k t)
    (rd : ∀ G Q E, p G Q E → DRunX t (l) G Q E) : FnOk P w K mg base (L2N.CX P w) (k + 1) f fd ps (cSp K (sp0 p)) :=
  DFunXN.ok F S (fun ds G Q E h => by
    match ds, h with
    | [], _ => exact hp.symm) d fun ds G Q E0 h => by
    match ds, h with
    | [], h => subst hl; exact rd G Q E0 h
theorem DFunXN.ok1 {p : D → GHp → DK → DXK → Prop} (F : FunD K x qual (defArgs st) (defBody st) (defScope st) dv kv f fd) (S : FnScope N ps (defScope st)) (hp : ps.length = 1) (hl : List.replicate (N.length - 1) none = l) (d : DerXN P w K mg base N qual st f k t)
    (rd : ∀ a G Q E, p a G Q E → DRunX t (some a :: l) G Q E) : FnOk P w K mg base (L2N.CX P w) (k + 1) f fd ps (cSp K (sp1 p)) :=
  DFunXN.ok F S (fun ds G Q E h => by
    match ds, h with
    | [_], _ => exact hp.symm) d fun ds G Q E0 h => by
    match ds, h with
    | [a], h => subst hl; exact rd a G Q E0 h
theorem DFunXN.ok2 {p : D → D → GHp → DK → DXK → Prop} (F : FunD K x qual (defArgs st) (defBody st) (defScope st) dv kv f fd) (S : FnScope N ps (defScope st)) (hp : ps.length = 2) (hl : List.replicate (N.length - 2) none = l) (d : DerXN P w K mg base N qual st f k t)
    (rd : ∀ a b G Q E, p a b G Q E → DRunX t (some a :: some b :: l) G Q E) : FnOk P w K mg base (L2N.CX P w) (k + 1) f fd ps (cSp K (sp2 p)) :=
  DFunXN.ok F S (fun ds G Q E h => by
    match ds, h with
    | [_, _], _ => exact hp.symm) d fun ds G Q E0 h => by
    match ds, h with
    | [a, b], h => subst hl; exact rd a b G Q E0 h
theorem DFunXN.ok3 {p : D → D → D → GHp → DK → DXK → Prop} (F : FunD K x qual (defArgs st) (defBody st) (defScope st) dv kv f fd) (S : FnScope N ps (defScope st)) (hp : ps.length = 3) (hl : List.replicate (N.length - 3) none = l) (d : DerXN P w K mg base N qual st f k t)
    (rd : ∀ a b c G Q E, p a b c G Q E → DRunX t (some a :: some b :: some c :: l) G Q E) : FnOk P w K mg base (L2N.CX P w) (k + 1) f fd ps (cSp K (sp3 p)) :=
  DFunXN.ok F S (fun ds G Q E h => by
    match ds, h with
    | [_, _, _], _ => exact hp.symm) d fun ds G Q E0 h => by
    match ds, h with
    | [a, b, c], h => subst hl; exact rd a b c G Q E0 h
theorem DFunXN.ok4 {p : D → D → D → D → GHp → DK → DXK → Prop} (F : FunD K x qual (defArgs st) (defBody st) (defScope st) dv kv f fd) (S : FnScope N ps (defScope st)) (hp : ps.length = 4) (hl : List.replicate (N.length - 4) none = l) (d : DerXN P w K mg base N qual st f k t)
    (rd : ∀ a b c e G Q E, p a b c e G Q E → DRunX t (some a :: some b :: some c :: some e :: l) G Q E) : FnOk P w K mg base (L2N.CX P w) (k + 1) f fd ps (cSp K (sp4 p)) :=
  DFunXN.ok F S (fun ds G Q E h => by
    match ds, h with
    | [_, _, _, _], _ => exact hp.symm) d fun ds G Q E0 h => by
    match ds, h with
    | [a, b, c, e], h => subst hl; exact rd a b c e G Q E0 h
theorem DFunXN.ok5 {p : D → D → D → D → D → GHp → DK → DXK → Prop} (F : FunD K x qual (defArgs st) (defBody st) (defScope st) dv kv f fd) (S : FnScope N ps (defScope st)) (hp : ps.length = 5) (hl : List.replicate (N.length - 5) none = l) (d : DerXN P w K mg base N qual st f k t)
    (rd : ∀ a b c e g G Q E, p a b c e g G Q E → DRunX t (some a :: some b :: some c :: some e :: some g :: l) G Q E) : FnOk P w K mg base (L2N.CX P w) (k + 1) f fd ps (cSp K (sp5 p)) :=
  DFunXN.ok F S (fun ds G Q E h => by
    match ds, h with
    | [_, _, _, _, _], _ => exact hp.symm) d fun ds G Q E0 h => by
    match ds, h with
    | [a, b, c, e, g], h => subst hl; exact rd a b c e g G Q E0 h
theorem DFunXN.ok6 {p : D → D → D → D → D → D → GHp → DK → DXK → Prop} (F : FunD K x qual (defArgs st) (defBody st) (defScope st) dv kv f fd) (S : FnScope N ps (defScope st)) (hp : ps.length = 6) (hl : List.replicate (N.length - 6) none = l) (d : DerXN P w K mg base N qual st f k t)
    (rd : ∀ a b c e g i G Q E, p a b c e g i G Q E → DRunX t (some a :: some b :: some c :: some e :: some g :: some i :: l) G Q E) : FnOk P w K mg base (L2N.CX P w) (k + 1) f fd ps (cSp K (sp6 p)) :=
  DFunXN.ok F S (fun ds G Q E h => by
    match ds, h with
    | [_, _, _, _, _, _], _ => exact hp.symm) d fun ds G Q E0 h => by
    match ds, h with
    | [a, b, c, e, g, i], h => subst hl; exact rd a b c e g i G Q E0 h
end
section
variable {X : Cx} {W : WX} {x n f : Str} {c : Value} {C : Addr} {i : Nat} {body : List Stmt} {np p1 p2 p3 pos pos' : Pos} {tb : DTS}
theorem ds_tryRetN (hs : X.stack = X.env :: X.outer) (hf : X.env.frame = some X.env.locals) (hN : X.N.Nodup) (hi : X.N[i]? = some n) (hln : X.env.kindOf n = some .local) (hc : Names X x c) (tk : L2N.Takes X W)
    (hb : ∀ (W' : WX) (pn : List (Addr × Obj)) (xe : Value → Shared → Prop), L2N.Takes (X.tr pn xe) W' → PassesOwn (model X.prog X.w) X.A X.env xe → DSs (X.tr pn xe) W' body tb)
    (T : XfC X.K C) (hno : PySem.W.findIn X.K (.ref C) f = some none)
    (hv : ∀ (a : Addr) (pn : List (Addr × Obj)), PE (X.suite a pn) (.Name n p1) (tVar i)) :
    DS X W (.Try body [.ExceptHandler (some (.Name x np)) (some n) [.Return (some (.Attribute (.Name n p1) f p2)) p3] pos'] [] [] pos) (dTryRet X.K c C f i tb) :=
  PS.mono (L2N.ps_try_as (tb := fun W' => cS X.K W' tb) (ts := fun a cls d D σ H => tXf a cls d C f (tVar i) σ H D.rt) hs hf hN hi hln hc tk (fun W' pn xe t1 t2 => hb W' pn xe t1 t2)
    (fun a oe cls d pn hz hfl => pss_one (ps_ret (pe_xf T hno hz.zc hfl (hv a _))))) fun E σ H ⟨δ, G, Z, D0, ok, rs, h, l⟩ => by
    refine ⟨δ, G, Z, _, ok, rs, h, ⟨l.nx, l.bk, l.ct, l.rt, fun cls δ' G' σ' H' q k ok' rs' => ?_, fun cls fs δ' G' σ' H' dx xs q k ok' rs' u e r => ?_⟩⟩
    · obtain ⟨b, hb1, h1, h2⟩ := q
      refine ⟨b, hb1, fun hb2 => ?_, fun hb2 => l.exb _ _ _ _ _ (h2 hb2) k ok' rs'⟩
      obtain ⟨_, _, fs', d, e, _⟩ := h1 hb2
      cases e
    · obtain ⟨b, hb1, h1, h2⟩ := q
      refine ⟨b, hb1, fun hb2 a ha => ?_, fun hb2 => l.exo _ _ _ _ _ _ _ _ (h2 hb2) k ok' rs' u e r⟩
      obtain ⟨ec, hil, fs', d, ef, hl, hrt⟩ := h1 hb2
      cases ef
      obtain ⟨v, hv1, hv2⟩ := lookup_rep e r hl
      have hl2 : i < σ'.length := by rw [← rs'.length]; exact hil
      exact ⟨.ref a, by simp [hl2], rfl, ec, dx, xs, v, rfl, U_le _ _ u, hv1, l.rt _ _ _ _ hrt k ok' hv2⟩
end
end DL
set_option Elab.async false
set_option linter.all false
set_option maxRecDepth 100000
set_option maxHeartbeats 1000000
/-! DL, part 36: own exceptions raised where nothing is handled; handlers whose suite goes on. -/
namespace DL
open PySem PySem.Spec L2
section
variable {X : Cx} {e : Expr} {es : List Expr} {ta : TA} {x : Str} {C fI : Addr} {p pos : Pos} {k : Nat} {fd : FuncData} {ps : List Str} {f : Str}
/-- C(e), made to be raised -/
theorem pmk_ownN {sp : Sp} (T : OexC X.K C) (iC : PySem.W.findIn X.K (.ref C) "__init__" = some (some (.ref fI))) (tI : PySem.W.typeIn X.K (.ref fI) = some (.type "function"))
    (F1 : FnOk X.prog X.w X.K X.mg X.base CX0 k fI fd ps sp) (hr : Room (k + 1) X.A) (hb : Binds X.K fd ps []) (hg : Gl X x) (hm : X.mg x = some (.ref C)) (ha : PA X (e :: es) ta)
    (hdb : (x == ("__debug__" : Str)) = false := by decide) (he : starEach (e :: es) X.env = (false, eval e X.env) :: starEach es X.env := by rfl) (hpl : (backTo pos (starEach es X.env)).any (·.1) = false := by rfl) :
    L2N.PMk X (.Call (.Name x p) (e :: es) [] pos) (tMkO C sp [] ta) := by
  intro pins s σ H Q I h
  obtain ⟨nm, q, N, bs, bm, sn, sub, ab, col, dd, k0, k1, k2, k3, k5, hC, hbm⟩ := T.cls
  apply wpAny_Call_Name_kw
  apply ld_glob I hg hm ?_ hdb
  refine PySem.W.callWith_K (h₀ := X.base) I.ok.mod.kin T.kC (thn (ha.run pos pins s σ H _ I h) fun us s1 hh => ?_) he hpl
  obtain ⟨vs, H1, I1, r1, hz, q1⟩ := hh
  refine ⟨I1.kIn, ?_⟩
  show wpAny _ _ (call (.ref C) us) _ _ _
  obtain ⟨hp, g, dr, tk, os⟩ := s1
  obtain ⟨A0, hA0⟩ : ∃ A0, A0 = hp.objs.size + 1 := ⟨_, rfl⟩
  have big : hp.objs.size ≤ A0 := by omega
  have none1 : H1 A0 = none := I1.hok.fresh big
  have q2 := q1 A0 none1
  rw [List.append_nil] at q2
  have keeps : ∀ b o, hp.get? b = some o → ((hp.push (PySem.W.kdv_tup us)).push (PySem.HandSPX.excO C hp.objs.size)).get? b = some o := fun b o e => Heap.get?_push_of_some _ (Heap.get?_push_of_some _ e)
  have at_ : ((hp.push (PySem.W.kdv_tup us)).push (PySem.HandSPX.excO C hp.objs.size)).get? A0 = some (PySem.HandSPX.excO C hp.objs.size) := by rw [hA0]; heap_get
  have I2 := I1.laid (t' := tk) (a := A0) (o := exo A0 C none) (h' := (hp.push (PySem.W.kdv_tup us)).push (PySem.HandSPX.excO C hp.objs.size)) keeps big (exo_ok at_)
  have r2 : Vals (V.ref A0 :: vs) (Value.ref A0 :: us) := .cons rfl r1
  have hl : (Value.ref A0 :: us ++ []).length = ps.length := by
    rw [List.append_nil, ← r2.length]
    exact F1.len _ _ _ _ q2
  have hus : us.length ≤ sizeLine := by rw [← Paired.length r1, sizeLine_eq]; omega
  have bnd := hb _ (Value.ref A0 :: us) I2.kIn hl
  rw [List.append_nil] at bnd
  have ran := F1.run _ X.stack _ _ ⟨Value.ref A0 :: us, []⟩ (Value.ref A0 :: us) _ _ (fun _ _ _ => False) (hr.make C us []) (I2.env0.make C us []) bnd r2 q2
  rw [hA0] at ran
  refine wpAny_call (PySem.HandSPX.call_own F.excBase_ValueError (fun Y => PySem.HandSPX.refsVE_contains Y bm hbm) (I1.kIn _ _ hC) (PySem.W.looks_findIn I1.kIn iC) (fun self => PySem.W.bind_fn I1.kIn self tI) hus (codeAny_mono ran fun r s' hq => ?_))
  match r, hq with
  | .error er, hq => exact False.elim hq
  | .ok .next, hq => exact False.elim hq
  | .ok .brk, hq => exact False.elim hq
  | .ok .cont, hq => exact False.elim hq
  | .ok (.ret u), hq =>
    rw [← hA0] at hq ⊢
    obtain ⟨v, H2, os2, bare2, un2, hok2, rv, ev, d, fs, ea, ed, hd1, q3⟩ := hq
    subst ev
    obtain ⟨h2, g2, d2, t2, os'⟩ := s'
    obtain ⟨t0, Gx, J, kG, ge, hoe, na⟩ := mk_end0 (d2 := d2) (t2 := t2) I1 big keeps un2 hok2 os2 bare2 ea ed hd1
    exact ⟨rv, A0, _, _, ⟨Gx, g2, d2, t2, os'⟩, _, .ref C, some d, rfl, J, kG, ge, hoe, ⟨rfl, rfl, fun vs hv => by cases hv; rfl⟩, rfl, rfl, na, rfl, bare2, raises_own T.exC T.tyC, q3⟩
end
section
variable {X : Cx} {e : Expr} {es : List Expr} {ta : DTA} {x : Str} {C fI : Addr} {p pos : Pos} {k : Nat} {fd : FuncData} {ps : List Str} {f : Str}
theorem dm_mk1N (T : OexC X.K C) (iC : PySem.W.findIn X.K (.ref C) "__init__" = some (some (.ref fI))) (tI : PySem.W.typeIn X.K (.ref fI) = some (.type "function"))
    (F1 : FnOk X.prog X.w X.K X.mg X.base CX0 k fI fd ps (spI C f)) (hr : Room (k + 1) X.A) (hb : Binds X.K fd ps []) (hg : Gl X x) (hm : X.mg x = some (.ref C)) (ha : DA X (e :: es) ta)
    (hdb : (x == ("__debug__" : Str)) = false := by decide) (he : starEach (e :: es) X.env = (false, eval e X.env) :: starEach es X.env := by rfl) (hpl : (backTo pos (starEach es X.env)).any (·.1) = false := by rfl) :
    DMkN X (.Call (.Name x p) (e :: es) [] pos) (dMk1 C f ta) :=
  PMkN.mono (pmk_ownN T iC tI F1 hr hb hg hm ha hdb he hpl) fun σ H Q ⟨δ, G, Z, Q0, ok, rs, h, xl⟩ =>
    ⟨δ, G, Z, _, ok, rs, h, fun ds G1 vs H1 h1 k1 ok1 r1 => by
      rcases r1 with _ | ⟨ra, r1⟩
      · exact False.elim h1
      rcases r1 with _ | ⟨rb, r1⟩
      · next d v =>
        have h1 : Q0 (.ref C) (some [(f, d)]) G1 := h1
        refine ⟨by simp, fun a hna => ⟨a, v, rfl, upd_same, fun dx hdx hne => ⟨rfl, dx, [(f, v)], upd_same, by rw [upd_ne hne, upd_same], by rw [upd_ne hne] at hdx; exact hdx, ?_⟩⟩⟩
        have hdx' : H1 dx = none := by rw [upd_ne hne] at hdx; exact hdx
        rw [made_heap hna hne]
        have k2 := Kp.laid (H := H1) (G := G1) (Z := Z) (o := .xd [(f, v)]) hdx'
        exact xl.own _ _ _ _ _ _ h1 (k1.trans k2) (ok1.laid hdx') (U_laid ok1 hdx') rfl (.cons (ra.mono k2.keep) .nil)
      · exact False.elim h1⟩
end
/-- the exception that is caught is the handled one -/
theorem hot_suite {X : Cx} {a : Addr} {oe : Obj} {cls : Value} {dd : Option Addr} {pn : List (Addr × Obj)} (hz : L2N.Zn cls dd oe) (hd : ∃ vs, oe.data = .fields vs) : L2H.HotC (X.suite a ((a, oe) :: pn)) := by
  obtain ⟨vs, hd⟩ := hd
  exact ⟨(a, oe), ⟨rfl, vs, hd, hz.2.2 vs hd⟩, List.mem_cons_self⟩
/-- what a handler 'except c as n: x, y = (n.f, None)' makes of an exception -/
def exPar (K : PySem.W.Frag) (c : Value) (C : Addr) (f : Str) (i j1 j2 : Nat) (D : DEnds) : DXS := fun cls fs δ G =>
  ∃ b, PySem.W.exmOne K cls c = some b ∧ (b = true → cls = .ref C ∧ i < δ.length ∧ ∃ fs' d, fs = some fs' ∧ fs'.lookup f = some d ∧ D.nx ((((δ.set i none).set j1 (some d)).set j2 (some .non)).set i none) G) ∧ (b = false → D.ex cls fs δ G)
def dTryPar (K : PySem.W.Frag) (c : Value) (C : Addr) (f : Str) (i j1 j2 : Nat) (tb : DTS) : DTS := fun D δ G => tb { D with ex := exPar K c C f i j1 j2 D } δ G
section
variable {X : Cx} {W : WX} {x n f y1 y2 : Str} {c : Value} {C : Addr} {i j1 j2 : Nat} {body : List Stmt} {np p1 p2 p3 q1 q2 q3 q4 pos pos' : Pos} {kt k2 : Nat} {cj : Nat} {cp : Pos} {tb : DTS}
theorem ds_tryParN (hs : X.stack = X.env :: X.outer) (hf : X.env.frame = some X.env.locals) (hN : X.N.Nodup) (hi : X.N[i]? = some n) (hln : X.env.kindOf n = some .local) (hc : Names X x c) (tk : L2N.Takes X W)
    (hb : ∀ (W' : WX) (pn : List (Addr × Obj)) (xe : Value → Shared → Prop), L2N.Takes (X.tr pn xe) W' → PassesOwn (model X.prog X.w) X.A X.env xe → DSs (X.tr pn xe) W' body tb)
    (T : XfC X.K C) (hno : PySem.W.findIn X.K (.ref C) f = some none)
    (hv : ∀ (a : Addr) (pn : List (Addr × Obj)), PE (X.suite a pn) (.Name n p1) (tVar i))
    (h1 : X.N[j1]? = some y1) (h2 : X.N[j2]? = some y2) (hij : j1 ≠ j2) (hx : X.env.scope.names.lookup y1 = some .local) (hy : X.env.scope.names.lookup y2 = some .local)
    (hw : swappedStores [.Tuple [.Name y1 q1, .Name y2 q2] kt q3] (.Tuple [.Attribute (.Name n p1) f p2, .Constant .none cj cp] k2 q4) X.env = pure (some [y1, y2]))
    (hsw : swapsWithSole [.Tuple [.Name y1 q1, .Name y2 q2] kt q3] (.Tuple [.Attribute (.Name n p1) f p2, .Constant .none cj cp] k2 q4) p3.line X.env = pure false := by rfl) :
    DS X W (.Try body [.ExceptHandler (some (.Name x np)) (some n) [.Assign [.Tuple [.Name y1 q1, .Name y2 q2] kt q3] (.Tuple [.Attribute (.Name n p1) f p2, .Constant .none cj cp] k2 q4) p3] pos'] [] [] pos) (dTryPar X.K c C f i j1 j2 tb) :=
  PS.mono (L2N.ps_try_as (tb := fun W' => cS X.K W' tb) (ts := fun a cls d => tPar j1 j2 (tCons (tXf a cls d C f (tVar i)) (tCons (tC .non) tNil))) hs hf hN hi hln hc tk (fun W' pn xe t1 t2 => hb W' pn xe t1 t2)
    (fun a oe cls d pn hz hfl => pss_one (ps_parH (hot_suite hz hfl) hN h1 h2 hij hx hy (pa_cons (pe_xf T hno hz.zc hfl (hv a _)) (pa_cons pe_non pa_nil)) hw hsw))) fun E σ H ⟨δ, G, Z, D0, ok, rs, h, l⟩ => by
    refine ⟨δ, G, Z, _, ok, rs, h, ⟨l.nx, l.bk, l.ct, l.rt, fun cls δ' G' σ' H' q k ok' rs' => ?_, fun cls fs δ' G' σ' H' dx xs q k ok' rs' u e r => ?_⟩⟩
    · obtain ⟨b, hb1, h1, h2⟩ := q
      refine ⟨b, hb1, fun hb2 => ?_, fun hb2 => l.exb _ _ _ _ _ (h2 hb2) k ok' rs'⟩
      obtain ⟨_, _, fs', d, e, _⟩ := h1 hb2
      cases e
    · obtain ⟨b, hb1, h1, h2⟩ := q
      refine ⟨b, hb1, fun hb2 a ha => ?_, fun hb2 => l.exo _ _ _ _ _ _ _ _ (h2 hb2) k ok' rs' u e r⟩
      obtain ⟨ec, hil, fs', d, ef, hl, hnx⟩ := h1 hb2
      cases ef
      obtain ⟨v, hv1, hv2⟩ := lookup_rep e r hl
      have hl2 : i < σ'.length := by rw [← rs'.length]; exact hil
      refine ⟨.ref a, by simp [hl2], rfl, ec, dx, xs, v, rfl, U_le _ _ u, hv1, v, .non, rfl, ?_⟩
      exact l.nx _ _ _ _ hnx k ok' (((((rs'.forget i (some (.ref a))).set hv2 j1).set .non j2).forget i none))
end
/-- what a handler 'except c as n: return n.f == e' makes of an exception -/
def exEq (K : PySem.W.Frag) (c : Value) (C : Addr) (f : Str) (i : Nat) (r : DR2) (te : DTE) (D : DEnds) : DXS := fun cls fs δ G =>
  ∃ b, PySem.W.exmOne K cls c = some b ∧ (b = true → cls = .ref C ∧ i < δ.length ∧ ∃ fs' d, fs = some fs' ∧ fs'.lookup f = some d ∧ te (δ.set i none) G fun y G2 => r d y G2 D.rt) ∧ (b = false → D.ex cls fs δ G)
def dTryEq (K : PySem.W.Frag) (c : Value) (C : Addr) (f : Str) (i : Nat) (r : DR2) (te : DTE) (tb : DTS) : DTS := fun D δ G => tb { D with ex := exEq K c C f i r te D } δ G
section
variable {X : Cx} {W : WX} {x n f : Str} {c : Value} {C : Addr} {i : Nat} {body : List Stmt} {np p1 p2 p3 p4 pos pos' : Pos} {tb : DTS} {r : DR2} {e2 : Expr} {te : DTE}
theorem ds_tryEqN (hs : X.stack = X.env :: X.outer) (hf : X.env.frame = some X.env.locals) (hN : X.N.Nodup) (hi : X.N[i]? = some n) (hln : X.env.kindOf n = some .local) (hc : Names X x c) (tk : L2N.Takes X W)
    (hb : ∀ (W' : WX) (pn : List (Addr × Obj)) (xe : Value → Shared → Prop), L2N.Takes (X.tr pn xe) W' → PassesOwn (model X.prog X.w) X.A X.env xe → DSs (X.tr pn xe) W' body tb)
    (T : XfC X.K C) (hno : PySem.W.findIn X.K (.ref C) f = some none)
    (hv : ∀ (a : Addr) (pn : List (Addr × Obj)), PE (X.suite a pn) (.Name n p1) (tVar i)) (ho : ∀ (a : Addr) (pn : List (Addr × Obj)), DOp (X.suite a pn) (compareOp .Eq) r) (he : ∀ (a : Addr) (pn : List (Addr × Obj)), DE (X.suite a pn) e2 te)
    (hm : behindInMarks .Eq e2 = false) :
    DS X W (.Try body [.ExceptHandler (some (.Name x np)) (some n) [.Return (some (.Compare (.Attribute (.Name n p1) f p2) [.Eq] [e2] p4)) p3] pos'] [] [] pos) (dTryEq X.K c C f i r te tb) :=
  PS.mono (L2N.ps_try_as (tb := fun W' => cS X.K W' tb) (ts := fun a cls d D σ H => tOp (cR2 X.K r) (tXf a cls d C f (tVar i)) (cE X.K te) σ H D.rt) hs hf hN hi hln hc tk (fun W' pn xe t1 t2 => hb W' pn xe t1 t2)
    (fun a oe cls d pn hz hfl => pss_one (ps_ret (pe_cmpR (ho a _) (pe_xf T hno hz.zc hfl (hv a _)) (he a _) hm)))) fun E σ H ⟨δ, G, Z, D0, ok, rs, h, l⟩ => by
    refine ⟨δ, G, Z, _, ok, rs, h, ⟨l.nx, l.bk, l.ct, l.rt, fun cls δ' G' σ' H' q k ok' rs' => ?_, fun cls fs δ' G' σ' H' dx xs q k ok' rs' u e r => ?_⟩⟩
    · obtain ⟨b, hb1, h1, h2⟩ := q
      refine ⟨b, hb1, fun hb2 => ?_, fun hb2 => l.exb _ _ _ _ _ (h2 hb2) k ok' rs'⟩
      obtain ⟨_, _, fs', d, e, _⟩ := h1 hb2
      cases e
    · obtain ⟨b, hb1, h1, h2⟩ := q
      refine ⟨b, hb1, fun hb2 a ha => ?_, fun hb2 => l.exo _ _ _ _ _ _ _ _ (h2 hb2) k ok' rs' u e r⟩
      obtain ⟨ec, hil, fs', d, ef, hl, hq⟩ := h1 hb2
      cases ef
      obtain ⟨v, hv1, hv2⟩ := lookup_rep e r hl
      have hl2 : i < σ'.length := by rw [← rs'.length]; exact hil
      refine ⟨.ref a, by simp [hl2], rfl, ec, dx, xs, v, rfl, U_le _ _ u, hv1, ?_⟩
      exact ⟨δ'.set i none, G', Z, _, ok', rs'.forget i (some (.ref a)), hq, fun y G2 u2 H2 q2 k2 ok2 r2 =>
        ⟨d, y, G2, Z, D0.rt, ok2, hv2.mono k2.keep, r2, q2, fun d' G3 v3 H3 q3 k3 ok3 r3 => l.rt _ _ _ _ q3 (k.trans (k2.trans k3)) ok3 r3⟩⟩
end
/-! tuples of three whole numbers that the module holds -/
structure GTupI (K : PySem.W.Frag) (mg : Str → Option Value) (x : Str) (ns : List Int) : Prop where
  m : mg x = some (.ref (He.ga K x))
  t : ∀ H, SqT K H (He.ga K x) (ns.map V.int)
  l : ns.length = 3
theorem GTupI.rep {K : PySem.W.Frag} {mg : Str → Option Value} {x : Str} {ns : List Int} (g : GTupI K mg x ns) (W : Hp) : Rep K W (.tup (ns.map .int)) (.ref (He.ga K x)) := .tup (.inr ⟨by rw [List.length_map]; exact g.l, g.t⟩) (Reps.of_ints _)
theorem de_gtI {X : Cx} {x : Str} {ns : List Int} {p : Pos} (g : GTupI X.K X.mg x ns) (hg : Gl X x) (hd : (x == ("__debug__" : Str)) = false := by decide) : DE X (.Name x p) (dC (.tup (ns.map .int))) :=
  de_c (pe_glob (v := .ref (He.ga X.K x)) hg g.m rfl hd) fun W => g.rep W
theorem GTupI.of {K : PySem.W.Frag} {mg : Str → Option Value} {x : Str} {ns : List Int} (m : mg x = some (.ref (He.ga K x))) (h : He.tupB K x (ns.map He.Dv.int) = true) (l : ns.length = 3) : GTupI K mg x ns :=
  ⟨m, fun H => by have := He.tupB_ok h H; rw [List.map_map] at this; exact this, l⟩
/-! calls with keywords that may raise -/
def dCallNX (n m : Nat) (sp : DSp) (gD : List D → List D → List D) (t tk : DTA) : DTX := fun δ G Q E => t δ G fun ds G1 => tk δ G1 fun es G2 => ds.length = n ∧ es.length = m ∧ sp (gD ds es) G2 Q E
section
variable {X : Cx} {CX : CXT} {k n : Nat} {f : Addr} {fd : FuncData} {ps ks : List Str} {E : St → XK} {x : Str} {p pos : Pos} {e : Expr} {es : List Expr} {kws : List Keyword} {g : List Value → List Value → List Value} {gV : List V → List V → List V}
theorem run_kwX {sp : Sp} {pins : List (Addr × Obj)} {σ : St} {H : Hp} {s : Shared} {Q : VK} {us ws : List Value} {vs zs : List V} (F : FnOk X.prog X.w X.K X.mg X.base CX k f fd ps sp) (hr : Room k X.A) (hb : KBn X.K fd ps n ks g gV)
    (hx : PassesAt CX X σ (E σ)) (I : Inv X pins σ H s) (r1 : Vals vs us) (r2 : Vals zs ws) (l1 : vs.length = n) (l2 : zs.length = ks.length) (h : sp (gV vs zs) H Q (E σ)) : wpAny (model X.prog X.w) X.A (call (.ref f) us (ks.zip ws)) (EP X pins σ Q) X.xe s := by
  have bt := hb.to s us ws I.kIn (r1.length.symm.trans l1) (r2.length.symm.trans l2)
  have ran := F.run X.A X.stack s H ⟨us, ks.zip ws⟩ (g us ws) (gV vs zs) Q (E σ) hr I.env0 bt (hb.rel r1 r2) h
  refine wpAny_call (codeAny_mono ran fun fin s' hq => ?_)
  match fin, hq with
  | .error er, hq => exact hx pins H s er s' I hq
  | .ok .next, hq => exact False.elim hq
  | .ok .brk, hq => exact False.elim hq
  | .ok .cont, hq => exact False.elim hq
  | .ok (.ret u), hq => exact I.after hq
theorem pe_kwX {sp : Sp} {t tk : TA} (F : FnOk X.prog X.w X.K X.mg X.base CX k f fd ps sp) (hr : Room k X.A) (hg : Gl X x) (hm : X.mg x = some (.ref f)) (hk : PySem.W.keepIn X.K (.ref f) = true) (hb : KBn X.K fd ps n ks g gV)
    (hx : ∀ σ, PassesAt CX X σ (E σ)) (ha : PA X (e :: es) t) (hkw : PK X kws tk) (hall : (backToKw pos (keywordEach kws X.env)).all (·.1.isSome) = true := by rfl) (hks : (backToKw pos (keywordEach kws X.env)).filterMap (·.1) = ks := by rfl)
    (hdb : (x == ("__debug__" : Str)) = false := by decide) (he : starEach (e :: es) X.env = (false, eval e X.env) :: starEach es X.env := by rfl)
    (hpl : ((backTo pos (starEach (e :: es) X.env)).any (·.1) || (backToKw pos (keywordEach kws X.env)).any (·.1.isNone)) = false := by rfl) :
    PE X (.Call (.Name x p) (e :: es) kws pos) (fun σ H Q => t σ H fun vs H1 => tk σ H1 fun zs H2 => vs.length = n ∧ zs.length = ks.length ∧ sp (gV vs zs) H2 Q (E σ)) := by
  refine ⟨fun pins s σ H Q I h => ?_⟩
  apply wpAny_Call_Name_kw
  apply ld_glob I hg hm ?_ hdb
  refine PySem.W.callWith_KW (h₀ := X.base) I.ok.mod.kin hk hall (thn (ha.run pos pins s σ H _ I h) fun us s1 hh => ?_) hpl he
  obtain ⟨vs, H1, I1, r1, q1⟩ := hh
  refine thn (hkw.run pos pins s1 σ H1 _ I1 q1) fun ws s2 hh => ?_
  obtain ⟨zs, H2, I2, r2, l1, l2, q2⟩ := hh
  refine ⟨I2.kIn, ?_⟩
  rw [hks]
  exact run_kwX F hr hb (hx σ) I2 r1 r2 l1 l2 q2
end
section
variable {X : Cx} {W : WX} {k n : Nat} {f : Addr} {fd : FuncData} {ps ks : List Str} {sp : DSp} {x : Str} {p pos : Pos} {e : Expr} {es : List Expr} {kws : List Keyword} {t tk : DTA} {ix : List Nat} {ms : List V} {mds : List D}
theorem de_callKXN (tk0 : L2N.Takes X W) (F : FnOk X.prog X.w X.K X.mg X.base (L2N.CX X.prog X.w) k f fd ps (cSp X.K sp)) (hr : Room k X.A) (hg : Gl X x) (hm : X.mg x = some (.ref f)) (hk : PySem.W.keepIn X.K (.ref f) = true) (hb : KBk X.K fd ps n ks ix ms)
    (hmd : ∀ W, Reps X.K W mds ms) (ha : DA X (e :: es) t) (hkw : DKw X kws tk) (hall : (backToKw pos (keywordEach kws X.env)).all (·.1.isSome) = true := by rfl) (hks : (backToKw pos (keywordEach kws X.env)).filterMap (·.1) = ks := by rfl)
    (hdb : (x == ("__debug__" : Str)) = false := by decide) (he : starEach (e :: es) X.env = (false, eval e X.env) :: starEach es X.env := by rfl)
    (hpl : ((backTo pos (starEach (e :: es) X.env)).any (·.1) || (backToKw pos (keywordEach kws X.env)).any (·.1.isNone)) = false := by rfl) :
    DEx X W (.Call (.Name x p) (e :: es) kws pos) (dCallNX n ks.length sp (fun ds es => pick ix (ds ++ es ++ mds)) t tk) := by
  obtain ⟨mv, hb⟩ := hb
  exact PE.mono (pe_kwX (E := WE W) F hr hg hm hk hb (fun σ => L2N.passAt tk0 σ) ha hkw hall hks hdb he hpl) fun σ H Q ⟨δ, G, Z, Q0, E0, ok, rs, h, k, xl⟩ =>
    ⟨δ, G, Z, _, ok, rs, h, fun ds G1 vs H1 h1 k1 ok1 r1 => ⟨δ, G1, Z, _, ok1, rs.mono k1.keep, h1, fun es G2 us H2 h2 k2 ok2 r2 => by
      have r1' := r1.mono k2.keep
      exact ⟨r1'.length.symm.trans h2.1, r2.length.symm.trans h2.2.1, _, G2, Z, Q0, E0, ok2, Reps.pickK ix hmd r1' r2, h2.2.2, fun d G' v H' q k3 ok3 r3 => k _ _ _ _ q (k1.trans (k2.trans k3)) ok3 r3, xl.after (k1.trans k2)⟩⟩⟩
end
/-! the greatest of three -/
def dMax3R : DRC := fun ds G Q => match ds with
  | [.int i, .int j, .int k] => Q (.int (max (max i j) k)) G
  | _ => False
theorem max2_nu (i j : Int) : nuMax2 (.int i) (.int j) = some (.int (max i j)) := by
  show some (if decide (i < j) = true then V.int j else V.int i) = _
  by_cases h : i < j
  · rw [if_pos (decide_eq_true h), show max i j = j by omega]
  · rw [if_neg (by rw [decide_eq_false h]; decide), show max i j = i by omega]
theorem max3_nu (i j k : Int) : nuMax3 (.int i) (.int j) (.int k) = some (.int (max (max i j) k)) := by
  show (nuMax2 (.int i) (.int j)).bind (fun m => nuMax2 m (.int k)) = _
  rw [max2_nu]
  exact max2_nu _ _
theorem dcall_max3 {X : Cx} (hc : X.calm = true) : DCall X (.builtin "max") dMax3R := by
  intro pins s σ H xs us Q I r ⟨ds, G, Z, Q0, ok, rs, h, k⟩
  rcases rs with _ | ⟨r1, rs⟩
  · exact False.elim h
  rcases rs with _ | ⟨r2, rs⟩
  · exact False.elim (by cases r1 <;> exact h)
  rcases rs with _ | ⟨r3, rs⟩
  · exact False.elim (by cases r1 <;> cases r2 <;> exact h)
  rcases rs with _ | ⟨r4, rs⟩
  · cases r1 with
    | int i =>
      cases r2 with
      | int j =>
        cases r3 with
        | int l => exact call_max3Nu hc pins s σ H _ us Q I r ⟨_, _, _, _, rfl, max3_nu i j l, k _ _ _ _ h .refl ok (.int _)⟩
        | _ => exact False.elim h
      | _ => exact False.elim h
    | _ => exact False.elim h
  · exact False.elim (by cases r1 <;> cases r2 <;> cases r3 <;> exact h)
end DL
set_option linter.all false
set_option maxRecDepth 100000
namespace K05
open PySem PySem.Spec L2 DL
/-! bodies, printed by gen.py -/
/-- _law_box: 0 cell -/
def t_law_box : DTS :=
  (dRet (dLstM (dCons (dCB (dR2 dMax2R) (dCons (dC (.int 0)) (dCons (dOp (dI0 fun i j => .int (i - j)) (dVar 0) (dOp (dI CPow fun i j => .int (i ^ j.toNat)) (dC (.int 10)) (dC (.int 18)))) dNil))) (dCons (dOp (dI (fun _ j => 0 < j) fun i j => .int (i % j)) (dVar 0) (dC (.int 2147483629))) (dCons (dC (.int 0)) dNil)))))
/-- _law_cell: 0 script, 1 k -/
def t_law_cell : DTS :=
  (dSeq (dIf (dTestB (dOp (dCmpR (fun i j => decide (i < j)) (fun a b => decide (a < b))) (dVar 1) (dCB (dR1 dLenR) (dCons (dVar 0) dNil)))) (dRet (dOp dIxR (dVar 0) (dVar 1))) dNext)
  (dRet (dOp dAddR (dOp (dI MulOk fun i j => .int (i * j)) (dC (.int 86028121)) (dVar 1)) (dC (.int 67)))))
/-- _law_take: 0 box, 1 many, 2 digit, 3 number -/
def t_law_take : DTS :=
  (dSeq (dIf (dTestB (dOp (dCmpR (fun i j => decide (j < i)) (fun a b => decide (b < a))) (dOp dIxR (dVar 0) (dC (.int 0))) (dC (.int 0)))) (dSeq (dAsg (dOp (dI (fun _ j => 0 < j) fun i j => .int (i % j)) (dOp dIxR (dVar 0) (dC (.int 0))) (dVar 1)) (.nm 2))
  (dSeq (dSub (dOp (dI CDivW fun i j => .int (i / j)) (dOp dIxR (dVar 0) (dC (.int 0))) (dVar 1)) (dVar 0) (dC (.int 0)))
  (dRet (dVar 2)))) dNext)
  (dSeq (dSub (dOp dAddR (dOp dIxR (dVar 0) (dC (.int 2))) (dC (.int 1))) (dVar 0) (dC (.int 2)))
  (dSeq (dAsg (dOp (dI (fun _ j => 0 < j) fun i j => .int (i % j)) (dOp (dI CPow fun i j => .int (i ^ j.toNat)) (dOp dAddR (dOp dAddR (dOp dIxR (dVar 0) (dC (.int 1))) (dOp (dI MulOk fun i j => .int (i * j)) (dC (.int 6217)) (dOp dIxR (dVar 0) (dC (.int 2))))) (dC (.int 71))) (dC (.int 5))) (dC (.int 2147483647))) (.nm 3))
  (dSeq (dAsg (dOp (dI (fun _ j => 0 < j) fun i j => .int (i % j)) (dOp (dI CPow fun i j => .int (i ^ j.toNat)) (dOp dAddR (dVar 3) (dOp (dI MulOk fun i j => .int (i * j)) (dC (.int 92819)) (dOp dIxR (dVar 0) (dC (.int 2))))) (dC (.int 3))) (dC (.int 2147483587))) (.nm 3))
  (dRet (dOp (dI (fun _ j => 0 < j) fun i j => .int (i % j)) (dOp (dI CDivW fun i j => .int (i / j)) (dVar 3) (dC (.int 16))) (dVar 1)))))))
/-- _law_slope: 0 box, 1 turn, 2 a, 3 b, 4 many, 5 size, 6 m, 7 n -/
def t_law_slope (sp_law_take : DSp) : DTS :=
  (dSeq (dAsg (dCall sp_law_take [] (dCons (dVar 0) (dCons (dC (.int 3)) dNil))) (.nm 1))
  (dSeq (dIf (dTestB (dOp dEqQ (dVar 1) (dC (.int 0)))) (dSeq (dAsg (dOp dIxR (dLst (dCons (dTup (dCons (dC (.int 1)) (dCons (dC (.int 0)) dNil))) (dCons (dTup (dCons (dC (.int 0)) (dCons (dC (.int 1)) dNil))) dNil))) (dCall sp_law_take [] (dCons (dVar 0) (dCons (dC (.int 2)) dNil)))) (.tp [(.nm 2), (.nm 3)]))
  (dSeq (dAsg (dOp dIxR (dLst (dCons (dC (.int 1)) (dCons (dOp dAddR (dC (.int 1)) (dCall sp_law_take [] (dCons (dVar 0) (dCons (dC (.int 1000)) dNil)))) dNil))) (dCall sp_law_take [] (dCons (dVar 0) (dCons (dC (.int 2)) dNil)))) (.nm 4))
  (dPar3 2 3 5 (dCons (dOp (dI MulOk fun i j => .int (i * j)) (dVar 2) (dVar 4)) (dCons (dOp (dI MulOk fun i j => .int (i * j)) (dVar 3) (dVar 4)) (dCons (dVar 4) dNil)))))) (dSeq (dPar 6 7 (dCons (dOp dAddR (dC (.int 2)) (dCall sp_law_take [] (dCons (dVar 0) (dCons (dC (.int 20)) dNil)))) (dCons (dOp dAddR (dC (.int 1)) (dCall sp_law_take [] (dCons (dVar 0) (dCons (dC (.int 19)) dNil)))) dNil)))
  (dSeq (dIf (dTestB (dOp dEqQ (dVar 7) (dVar 6))) (dAsg (dC (.int 1)) (.nm 7)) dNext)
  (dSeq (dAsg (dOp dAddR (dOp (dI MulOk fun i j => .int (i * j)) (dVar 6) (dVar 6)) (dOp (dI MulOk fun i j => .int (i * j)) (dVar 7) (dVar 7))) (.nm 5))
  (dSeq (dAsg (dOp dAddR (dC (.int 1)) (dCall sp_law_take [] (dCons (dVar 0) (dCons (dOp (dI CDivW fun i j => .int (i / j)) (dC (.int 1000)) (dVar 5)) dNil)))) (.nm 4))
  (dSeq (dAsg (dOp (dI MulOk fun i j => .int (i * j)) (dCB (dR1 dAbsR) (dCons (dOp (dI0 fun i j => .int (i - j)) (dOp (dI MulOk fun i j => .int (i * j)) (dVar 6) (dVar 6)) (dOp (dI MulOk fun i j => .int (i * j)) (dVar 7) (dVar 7))) dNil)) (dVar 4)) (.nm 2))
  (dSeq (dAsg (dOp (dI MulOk fun i j => .int (i * j)) (dOp (dI MulOk fun i j => .int (i * j)) (dOp (dI MulOk fun i j => .int (i * j)) (dC (.int 2)) (dVar 6)) (dVar 7)) (dVar 4)) (.nm 3))
  (dAsg (dOp (dI MulOk fun i j => .int (i * j)) (dVar 5) (dVar 4)) (.nm 5)))))))))
  (dSeq (dIf (dTestB (dOp dEqQ (dCall sp_law_take [] (dCons (dVar 0) (dCons (dC (.int 2)) dNil))) (dC (.int 0)))) (dPar 2 3 (dCons (dVar 3) (dCons (dVar 2) dNil))) dNext)
  (dRet (dTup (dCons (dOp (dI MulOk fun i j => .int (i * j)) (dVar 2) (dOp dIxR (dLst (dCons (dC (.int 1)) (dCons (dOp (dI0 fun i j => .int (i - j)) (dC (.int 0)) (dC (.int 1))) dNil))) (dCall sp_law_take [] (dCons (dVar 0) (dCons (dC (.int 2)) dNil))))) (dCons (dOp (dI MulOk fun i j => .int (i * j)) (dVar 3) (dOp dIxR (dLst (dCons (dC (.int 1)) (dCons (dOp (dI0 fun i j => .int (i - j)) (dC (.int 0)) (dC (.int 1))) dNil))) (dCall sp_law_take [] (dCons (dVar 0) (dCons (dC (.int 2)) dNil))))) (dCons (dVar 5) dNil))))))))
/-- _law_far: 0 box, 1 number, 2 k -/
def t_law_far (sp_law_take : DSp) : DTS :=
  (dSeq (dAsg (dC (.int 0)) (.nm 1))
  (dSeq (dFor (dRng1 (dOp dAddR (dC (.int 1)) (dCall sp_law_take [] (dCons (dVar 0) (dCons (dC (.int 10)) dNil))))) (.nm 2) (dAsg (dOp dAddR (dOp (dI MulOk fun i j => .int (i * j)) (dC (.int 1000)) (dVar 1)) (dCall sp_law_take [] (dCons (dVar 0) (dCons (dC (.int 1000)) dNil)))) (.nm 1)))
  (dRet (dOp dIxR (dLst (dCons (dVar 1) (dCons (dOp (dI0 fun i j => .int (i - j)) (dC (.int 0)) (dVar 1)) (dCons (dOp (dI0 fun i j => .int (i - j)) (dOp (dI (fun _ j => 0 < j) fun i j => .int (i % j)) (dVar 1) (dC (.int 1000))) (dC (.int 500))) dNil)))) (dCall sp_law_take [] (dCons (dVar 0) (dCons (dC (.int 3)) dNil)))))))
/-- _law_number: 0 upper, 1 lower, 2 left, 3 right -/
def t_law_number : DTS :=
  (dSeq (dPar 2 3 (dCons (dCB (dR1 dAbsR) (dCons (dVar 0) dNil)) (dCons (dCB (dR1 dAbsR) (dCons (dVar 1) dNil)) dNil)))
  (dSeq (dWhile (dTestB (dOp dNeQ (dVar 3) (dC (.int 0)))) (dPar 2 3 (dCons (dVar 3) (dCons (dOp (dI (fun _ j => 0 < j) fun i j => .int (i % j)) (dVar 2) (dVar 3)) dNil))))
  (dSeq (dIf (dTestB (dOp (dCmpR (fun i j => decide (i < j)) (fun a b => decide (a < b))) (dVar 1) (dC (.int 0)))) (dAsg (dOp (dI0 fun i j => .int (i - j)) (dC (.int 0)) (dVar 2)) (.nm 2)) dNext)
  (dRet (dIfE (dTestB (dOp dEqQ (dOp (dI (fun _ j => DivOk j) fun i j => .int (i.fdiv j)) (dVar 1) (dVar 2)) (dC (.int 1)))) (dOp (dI (fun _ j => DivOk j) fun i j => .int (i.fdiv j)) (dVar 0) (dVar 2)) (dTup (dCons (dOp (dI (fun _ j => DivOk j) fun i j => .int (i.fdiv j)) (dVar 0) (dVar 2)) (dCons (dOp (dI (fun _ j => DivOk j) fun i j => .int (i.fdiv j)) (dVar 1) (dVar 2)) dNil))))))))
/-- _law_drawn: 0 box, 1 upper, 2 lower -/
def t_law_drawn (sp_law_far : DSp) (sp_law_take : DSp) (sp_law_number : DSp) : DTS :=
  (dSeq (dAsg (dOp dIxR (dLst (dCons (dOp (dI0 fun i j => .int (i - j)) (dCall sp_law_take [] (dCons (dVar 0) (dCons (dC (.int 41)) dNil))) (dC (.int 20))) (dCons (dCall sp_law_far [] (dCons (dVar 0) dNil)) dNil))) (dCall sp_law_take [] (dCons (dVar 0) (dCons (dC (.int 2)) dNil)))) (.nm 1))
  (dSeq (dAsg (dOp dIxR (dLst (dCons (dC (.int 1)) (dCons (dC (.int 1)) (dCons (dOp dAddR (dC (.int 1)) (dCall sp_law_take [] (dCons (dVar 0) (dCons (dC (.int 12)) dNil)))) (dCons (dOp dAddR (dC (.int 1)) (dCB (dR1 dAbsR) (dCons (dCall sp_law_far [] (dCons (dVar 0) dNil)) dNil))) dNil))))) (dCall sp_law_take [] (dCons (dVar 0) (dCons (dC (.int 4)) dNil)))) (.nm 2))
  (dRet (dCall sp_law_number [] (dCons (dVar 1) (dCons (dVar 2) dNil))))))
/-- _law_long: 0 a, 1 b, 2 square, 3 found, 4 size -/
def t_law_long : DTS :=
  (dSeq (dAsg (dOp dAddR (dOp (dI MulOk fun i j => .int (i * j)) (dVar 0) (dVar 0)) (dOp (dI MulOk fun i j => .int (i * j)) (dVar 1) (dVar 1))) (.nm 2))
  (dSeq (dAsg (dLc false (dRng2 (dC (.int 1)) (dC (.int 1001))) (.nm 4) (dTestB (dOp dEqQ (dOp (dI MulOk fun i j => .int (i * j)) (dVar 4) (dVar 4)) (dVar 2))) (dVar 4) [4]) (.nm 3))
  (dRet (dIfE (dTestB (dOp dNeB (dVar 3) (dLst dNil))) (dOp dIxR (dVar 3) (dC (.int 0))) (dC .non)))))
/-- is_plain: 0 thing -/
def t_is_plain : DTS :=
  (dRet (dAndV (dCB (dR2 dIsiR) (dCons (dVar 0) (dCons (dC (.ty .int)) dNil))) (dNotV (dCB (dR2 dIsiR) (dCons (dVar 0) (dCons (dC (.ty .bool)) dNil))))))
/-- is_whole: 0 thing, 1 low, 2 high -/
def t_is_whole (sp_is_plain : DSp) : DTS :=
  (dRet (dAndV (dCall sp_is_plain [] (dCons (dVar 0) dNil)) (dChain (dCmpR (fun i j => decide (i ≤ j)) (fun a b => !decide (b < a))) (dCmpR (fun i j => decide (i ≤ j)) (fun a b => !decide (b < a))) (dVar 1) (dVar 0) (dVar 2))))
/-- is_way: 0 thing, 1 a, 2 b, 3 long -/
def t_is_way (sp_is_plain : DSp) (sp_is_whole : DSp) : DTS :=
  (dSeq (dIf (dOr (dNot (dTest (dCB (dR2 dIsiR) (dCons (dVar 0) (dCons (dC (.ty .tup)) dNil))))) (dTestB (dOp dNeQ (dCB (dR1 dLenR) (dCons (dVar 0) dNil)) (dC (.int 3))))) (dRet (dC (.bl false))) dNext)
  (dSeq (dAsg (dVar 0) (.tp [(.nm 1), (.nm 2), (.nm 3)]))
  (dSeq (dIf (dOr (dNot (dTest (dCall sp_is_plain [] (dCons (dVar 1) dNil)))) (dOr (dNot (dTest (dCall sp_is_plain [] (dCons (dVar 2) dNil)))) (dNot (dTest (dCall sp_is_whole [] (dCons (dVar 3) (dCons (dC (.int 1)) (dCons (dC (.int 1000)) dNil)))))))) (dRet (dC (.bl false))) dNext)
  (dRet (dOp dEqQ (dOp dAddR (dOp (dI MulOk fun i j => .int (i * j)) (dVar 1) (dVar 1)) (dOp (dI MulOk fun i j => .int (i * j)) (dVar 2) (dVar 2))) (dOp (dI MulOk fun i j => .int (i * j)) (dVar 3) (dVar 3)))))))
/-- way_of: 0 a, 1 b, 2 long -/
def t_way_of (K : PySem.W.Frag) (sp_is_plain : DSp) (sp_is_way : DSp) : DTS :=
  (dSeq (dIf (dAnd (dTest (dCall sp_is_plain [] (dCons (dVar 0) dNil))) (dAnd (dTest (dCall sp_is_plain [] (dCons (dVar 1) dNil))) (dAnd (dTestB (dOp (dCmpR (fun i j => decide (i ≤ j)) (fun a b => !decide (b < a))) (dCB (dR1 dAbsR) (dCons (dVar 0) dNil)) (dC (.int 1000)))) (dTestB (dOp (dCmpR (fun i j => decide (i ≤ j)) (fun a b => !decide (b < a))) (dCB (dR1 dAbsR) (dCons (dVar 1) dNil)) (dC (.int 1000))))))) (dFor (dRng2 (dCB dMax3R (dCons (dCB (dR1 dAbsR) (dCons (dVar 0) dNil)) (dCons (dCB (dR1 dAbsR) (dCons (dVar 1) dNil)) (dCons (dC (.int 1)) dNil)))) (dOp dAddR (dC (.int 1000)) (dC (.int 1)))) (.nm 2) (dIf (dTest (dCall sp_is_way [] (dCons (dTup (dCons (dVar 0) (dCons (dVar 1) (dCons (dVar 2) dNil)))) dNil))) (dRet (dTup (dCons (dVar 0) (dCons (dVar 1) (dCons (dVar 2) dNil))))) dNext)) dNext)
  (dRaise (dMk1 (He.ga K "NoWay") "found" (dCons (dTup (dCons (dVar 0) (dCons (dVar 1) dNil))) dNil))))
/-- _law_way_right: 0 a, 1 b, 2 size, 3 caught, 4 answer, 5 e -/
def t_law_way_right (K : PySem.W.Frag) (sp_law_long : DSp) (sp_way_of : DSp) (sp_is_way : DSp) : DTS :=
  (dSeq (dAsg (dCall sp_law_long [] (dCons (dVar 0) (dCons (dVar 1) dNil))) (.nm 2))
  (dSeq (dAsg (dC .non) (.nm 3))
  (dSeq (dTryPar K (exC K "NoWay") (He.ga K "NoWay") "found" 5 3 4 (dAsgX (dCallX sp_way_of (dCons (dVar 0) (dCons (dVar 1) dNil))) (.nm 4)))
  (dSeq (dIf (dTestB (dOp dIsR (dVar 2) (dC .non))) (dRet (dAndV (dOp dIsR (dVar 4) (dC .non)) (dAndV (dOp dEqB (dVar 3) (dTup (dCons (dVar 0) (dCons (dVar 1) dNil)))) (dNotV (dCall sp_is_way [] (dCons (dTup (dCons (dVar 0) (dCons (dVar 1) (dCons (dCB (dR2 dMax2R) (dCons (dCB (dR1 dAbsR) (dCons (dVar 0) dNil)) (dCons (dCB (dR1 dAbsR) (dCons (dVar 1) dNil)) dNil))) dNil)))) dNil)))))) dNext)
  (dRet (dAndV (dOp dEqQ (dCB (dR1 dReprR) (dCons (dVar 4) dNil)) (dCB (dR1 dReprR) (dCons (dTup (dCons (dVar 0) (dCons (dVar 1) (dCons (dVar 2) dNil)))) dNil))) (dAndV (dOp dIsR (dVar 3) (dC .non)) (dAndV (dCall sp_is_way [] (dCons (dVar 4) dNil)) (dOp dEqB (dCall sp_way_of [] (dCons (dVar 0) (dCons (dVar 1) dNil))) (dVar 4))))))))))
/-- _law_no_way: 0 box, 1 slope, 2 a, 3 b, 4 size, 5 some, 6 thing, 7 due, 8 odd, 9 one -/
def t_law_no_way (sp_law_take : DSp) (sp_is_way : DSp) : DTS :=
  (dSeq (dAsg (dVar 1) (.tp [(.nm 2), (.nm 3), (.nm 4)]))
  (dSeq (dAsg (dLst (dCons (dTup (dCons (dVar 2) (dCons (dVar 3) dNil))) (dCons (dTup (dCons (dVar 2) (dCons (dVar 3) (dCons (dOp (dI0 fun i j => .int (i - j)) (dC (.int 0)) (dVar 4)) dNil)))) (dCons (dTup (dCons (dVar 2) (dCons (dVar 3) (dCons (dOp dAddR (dVar 4) (dC (.int 1))) dNil)))) (dCons (dLst (dCons (dVar 2) (dCons (dVar 3) (dCons (dVar 4) dNil)))) (dCons (dTup (dCons (dVar 2) (dCons (dVar 3) (dCons (dVar 4) (dCons (dC (.int 1)) dNil))))) (dCons (dTup (dCons (dCB (dR1 dStrR) (dCons (dVar 2) dNil)) (dCons (dVar 3) (dCons (dVar 4) dNil)))) (dCons (dC .non) (dCons dDictM dNil))))))))) (.nm 5))
  (dSeq (dAsg (dOp dAddR (dVar 5) (dLst (dCons (dTup (dCons (dVar 2) (dCons (dVar 3) (dCons (dC (.bl true)) dNil)))) (dCons (dTup (dCons (dTup (dCons (dVar 2) (dCons (dC (.int 2)) dNil))) (dCons (dVar 3) (dCons (dVar 4) dNil)))) (dCons (dTup (dCons (dOp dAddR (dVar 2) (dVar 4)) (dCons (dVar 3) (dCons (dVar 4) dNil)))) (dCons (dC (.int 7)) (dCons (dC (.str "east")) (dCons (dTup (dCons (dC (.int 0)) (dCons (dC (.int 0)) (dCons (dC (.int 0)) dNil)))) (dCons (dTup (dCons (dC (.int 0)) (dCons (dC (.int 0)) (dCons (dC (.int 1)) dNil)))) dNil))))))))) (.nm 5))
  (dSeq (dAsg (dOp dAddR (dVar 5) (dLst (dCons (dTup (dCons (dC (.bl true)) (dCons (dC (.int 0)) (dCons (dC (.int 1)) dNil)))) (dCons (dTup (dCons (dC (.int 0)) (dCons (dC (.bl true)) (dCons (dC (.int 1)) dNil)))) (dCons (dTup (dCons (dC (.bl false)) (dCons (dC (.int 1)) (dCons (dC (.int 1)) dNil)))) (dCons (dTup (dCons (dVar 3) (dCons (dVar 2) (dCons (dVar 4) dNil)))) (dCons (dLst (dCons (dC (.int 0)) (dCons (dC (.int 1)) (dCons (dC (.int 1)) dNil)))) (dCons (dTup (dCons (dC (.int 720)) (dCons (dC (.int 960)) (dCons (dC (.int 1200)) dNil)))) dNil)))))))) (.nm 5))
  (dSeq (dAsg (dOp dIxR (dVar 5) (dCall sp_law_take [] (dCons (dVar 0) (dCons (dC (.int 21)) dNil)))) (.nm 6))
  (dSeq (dAsg (dAndV (dCB (dR2 dIsiR) (dCons (dVar 6) (dCons (dC (.ty .tup)) dNil))) (dOp dEqQ (dCB (dR1 dLenR) (dCons (dVar 6) dNil)) (dC (.int 3)))) (.nm 7))
  (dSeq (dAsg (dIfE (dTest (dVar 7)) (dLc false (dSeqI (dVar 6)) (.nm 9) (dTest (dIsiT [.bool, .str, .tup] (dVar 9))) (dVar 9) [9]) (dLst dNil)) (.nm 8))
  (dSeq (dAsg (dAndV (dVar 7) (dOp dEqB (dVar 8) (dLst dNil))) (.nm 7))
  (dSeq (dIf (dTest (dVar 7)) (dAsg (dAndV (dChain (dCmpR (fun i j => decide (i < j)) (fun a b => decide (a < b))) (dCmpR (fun i j => decide (i < j)) (fun a b => decide (a < b))) (dC (.int 0)) (dOp dIxR (dVar 6) (dC (.int 2))) (dC (.int 1001))) (dOp dEqQ (dOp dAddR (dOp (dI MulOk fun i j => .int (i * j)) (dOp dIxR (dVar 6) (dC (.int 0))) (dOp dIxR (dVar 6) (dC (.int 0)))) (dOp (dI MulOk fun i j => .int (i * j)) (dOp dIxR (dVar 6) (dC (.int 1))) (dOp dIxR (dVar 6) (dC (.int 1))))) (dOp (dI MulOk fun i j => .int (i * j)) (dOp dIxR (dVar 6) (dC (.int 2))) (dOp dIxR (dVar 6) (dC (.int 2)))))) (.nm 7)) dNext)
  (dRet (dOp dEqQ (dCB (dR1 dReprR) (dCons (dCall sp_is_way [] (dCons (dVar 6) dNil)) dNil)) (dCB (dR1 dReprR) (dCons (dVar 7) dNil)))))))))))))
/-- _law_pair: 0 number -/
def t_law_pair : DTS :=
  (dRet (dIfE (dTest (dCB (dR2 dIsiR) (dCons (dVar 0) (dCons (dC (.ty .tup)) dNil)))) (dVar 0) (dTup (dCons (dVar 0) (dCons (dC (.int 1)) dNil)))))
/-- _law_product: 0 first, 1 second, 2 a, 3 b, 4 c, 5 d -/
def t_law_product (sp_law_pair : DSp) (sp_law_number : DSp) : DTS :=
  (dSeq (dAsg (dCall sp_law_pair [] (dCons (dVar 0) dNil)) (.tp [(.nm 2), (.nm 3)]))
  (dSeq (dAsg (dCall sp_law_pair [] (dCons (dVar 1) dNil)) (.tp [(.nm 4), (.nm 5)]))
  (dRet (dCall sp_law_number [] (dCons (dOp (dI MulOk fun i j => .int (i * j)) (dVar 2) (dVar 4)) (dCons (dOp (dI MulOk fun i j => .int (i * j)) (dVar 3) (dVar 5)) dNil))))))
/-- _law_sum: 0 first, 1 second, 2 a, 3 b, 4 c, 5 d -/
def t_law_sum (sp_law_pair : DSp) (sp_law_number : DSp) : DTS :=
  (dSeq (dAsg (dCall sp_law_pair [] (dCons (dVar 0) dNil)) (.tp [(.nm 2), (.nm 3)]))
  (dSeq (dAsg (dCall sp_law_pair [] (dCons (dVar 1) dNil)) (.tp [(.nm 4), (.nm 5)]))
  (dRet (dCall sp_law_number [] (dCons (dOp dAddR (dOp (dI MulOk fun i j => .int (i * j)) (dVar 2) (dVar 5)) (dOp (dI MulOk fun i j => .int (i * j)) (dVar 4) (dVar 3))) (dCons (dOp (dI MulOk fun i j => .int (i * j)) (dVar 3) (dVar 5)) dNil))))))
/-- _law_slid: 0 place, 1 far, 2 slope, 3 each -/
def t_law_slid (sp_law_product : DSp) (sp_law_sum : DSp) : DTS :=
  (dSeq (dAsg (dCall sp_law_product [] (dCons (dVar 1) (dCons (dIfE (dTestB (dOp (dCmpR (fun i j => decide (j < i)) (fun a b => decide (b < a))) (dOp dIxR (dVar 2) (dC (.int 2))) (dC (.int 1)))) (dTup (dCons (dC (.int 1)) (dCons (dOp dIxR (dVar 2) (dC (.int 2))) dNil))) (dC (.int 1))) dNil))) (.nm 3))
  (dRet (dTup (dCons (dCall sp_law_sum [] (dCons (dOp dIxR (dVar 0) (dC (.int 0))) (dCons (dCall sp_law_product [] (dCons (dVar 3) (dCons (dOp dIxR (dVar 2) (dC (.int 0))) dNil))) dNil))) (dCons (dCall sp_law_sum [] (dCons (dOp dIxR (dVar 0) (dC (.int 1))) (dCons (dCall sp_law_product [] (dCons (dVar 3) (dCons (dOp dIxR (dVar 2) (dC (.int 1))) dNil))) dNil))) dNil)))))
/-- common_part: 0 one, 1 other -/
def t_common_part : DTS :=
  (dSeq (dPar 0 1 (dCons (dCB (dR1 dAbsR) (dCons (dVar 0) dNil)) (dCons (dCB (dR1 dAbsR) (dCons (dVar 1) dNil)) dNil)))
  (dSeq (dWhile (dTestB (dOp dNeQ (dVar 1) (dC (.int 0)))) (dPar 0 1 (dCons (dVar 1) (dCons (dOp (dI (fun _ j => 0 < j) fun i j => .int (i % j)) (dVar 0) (dVar 1)) dNil))))
  (dRet (dVar 0))))
/-- is_part: 0 thing, 1 top, 2 base -/
def t_is_part (sp_is_plain : DSp) (sp_common_part : DSp) : DTS :=
  (dSeq (dIf (dOr (dNot (dTest (dCB (dR2 dIsiR) (dCons (dVar 0) (dCons (dC (.ty .tup)) dNil))))) (dTestB (dOp dNeQ (dCB (dR1 dLenR) (dCons (dVar 0) dNil)) (dC (.int 2))))) (dRet (dC (.bl false))) dNext)
  (dSeq (dAsg (dVar 0) (.tp [(.nm 1), (.nm 2)]))
  (dRet (dAndV (dCall sp_is_plain [] (dCons (dVar 1) dNil)) (dAndV (dCall sp_is_plain [] (dCons (dVar 2) dNil)) (dAndV (dOp (dCmpR (fun i j => decide (j < i)) (fun a b => decide (b < a))) (dVar 2) (dC (.int 1))) (dOp dEqQ (dCall sp_common_part [] (dCons (dVar 1) (dCons (dVar 2) dNil))) (dC (.int 1)))))))))
/-- is_number: 0 thing -/
def t_is_number (sp_is_plain : DSp) (sp_is_part : DSp) : DTS :=
  (dRet (dOrV (dCall sp_is_plain [] (dCons (dVar 0) dNil)) (dCall sp_is_part [] (dCons (dVar 0) dNil))))
/-- is_place: 0 thing -/
def t_is_place (sp_is_number : DSp) : DTS :=
  (dRet (dAndV (dCB (dR2 dIsiR) (dCons (dVar 0) (dCons (dC (.ty .tup)) dNil))) (dAndV (dOp dEqQ (dCB (dR1 dLenR) (dCons (dVar 0) dNil)) (dC (.int 2))) (dAndV (dCall sp_is_number [] (dCons (dOp dIxR (dVar 0) (dC (.int 0))) dNil)) (dCall sp_is_number [] (dCons (dOp dIxR (dVar 0) (dC (.int 1))) dNil))))))
/-- need_way: 0 way -/
def t_need_way (sp_is_way : DSp) : DTS :=
  (dIf (dNot (dTest (dCall sp_is_way [] (dCons (dVar 0) dNil)))) dNever dNext)
/-- pair_of: 0 number -/
def t_pair_of (sp_is_plain : DSp) (sp_is_part : DSp) : DTS :=
  (dSeq (dIf (dTest (dCall sp_is_plain [] (dCons (dVar 0) dNil))) (dRet (dTup (dCons (dVar 0) (dCons (dC (.int 1)) dNil)))) dNext)
  (dSeq (dIf (dNot (dTest (dCall sp_is_part [] (dCons (dVar 0) dNil)))) dNever dNext)
  (dRet (dVar 0))))
/-- reckoned: 0 top, 1 base, 2 part -/
def t_reckoned (sp_common_part : DSp) : DTS :=
  (dSeq (dAsg (dCall sp_common_part [] (dCons (dVar 0) (dCons (dVar 1) dNil))) (.nm 2))
  (dSeq (dIf (dTestB (dOp (dCmpR (fun i j => decide (i < j)) (fun a b => decide (a < b))) (dVar 1) (dC (.int 0)))) (dAsg (dOp (dI0 fun i j => .int (i - j)) (dC (.int 0)) (dVar 2)) (.nm 2)) dNext)
  (dSeq (dPar 0 1 (dCons (dOp (dI (fun _ j => DivOk j) fun i j => .int (i.fdiv j)) (dVar 0) (dVar 2)) (dCons (dOp (dI (fun _ j => DivOk j) fun i j => .int (i.fdiv j)) (dVar 1) (dVar 2)) dNil)))
  (dRet (dIfE (dTestB (dOp dEqQ (dVar 1) (dC (.int 1)))) (dVar 0) (dTup (dCons (dVar 0) (dCons (dVar 1) dNil))))))))
/-- over: 0 one, 1 other, 2 top, 3 base, 4 more, 5 under -/
def t_over (sp_pair_of : DSp) (sp_reckoned : DSp) : DTS :=
  (dSeq (dAsg (dTup (dCons (dCall sp_pair_of [] (dCons (dVar 0) dNil)) (dCons (dCall sp_pair_of [] (dCons (dVar 1) dNil)) dNil))) (.tp [(.tp [(.nm 2), (.nm 3)]), (.tp [(.nm 4), (.nm 5)])]))
  (dSeq (dIf (dTestB (dOp dEqQ (dVar 4) (dC (.int 0)))) dNever dNext)
  (dRet (dCall sp_reckoned [] (dCons (dOp (dI MulOk fun i j => .int (i * j)) (dVar 2) (dVar 5)) (dCons (dOp (dI MulOk fun i j => .int (i * j)) (dVar 3) (dVar 4)) dNil))))))
/-- plus: 0 one, 1 other, 2 top, 3 base, 4 more, 5 under -/
def t_plus (sp_pair_of : DSp) (sp_reckoned : DSp) : DTS :=
  (dSeq (dAsg (dTup (dCons (dCall sp_pair_of [] (dCons (dVar 0) dNil)) (dCons (dCall sp_pair_of [] (dCons (dVar 1) dNil)) dNil))) (.tp [(.tp [(.nm 2), (.nm 3)]), (.tp [(.nm 4), (.nm 5)])]))
  (dRet (dCall sp_reckoned [] (dCons (dOp dAddR (dOp (dI MulOk fun i j => .int (i * j)) (dVar 2) (dVar 5)) (dOp (dI MulOk fun i j => .int (i * j)) (dVar 4) (dVar 3))) (dCons (dOp (dI MulOk fun i j => .int (i * j)) (dVar 3) (dVar 5)) dNil)))))
/-- times: 0 one, 1 other, 2 top, 3 base, 4 more, 5 under -/
def t_times (sp_pair_of : DSp) (sp_reckoned : DSp) : DTS :=
  (dSeq (dAsg (dTup (dCons (dCall sp_pair_of [] (dCons (dVar 0) dNil)) (dCons (dCall sp_pair_of [] (dCons (dVar 1) dNil)) dNil))) (.tp [(.tp [(.nm 2), (.nm 3)]), (.tp [(.nm 4), (.nm 5)])]))
  (dRet (dCall sp_reckoned [] (dCons (dOp (dI MulOk fun i j => .int (i * j)) (dVar 2) (dVar 4)) (dCons (dOp (dI MulOk fun i j => .int (i * j)) (dVar 3) (dVar 5)) dNil)))))
/-- slide: 0 place, 1 by, 2 way, 3 a, 4 b, 5 long, 6 each -/
def t_slide (sp_is_place : DSp) (sp_is_number : DSp) (sp_need_way : DSp) (sp_over : DSp) (sp_plus : DSp) (sp_times : DSp) : DTS :=
  (dSeq (dIf (dNot (dTest (dCall sp_is_place [] (dCons (dVar 0) dNil)))) dNever dNext)
  (dSeq (dIf (dNot (dTest (dCall sp_is_number [] (dCons (dVar 1) dNil)))) dNever dNext)
  (dSeq (dDrop (dCall sp_need_way [] (dCons (dVar 2) dNil)))
  (dSeq (dAsg (dVar 2) (.tp [(.nm 3), (.nm 4), (.nm 5)]))
  (dSeq (dAsg (dCall sp_over [] (dCons (dVar 1) (dCons (dVar 5) dNil))) (.nm 6))
  (dRet (dTup (dCons (dCall sp_plus [] (dCons (dOp dIxR (dVar 0) (dC (.int 0))) (dCons (dCall sp_times [] (dCons (dVar 6) (dCons (dVar 3) dNil))) dNil))) (dCons (dCall sp_plus [] (dCons (dOp dIxR (dVar 0) (dC (.int 1))) (dCons (dCall sp_times [] (dCons (dVar 6) (dCons (dVar 4) dNil))) dNil))) dNil)))))))))
/-- _law_is: 0 found, 1 due -/
def t_law_is (sp_law_is : DSp) : DTS :=
  (dSeq (dIf (dTest (dCB (dR2 dIsiR) (dCons (dVar 1) (dCons (dC (.ty .tup)) dNil)))) (dRet (dAndV (dCB (dR2 dIsiR) (dCons (dVar 0) (dCons (dC (.ty .tup)) dNil))) (dAndV (dOp dEqB (dVar 0) (dVar 1)) (dAndV (dCall sp_law_is [] (dCons (dOp dIxR (dVar 0) (dC (.int 0))) (dCons (dOp dIxR (dVar 1) (dC (.int 0))) dNil))) (dCall sp_law_is [] (dCons (dOp dIxR (dVar 0) (dC (.int 1))) (dCons (dOp dIxR (dVar 1) (dC (.int 1))) dNil))))))) dNext)
  (dRet (dAndV (dCB (dR2 dIsiR) (dCons (dVar 0) (dCons (dC (.ty .int)) dNil))) (dAndV (dNotV (dCB (dR2 dIsiR) (dCons (dVar 0) (dCons (dC (.ty .bool)) dNil)))) (dOp dEqB (dVar 0) (dVar 1))))))
/-- _law_place_is: 0 found, 1 due -/
def t_law_place_is (sp_law_is : DSp) : DTS :=
  (dRet (dAndV (dCB (dR2 dIsiR) (dCons (dVar 0) (dCons (dC (.ty .tup)) dNil))) (dAndV (dOp dEqQ (dCB (dR1 dLenR) (dCons (dVar 0) dNil)) (dC (.int 2))) (dAndV (dCall sp_law_is [] (dCons (dOp dIxR (dVar 0) (dC (.int 0))) (dCons (dOp dIxR (dVar 1) (dC (.int 0))) dNil))) (dCall sp_law_is [] (dCons (dOp dIxR (dVar 0) (dC (.int 1))) (dCons (dOp dIxR (dVar 1) (dC (.int 1))) dNil)))))))
/-- _law_measure: 0 place, 1 slope, 2 x, 3 y, 4 along -/
def t_law_measure (sp_law_sum : DSp) (sp_law_product : DSp) : DTS :=
  (dSeq (dAsg (dVar 0) (.tp [(.nm 2), (.nm 3)]))
  (dSeq (dAsg (dCall sp_law_sum [] (dCons (dCall sp_law_product [] (dCons (dVar 2) (dCons (dOp dIxR (dVar 1) (dC (.int 0))) dNil))) (dCons (dCall sp_law_product [] (dCons (dVar 3) (dCons (dOp dIxR (dVar 1) (dC (.int 1))) dNil))) dNil))) (.nm 4))
  (dRet (dCall sp_law_product [] (dCons (dVar 4) (dCons (dIfE (dTestB (dOp (dCmpR (fun i j => decide (j < i)) (fun a b => decide (b < a))) (dOp dIxR (dVar 1) (dC (.int 2))) (dC (.int 1)))) (dTup (dCons (dC (.int 1)) (dCons (dOp dIxR (dVar 1) (dC (.int 2))) dNil))) (dC (.int 1))) dNil))))))
/-- measure: 0 place, 1 way, 2 a, 3 b, 4 long -/
def t_measure (sp_is_place : DSp) (sp_need_way : DSp) (sp_over : DSp) (sp_plus : DSp) (sp_times : DSp) : DTS :=
  (dSeq (dIf (dNot (dTest (dCall sp_is_place [] (dCons (dVar 0) dNil)))) dNever dNext)
  (dSeq (dDrop (dCall sp_need_way [] (dCons (dVar 1) dNil)))
  (dSeq (dAsg (dVar 1) (.tp [(.nm 2), (.nm 3), (.nm 4)]))
  (dRet (dCall sp_over [] (dCons (dCall sp_plus [] (dCons (dCall sp_times [] (dCons (dOp dIxR (dVar 0) (dC (.int 0))) (dCons (dVar 2) dNil))) (dCons (dCall sp_times [] (dCons (dOp dIxR (dVar 0) (dC (.int 1))) (dCons (dVar 3) dNil))) dNil))) (dCons (dVar 4) dNil)))))))
/-- _law_right: 0 place, 1 far, 2 slope, 3 second, 4 due, 5 found, 6 one, 7 other -/
def t_law_right (sp_law_slid : DSp) (sp_slide : DSp) (sp_law_place_is : DSp) (sp_law_sum : DSp) (sp_law_is : DSp) (sp_law_measure : DSp) (sp_measure : DSp) : DTS :=
  (dSeq (dAsg (dCall sp_law_slid [] (dCons (dVar 0) (dCons (dVar 1) (dCons (dVar 2) dNil)))) (.nm 4))
  (dSeq (dAsg (dLst (dCons (dCallN 2 1 sp_slide (fun ds es => pick [0, 1, 2] (ds ++ es ++ [])) (dCons (dVar 0) (dCons (dVar 1) dNil)) (dCons (dVar 2) dNil)) (dCons (dCallN 1 2 sp_slide (fun ds es => pick [0, 2, 1] (ds ++ es ++ [])) (dCons (dVar 0) dNil) (dCons (dVar 2) (dCons (dVar 1) dNil))) dNil))) (.nm 5))
  (dSeq (dIf (dOr (dNot (dTest (dCall sp_law_place_is [] (dCons (dOp dIxR (dVar 5) (dC (.int 0))) (dCons (dVar 4) dNil))))) (dNot (dTest (dCall sp_law_place_is [] (dCons (dOp dIxR (dVar 5) (dC (.int 1))) (dCons (dVar 4) dNil)))))) (dRet (dC (.bl false))) dNext)
  (dSeq (dIf (dNot (dTest (dCall sp_law_place_is [] (dCons (dCallN 2 0 sp_slide (fun ds es => pick [0, 1, 2] (ds ++ es ++ [D.tup [D.int 1, D.int 0, D.int 1]])) (dCons (dVar 0) (dCons (dVar 1) dNil)) dNil) (dCons (dTup (dCons (dCall sp_law_sum [] (dCons (dOp dIxR (dVar 0) (dC (.int 0))) (dCons (dVar 1) dNil))) (dCons (dOp dIxR (dVar 0) (dC (.int 1))) dNil))) dNil))))) (dRet (dC (.bl false))) dNext)
  (dSeq (dFor (dSeqI (dLst (dCons (dVar 0) (dCons (dVar 4) dNil)))) (.nm 6) (dFor (dSeqI (dLst (dCons (dVar 3) (dCons (dVar 2) (dCons (dC (.tup [.int 1, .int 0, .int 1])) (dCons (dC (.tup [.int 0, .int 1, .int 1])) dNil)))))) (.nm 7) (dIf (dNot (dTest (dCall sp_law_is [] (dCons (dCall sp_measure [] (dCons (dVar 6) (dCons (dVar 7) dNil))) (dCons (dCall sp_law_measure [] (dCons (dVar 6) (dCons (dVar 7) dNil))) dNil))))) (dRet (dC (.bl false))) dNext)))
  (dRet (dCall sp_law_is [] (dCons (dCall sp_measure [] (dCons (dOp dIxR (dVar 5) (dC (.int 0))) (dCons (dVar 2) dNil))) (dCons (dCall sp_law_sum [] (dCons (dCall sp_law_measure [] (dCons (dVar 0) (dCons (dVar 2) dNil))) (dCons (dVar 1) dNil))) dNil)))))))))
/-- _law_asked_one: 0 script, 1 k, 2 box, 3 slope, 4 second, 5 place -/
def t_law_asked_one (K : PySem.W.Frag) (sp_law_box : DSp) (sp_law_cell : DSp) (sp_law_slope : DSp) (sp_law_drawn : DSp) (sp_law_way_right : DSp) (sp_law_take : DSp) (sp_law_far : DSp) (sp_law_no_way : DSp) (sp_law_right : DSp) : DTS :=
  (dSeq (dIf (dOr (dTestB (dOp dNeB (dC (.tup [.int 1, .int 0, .int 1])) (dTup (dCons (dC (.int 1)) (dCons (dC (.int 0)) (dCons (dC (.int 1)) dNil)))))) (dTestB (dOp dNeB (dC (.tup [.int 0, .int 1, .int 1])) (dTup (dCons (dC (.int 0)) (dCons (dC (.int 1)) (dCons (dC (.int 1)) dNil))))))) (dRet (dC (.bl false))) dNext)
  (dSeq (dFor (dRng1 (dCB (dR2 dMax2R) (dCons (dC (.int 2)) (dCons (dCB (dR2 dMin2R) (dCons (dC (.int 8)) (dCons (dCB (dR1 dLenR) (dCons (dVar 0) dNil)) dNil))) dNil)))) (.nm 1) (dSeq (dAsg (dCall sp_law_box [] (dCons (dCall sp_law_cell [] (dCons (dVar 0) (dCons (dVar 1) dNil))) dNil)) (.nm 2))
  (dSeq (dPar 3 4 (dCons (dCall sp_law_slope [] (dCons (dVar 2) dNil)) (dCons (dCall sp_law_slope [] (dCons (dVar 2) dNil)) dNil)))
  (dSeq (dAsg (dTup (dCons (dCall sp_law_drawn [] (dCons (dVar 2) dNil)) (dCons (dCall sp_law_drawn [] (dCons (dVar 2) dNil)) dNil))) (.nm 5))
  (dSeq (dIf (dOr (dNot (dTest (dCall sp_law_way_right [] (dCons (dOp dIxR (dVar 3) (dC (.int 0))) (dCons (dOp dIxR (dVar 3) (dC (.int 1))) dNil))))) (dNot (dTest (dCall sp_law_way_right [] (dCons (dOp dAddR (dOp dIxR (dVar 3) (dC (.int 0))) (dC (.int 1))) (dCons (dOp dIxR (dVar 4) (dC (.int 1))) dNil)))))) (dRet (dC (.bl false))) dNext)
  (dSeq (dIf (dOr (dNot (dTest (dCall sp_law_way_right [] (dCons (dCall sp_law_far [] (dCons (dVar 2) dNil)) (dCons (dCall sp_law_take [] (dCons (dVar 2) (dCons (dC (.int 5)) dNil))) dNil))))) (dNot (dTest (dCall sp_law_no_way [] (dCons (dVar 2) (dCons (dVar 3) dNil)))))) (dRet (dC (.bl false))) dNext)
  (dIf (dNot (dTest (dCall sp_law_right [] (dCons (dVar 5) (dCons (dCall sp_law_drawn [] (dCons (dVar 2) dNil)) (dCons (dVar 3) (dCons (dVar 4) dNil))))))) (dRet (dC (.bl false))) dNext)))))))
  (dGhost K (dRet (dC (.bl true))))))
/-- _law_cell_two: 0 script, 1 k -/
def t_law_cell_two : DTS :=
  (dSeq (dIf (dTestB (dOp (dCmpR (fun i j => decide (i < j)) (fun a b => decide (a < b))) (dVar 1) (dCB (dR1 dLenR) (dCons (dVar 0) dNil)))) (dRet (dOp dIxR (dVar 0) (dVar 1))) dNext)
  (dRet (dOp dAddR (dOp (dI MulOk fun i j => .int (i * j)) (dC (.int 122949823)) (dVar 1)) (dC (.int 71)))))
/-- _law_take_two: 0 box, 1 many, 2 digit, 3 number -/
def t_law_take_two : DTS :=
  (dSeq (dIf (dTestB (dOp (dCmpR (fun i j => decide (j < i)) (fun a b => decide (b < a))) (dOp dIxR (dVar 0) (dC (.int 0))) (dC (.int 0)))) (dSeq (dAsg (dOp (dI (fun _ j => 0 < j) fun i j => .int (i % j)) (dOp dIxR (dVar 0) (dC (.int 0))) (dVar 1)) (.nm 2))
  (dSeq (dSub (dOp (dI CDivW fun i j => .int (i / j)) (dOp dIxR (dVar 0) (dC (.int 0))) (dVar 1)) (dVar 0) (dC (.int 0)))
  (dRet (dVar 2)))) dNext)
  (dSeq (dSub (dOp dAddR (dOp dIxR (dVar 0) (dC (.int 2))) (dC (.int 1))) (dVar 0) (dC (.int 2)))
  (dSeq (dAsg (dOp (dI (fun _ j => 0 < j) fun i j => .int (i % j)) (dOp (dI CPow fun i j => .int (i ^ j.toNat)) (dOp dAddR (dOp dAddR (dOp dIxR (dVar 0) (dC (.int 1))) (dOp (dI MulOk fun i j => .int (i * j)) (dC (.int 6599)) (dOp dIxR (dVar 0) (dC (.int 2))))) (dC (.int 73))) (dC (.int 5))) (dC (.int 2147483647))) (.nm 3))
  (dSeq (dAsg (dOp (dI (fun _ j => 0 < j) fun i j => .int (i % j)) (dOp (dI CPow fun i j => .int (i ^ j.toNat)) (dOp dAddR (dVar 3) (dOp (dI MulOk fun i j => .int (i * j)) (dC (.int 92821)) (dOp dIxR (dVar 0) (dC (.int 2))))) (dC (.int 3))) (dC (.int 2147483587))) (.nm 3))
  (dRet (dOp (dI (fun _ j => 0 < j) fun i j => .int (i % j)) (dOp (dI CDivW fun i j => .int (i / j)) (dVar 3) (dC (.int 16))) (dVar 1)))))))
/-- _law_slope_two: 0 box, 1 turn, 2 a, 3 b, 4 many, 5 size, 6 m, 7 n -/
def t_law_slope_two (sp_law_take_two : DSp) : DTS :=
  (dSeq (dAsg (dCall sp_law_take_two [] (dCons (dVar 0) (dCons (dC (.int 3)) dNil))) (.nm 1))
  (dSeq (dIf (dTestB (dOp dEqQ (dVar 1) (dC (.int 0)))) (dSeq (dAsg (dOp dIxR (dLst (dCons (dTup (dCons (dC (.int 1)) (dCons (dC (.int 0)) dNil))) (dCons (dTup (dCons (dC (.int 0)) (dCons (dC (.int 1)) dNil))) dNil))) (dCall sp_law_take_two [] (dCons (dVar 0) (dCons (dC (.int 2)) dNil)))) (.tp [(.nm 2), (.nm 3)]))
  (dSeq (dAsg (dOp dIxR (dLst (dCons (dC (.int 1)) (dCons (dOp dAddR (dC (.int 1)) (dCall sp_law_take_two [] (dCons (dVar 0) (dCons (dC (.int 1000)) dNil)))) dNil))) (dCall sp_law_take_two [] (dCons (dVar 0) (dCons (dC (.int 2)) dNil)))) (.nm 4))
  (dPar3 2 3 5 (dCons (dOp (dI MulOk fun i j => .int (i * j)) (dVar 2) (dVar 4)) (dCons (dOp (dI MulOk fun i j => .int (i * j)) (dVar 3) (dVar 4)) (dCons (dVar 4) dNil)))))) (dSeq (dPar 6 7 (dCons (dOp dAddR (dC (.int 2)) (dCall sp_law_take_two [] (dCons (dVar 0) (dCons (dC (.int 20)) dNil)))) (dCons (dOp dAddR (dC (.int 1)) (dCall sp_law_take_two [] (dCons (dVar 0) (dCons (dC (.int 19)) dNil)))) dNil)))
  (dSeq (dIf (dTestB (dOp dEqQ (dVar 7) (dVar 6))) (dAsg (dC (.int 1)) (.nm 7)) dNext)
  (dSeq (dAsg (dOp dAddR (dOp (dI MulOk fun i j => .int (i * j)) (dVar 6) (dVar 6)) (dOp (dI MulOk fun i j => .int (i * j)) (dVar 7) (dVar 7))) (.nm 5))
  (dSeq (dAsg (dOp dAddR (dC (.int 1)) (dCall sp_law_take_two [] (dCons (dVar 0) (dCons (dOp (dI CDivW fun i j => .int (i / j)) (dC (.int 1000)) (dVar 5)) dNil)))) (.nm 4))
  (dSeq (dAsg (dOp (dI MulOk fun i j => .int (i * j)) (dCB (dR1 dAbsR) (dCons (dOp (dI0 fun i j => .int (i - j)) (dOp (dI MulOk fun i j => .int (i * j)) (dVar 6) (dVar 6)) (dOp (dI MulOk fun i j => .int (i * j)) (dVar 7) (dVar 7))) dNil)) (dVar 4)) (.nm 2))
  (dSeq (dAsg (dOp (dI MulOk fun i j => .int (i * j)) (dOp (dI MulOk fun i j => .int (i * j)) (dOp (dI MulOk fun i j => .int (i * j)) (dC (.int 2)) (dVar 6)) (dVar 7)) (dVar 4)) (.nm 3))
  (dAsg (dOp (dI MulOk fun i j => .int (i * j)) (dVar 5) (dVar 4)) (.nm 5)))))))))
  (dSeq (dIf (dTestB (dOp dEqQ (dCall sp_law_take_two [] (dCons (dVar 0) (dCons (dC (.int 2)) dNil))) (dC (.int 0)))) (dPar 2 3 (dCons (dVar 3) (dCons (dVar 2) dNil))) dNext)
  (dRet (dTup (dCons (dOp (dI MulOk fun i j => .int (i * j)) (dVar 2) (dOp dIxR (dLst (dCons (dC (.int 1)) (dCons (dOp (dI0 fun i j => .int (i - j)) (dC (.int 0)) (dC (.int 1))) dNil))) (dCall sp_law_take_two [] (dCons (dVar 0) (dCons (dC (.int 2)) dNil))))) (dCons (dOp (dI MulOk fun i j => .int (i * j)) (dVar 3) (dOp dIxR (dLst (dCons (dC (.int 1)) (dCons (dOp (dI0 fun i j => .int (i - j)) (dC (.int 0)) (dC (.int 1))) dNil))) (dCall sp_law_take_two [] (dCons (dVar 0) (dCons (dC (.int 2)) dNil))))) (dCons (dVar 5) dNil))))))))
/-- _law_far_two: 0 box, 1 number, 2 k -/
def t_law_far_two (sp_law_take_two : DSp) : DTS :=
  (dSeq (dAsg (dC (.int 0)) (.nm 1))
  (dSeq (dFor (dRng1 (dOp dAddR (dC (.int 1)) (dCall sp_law_take_two [] (dCons (dVar 0) (dCons (dC (.int 10)) dNil))))) (.nm 2) (dAsg (dOp dAddR (dOp (dI MulOk fun i j => .int (i * j)) (dC (.int 1000)) (dVar 1)) (dCall sp_law_take_two [] (dCons (dVar 0) (dCons (dC (.int 1000)) dNil)))) (.nm 1)))
  (dRet (dOp dIxR (dLst (dCons (dVar 1) (dCons (dOp (dI0 fun i j => .int (i - j)) (dC (.int 0)) (dVar 1)) (dCons (dOp (dI0 fun i j => .int (i - j)) (dOp (dI (fun _ j => 0 < j) fun i j => .int (i % j)) (dVar 1) (dC (.int 1000))) (dC (.int 500))) dNil)))) (dCall sp_law_take_two [] (dCons (dVar 0) (dCons (dC (.int 3)) dNil)))))))
/-- _law_drawn_two: 0 box, 1 upper, 2 lower -/
def t_law_drawn_two (sp_law_far_two : DSp) (sp_law_take_two : DSp) (sp_law_number : DSp) : DTS :=
  (dSeq (dAsg (dOp dIxR (dLst (dCons (dOp (dI0 fun i j => .int (i - j)) (dCall sp_law_take_two [] (dCons (dVar 0) (dCons (dC (.int 41)) dNil))) (dC (.int 20))) (dCons (dCall sp_law_far_two [] (dCons (dVar 0) dNil)) dNil))) (dCall sp_law_take_two [] (dCons (dVar 0) (dCons (dC (.int 2)) dNil)))) (.nm 1))
  (dSeq (dAsg (dOp dIxR (dLst (dCons (dC (.int 1)) (dCons (dC (.int 1)) (dCons (dOp dAddR (dC (.int 1)) (dCall sp_law_take_two [] (dCons (dVar 0) (dCons (dC (.int 12)) dNil)))) (dCons (dOp dAddR (dC (.int 1)) (dCB (dR1 dAbsR) (dCons (dCall sp_law_far_two [] (dCons (dVar 0) dNil)) dNil))) dNil))))) (dCall sp_law_take_two [] (dCons (dVar 0) (dCons (dC (.int 4)) dNil)))) (.nm 2))
  (dRet (dCall sp_law_number [] (dCons (dVar 1) (dCons (dVar 2) dNil))))))
/-- moved: 0 place, 1 by, 2 move, 3 along, 4 gain -/
def t_moved (K : PySem.W.Frag) (sp_is_place : DSp) (sp_is_number : DSp) (sp_need_way : DSp) (sp_slide : DSp) (sp_over : DSp) (sp_times : DSp) : DTS :=
  (dSeq (dIf (dNot (dTest (dCall sp_is_place [] (dCons (dVar 0) dNil)))) dNever dNext)
  (dSeq (dIf (dNot (dTest (dCall sp_is_number [] (dCons (dVar 1) dNil)))) dNever dNext)
  (dSeq (dDrop (dCall sp_need_way [] (dCons (dVar 2) dNil)))
  (dSeq (dDrop (dCall sp_need_way [] (dCons (dVar 3) dNil)))
  (dSeq (dAsg (dOp dAddR (dOp (dI MulOk fun i j => .int (i * j)) (dOp dIxR (dVar 2) (dC (.int 0))) (dOp dIxR (dVar 3) (dC (.int 0)))) (dOp (dI MulOk fun i j => .int (i * j)) (dOp dIxR (dVar 2) (dC (.int 1))) (dOp dIxR (dVar 3) (dC (.int 1))))) (.nm 4))
  (dSeq (dIf (dTestB (dOp dEqQ (dVar 4) (dC (.int 0)))) (dRaise (dMk1 (He.ga K "NoWay") "found" (dCons (dTup (dCons (dVar 2) (dCons (dVar 3) dNil))) dNil))) dNext)
  (dRet (dCallN 2 1 sp_slide (fun ds es => pick [0, 1, 2] (ds ++ es ++ [])) (dCons (dVar 0) (dCons (dCall sp_over [] (dCons (dCall sp_times [] (dCons (dVar 1) (dCons (dOp (dI MulOk fun i j => .int (i * j)) (dOp dIxR (dVar 2) (dC (.int 2))) (dOp dIxR (dVar 3) (dC (.int 2)))) dNil))) (dCons (dVar 4) dNil))) dNil)) (dCons (dVar 2) dNil)))))))))
/-- _law_refused: 0 place, 1 far, 2 path, 3 gauge, 4 e -/
def t_law_refused (K : PySem.W.Frag) (sp_moved : DSp) : DTS :=
  (dSeq (dTryEq K (exC K "NoWay") (He.ga K "NoWay") "found" 4 dEqB (dTup (dCons (dVar 2) (dCons (dVar 3) dNil))) (dDropX (dCallNX 2 2 sp_moved (fun ds es => pick [0, 1, 2, 3] (ds ++ es ++ [])) (dCons (dVar 0) (dCons (dVar 1) dNil)) (dCons (dVar 2) (dCons (dVar 3) dNil)))))
  (dRet (dC (.bl false))))
/-- _law_plain_place: 0 place, 1 number, 2 a, 3 b -/
def t_law_plain_place (sp_law_pair : DSp) (sp_law_is : DSp) (sp_law_number : DSp) : DTS :=
  (dSeq (dIf (dOr (dNot (dTest (dCB (dR2 dIsiR) (dCons (dVar 0) (dCons (dC (.ty .tup)) dNil))))) (dTestB (dOp dNeQ (dCB (dR1 dLenR) (dCons (dVar 0) dNil)) (dC (.int 2))))) (dRet (dC (.bl false))) dNext)
  (dSeq (dFor (dSeqI (dVar 0)) (.nm 1) (dSeq (dAsg (dCall sp_law_pair [] (dCons (dVar 1) dNil)) (.tp [(.nm 2), (.nm 3)]))
  (dIf (dOr (dTest (dCB (dR2 dIsiR) (dCons (dVar 2) (dCons (dC (.ty .bool)) dNil)))) (dOr (dNot (dTest (dCB (dR2 dIsiR) (dCons (dVar 2) (dCons (dC (.ty .int)) dNil))))) (dNot (dTest (dCall sp_law_is [] (dCons (dCall sp_law_number [] (dCons (dVar 2) (dCons (dVar 3) dNil))) (dCons (dVar 1) dNil))))))) (dRet (dC (.bl false))) dNext)))
  (dRet (dC (.bl true)))))
/-- _law_measure_two: 0 place, 1 slope, 2 far -/
def t_law_measure_two (sp_law_sum : DSp) (sp_law_product : DSp) : DTS :=
  (dSeq (dAsg (dCall sp_law_sum [] (dCons (dCall sp_law_product [] (dCons (dOp dIxR (dVar 0) (dC (.int 0))) (dCons (dOp dIxR (dVar 1) (dC (.int 0))) dNil))) (dCons (dCall sp_law_product [] (dCons (dOp dIxR (dVar 0) (dC (.int 1))) (dCons (dOp dIxR (dVar 1) (dC (.int 1))) dNil))) dNil))) (.nm 2))
  (dRet (dCall sp_law_product [] (dCons (dVar 2) (dCons (dIfE (dTestB (dOp (dCmpR (fun i j => decide (j < i)) (fun a b => decide (b < a))) (dOp dIxR (dVar 1) (dC (.int 2))) (dC (.int 1)))) (dTup (dCons (dC (.int 1)) (dCons (dOp dIxR (dVar 1) (dC (.int 2))) dNil))) (dC (.int 1))) dNil)))))
/-- _law_moved_right: 0 found, 1 place, 2 far, 3 path, 4 gauge, 5 east, 6 north -/
def t_law_moved_right (sp_law_plain_place : DSp) (sp_law_is : DSp) (sp_law_sum : DSp) (sp_law_measure_two : DSp) (sp_law_product : DSp) : DTS :=
  (dSeq (dIf (dNot (dTest (dCall sp_law_plain_place [] (dCons (dVar 0) dNil)))) (dRet (dC (.bl false))) dNext)
  (dSeq (dIf (dNot (dTest (dCall sp_law_is [] (dCons (dCall sp_law_measure_two [] (dCons (dVar 0) (dCons (dVar 4) dNil))) (dCons (dCall sp_law_sum [] (dCons (dCall sp_law_measure_two [] (dCons (dVar 1) (dCons (dVar 4) dNil))) (dCons (dVar 2) dNil))) dNil))))) (dRet (dC (.bl false))) dNext)
  (dSeq (dAsg (dCall sp_law_sum [] (dCons (dOp dIxR (dVar 0) (dC (.int 0))) (dCons (dCall sp_law_product [] (dCons (dOp dIxR (dVar 1) (dC (.int 0))) (dCons (dOp (dI0 fun i j => .int (i - j)) (dC (.int 0)) (dC (.int 1))) dNil))) dNil))) (.nm 5))
  (dSeq (dAsg (dCall sp_law_sum [] (dCons (dOp dIxR (dVar 0) (dC (.int 1))) (dCons (dCall sp_law_product [] (dCons (dOp dIxR (dVar 1) (dC (.int 1))) (dCons (dOp (dI0 fun i j => .int (i - j)) (dC (.int 0)) (dC (.int 1))) dNil))) dNil))) (.nm 6))
  (dRet (dCall sp_law_is [] (dCons (dCall sp_law_product [] (dCons (dVar 5) (dCons (dOp dIxR (dVar 3) (dC (.int 1))) dNil))) (dCons (dCall sp_law_product [] (dCons (dVar 6) (dCons (dOp dIxR (dVar 3) (dC (.int 0))) dNil))) dNil))))))))
/-- _law_right_two: 0 place, 1 far, 2 path, 3 gauge, 4 found -/
def t_law_right_two (sp_law_refused : DSp) (sp_moved : DSp) (sp_law_moved_right : DSp) (sp_law_product : DSp) : DTS :=
  (dSeq (dIf (dTestB (dOp dEqQ (dOp dAddR (dOp (dI MulOk fun i j => .int (i * j)) (dOp dIxR (dVar 2) (dC (.int 0))) (dOp dIxR (dVar 3) (dC (.int 0)))) (dOp (dI MulOk fun i j => .int (i * j)) (dOp dIxR (dVar 2) (dC (.int 1))) (dOp dIxR (dVar 3) (dC (.int 1))))) (dC (.int 0)))) (dRet (dCall sp_law_refused [] (dCons (dVar 0) (dCons (dVar 1) (dCons (dVar 2) (dCons (dVar 3) dNil)))))) dNext)
  (dSeq (dAsg (dCallN 2 2 sp_moved (fun ds es => pick [0, 1, 3, 2] (ds ++ es ++ [])) (dCons (dVar 0) (dCons (dVar 1) dNil)) (dCons (dVar 3) (dCons (dVar 2) dNil))) (.nm 4))
  (dSeq (dIf (dNot (dTest (dCall sp_law_moved_right [] (dCons (dVar 4) (dCons (dVar 0) (dCons (dVar 1) (dCons (dVar 2) (dCons (dVar 3) dNil)))))))) (dRet (dC (.bl false))) dNext)
  (dSeq (dIf (dTestB (dOp dNeB (dCallN 1 3 sp_moved (fun ds es => pick [0, 2, 1, 3] (ds ++ es ++ [])) (dCons (dVar 0) dNil) (dCons (dVar 2) (dCons (dVar 1) (dCons (dVar 3) dNil)))) (dVar 4))) (dRet (dC (.bl false))) dNext)
  (dRet (dOp dEqB (dCallN 2 2 sp_moved (fun ds es => pick [0, 1, 2, 3] (ds ++ es ++ [])) (dCons (dVar 4) (dCons (dCall sp_law_product [] (dCons (dVar 1) (dCons (dOp (dI0 fun i j => .int (i - j)) (dC (.int 0)) (dC (.int 1))) dNil))) dNil)) (dCons (dVar 2) (dCons (dVar 3) dNil))) (dVar 0)))))))
/-- _law_left_out: 0 place, 1 far, 2 path, 3 east -/
def t_law_left_out (sp_moved : DSp) (sp_law_sum : DSp) (sp_law_refused : DSp) (sp_law_moved_right : DSp) : DTS :=
  (dSeq (dAsg (dTup (dCons (dC (.int 1)) (dCons (dC (.int 0)) (dCons (dC (.int 1)) dNil)))) (.nm 3))
  (dSeq (dIf (dTestB (dOp dNeB (dCallN 2 0 sp_moved (fun ds es => pick [0, 1, 2, 3] (ds ++ es ++ [D.tup [D.int 1, D.int 0, D.int 1], D.tup [D.int 1, D.int 0, D.int 1]])) (dCons (dVar 0) (dCons (dVar 1) dNil)) dNil) (dTup (dCons (dCall sp_law_sum [] (dCons (dOp dIxR (dVar 0) (dC (.int 0))) (dCons (dVar 1) dNil))) (dCons (dOp dIxR (dVar 0) (dC (.int 1))) dNil))))) (dRet (dC (.bl false))) dNext)
  (dSeq (dIf (dTestB (dOp dEqQ (dOp dIxR (dVar 2) (dC (.int 0))) (dC (.int 0)))) (dRet (dAndV (dCall sp_law_refused [] (dCons (dVar 0) (dCons (dVar 1) (dCons (dVar 2) (dCons (dVar 3) dNil))))) (dCall sp_law_refused [] (dCons (dVar 0) (dCons (dVar 1) (dCons (dVar 3) (dCons (dVar 2) dNil))))))) dNext)
  (dSeq (dIf (dNot (dTest (dCall sp_law_moved_right [] (dCons (dCallN 2 1 sp_moved (fun ds es => pick [0, 1, 2, 3] (ds ++ es ++ [D.tup [D.int 1, D.int 0, D.int 1]])) (dCons (dVar 0) (dCons (dVar 1) dNil)) (dCons (dVar 2) dNil)) (dCons (dVar 0) (dCons (dVar 1) (dCons (dVar 2) (dCons (dVar 3) dNil)))))))) (dRet (dC (.bl false))) dNext)
  (dRet (dCall sp_law_moved_right [] (dCons (dCallN 2 1 sp_moved (fun ds es => pick [0, 1, 3, 2] (ds ++ es ++ [D.tup [D.int 1, D.int 0, D.int 1]])) (dCons (dVar 0) (dCons (dVar 1) dNil)) (dCons (dVar 2) dNil)) (dCons (dVar 0) (dCons (dVar 1) (dCons (dVar 3) (dCons (dVar 2) dNil)))))))))))
/-- _law_asked_two: 0 script, 1 k, 2 box, 3 turn, 4 path, 5 gauge, 6 place, 7 far -/
def t_law_asked_two (K : PySem.W.Frag) (sp_law_box : DSp) (sp_law_cell_two : DSp) (sp_law_take_two : DSp) (sp_law_slope_two : DSp) (sp_law_drawn_two : DSp) (sp_law_right_two : DSp) (sp_law_left_out : DSp) : DTS :=
  (dSeq (dFor (dRng1 (dCB (dR2 dMax2R) (dCons (dC (.int 2)) (dCons (dCB (dR2 dMin2R) (dCons (dC (.int 8)) (dCons (dCB (dR1 dLenR) (dCons (dVar 0) dNil)) dNil))) dNil)))) (.nm 1) (dSeq (dAsg (dCall sp_law_box [] (dCons (dCall sp_law_cell_two [] (dCons (dVar 0) (dCons (dVar 1) dNil))) dNil)) (.nm 2))
  (dSeq (dAsg (dCall sp_law_take_two [] (dCons (dVar 2) (dCons (dC (.int 4)) dNil))) (.nm 3))
  (dSeq (dPar 4 5 (dCons (dCall sp_law_slope_two [] (dCons (dVar 2) dNil)) (dCons (dCall sp_law_slope_two [] (dCons (dVar 2) dNil)) dNil)))
  (dSeq (dIf (dTestB (dOp dEqQ (dVar 3) (dC (.int 0)))) (dAsg (dTup (dCons (dOp (dI0 fun i j => .int (i - j)) (dC (.int 0)) (dOp dIxR (dVar 4) (dC (.int 1)))) (dCons (dOp dIxR (dVar 4) (dC (.int 0))) (dCons (dOp dIxR (dVar 4) (dC (.int 2))) dNil)))) (.nm 5)) dNext)
  (dSeq (dIf (dTestB (dOp dEqQ (dVar 3) (dC (.int 1)))) (dAsg (dOp dIxR (dLst (dCons (dTup (dCons (dC (.int 1)) (dCons (dC (.int 0)) (dCons (dC (.int 1)) dNil)))) (dCons (dTup (dCons (dC (.int 0)) (dCons (dC (.int 1)) (dCons (dC (.int 1)) dNil)))) (dCons (dTup (dCons (dOp (dI0 fun i j => .int (i - j)) (dC (.int 0)) (dC (.int 1))) (dCons (dC (.int 0)) (dCons (dC (.int 1)) dNil)))) dNil)))) (dCall sp_law_take_two [] (dCons (dVar 2) (dCons (dC (.int 3)) dNil)))) (.nm 4)) dNext)
  (dSeq (dAsg (dTup (dCons (dCall sp_law_drawn_two [] (dCons (dVar 2) dNil)) (dCons (dCall sp_law_drawn_two [] (dCons (dVar 2) dNil)) dNil))) (.nm 6))
  (dSeq (dAsg (dOp dIxR (dLst (dCons (dCall sp_law_drawn_two [] (dCons (dVar 2) dNil)) (dCons (dC (.int 0)) dNil))) (dCB (dR1 dIntR) (dCons (dOp dEqQ (dCall sp_law_take_two [] (dCons (dVar 2) (dCons (dC (.int 6)) dNil))) (dC (.int 0))) dNil))) (.nm 7))
  (dSeq (dIf (dOr (dNot (dTest (dCall sp_law_right_two [] (dCons (dVar 6) (dCons (dVar 7) (dCons (dVar 4) (dCons (dVar 5) dNil))))))) (dNot (dTest (dCall sp_law_left_out [] (dCons (dVar 6) (dCons (dVar 7) (dCons (dVar 4) dNil))))))) (dRet (dC (.bl false))) dNext)
  (dIf (dNot (dTest (dCall sp_law_right_two [] (dCons (dTup (dCons (dVar 7) (dCons (dOp dIxR (dVar 6) (dC (.int 0))) dNil))) (dCons (dOp dIxR (dVar 6) (dC (.int 1))) (dCons (dVar 5) (dCons (dVar 4) dNil))))))) (dRet (dC (.bl false))) dNext))))))))))
  (dGhost K (dRet (dC (.bl true)))))
/-- law: 0 script -/
def t_law (sp_law_asked_one : DSp) (sp_law_asked_two : DSp) : DTS :=
  (dRet (dAndV (dCall sp_law_asked_one [] (dCons (dVar 0) dNil)) (dCall sp_law_asked_two [] (dCons (dVar 0) dNil))))
end K05
set_option linter.all false
set_option maxRecDepth 100000
namespace K05
open PySem PySem.Spec L2 DL
abbrev sp_is_plain := NUM.sp_is_plain
def rd_is_plain := @NUM.rd_is_plain
abbrev sp_is_whole := NUM.sp_is_whole
def rd_is_whole := @NUM.rd_is_whole
abbrev sp_common_part := NUM.sp_common_part
def rd_common_part := @NUM.rd_common_part
abbrev sp_is_part := NUM.sp_is_part
def rd_is_part := @NUM.rd_is_part
abbrev sp_is_number := NUM.sp_is_number
def rd_is_number := @NUM.rd_is_number
abbrev sp_pair_of := NUM.sp_pair_of
def rd_pair_of := @NUM.rd_pair_of
abbrev sp_reckoned := NUM.sp_reckoned
def rd_reckoned := @NUM.rd_reckoned
abbrev sp_over := NUM.sp_over
def rd_over := @NUM.rd_over
abbrev sp_plus := NUM.sp_plus
def rd_plus := @NUM.rd_plus
abbrev sp_times := NUM.sp_times
def rd_times := @NUM.rd_times
end K05
set_option linter.all false
set_option maxRecDepth 100000
set_option maxHeartbeats 1000000
namespace K05
open PySem PySem.Spec L2 DL
open NUM Rat
abbrev sp_law_take : DSp := spTake
abbrev sp_law_take_two : DSp := spTake
abbrev sp_law_box : DSp := spBox
abbrev sp_law_cell : DSp := spCell
abbrev sp_law_cell_two : DSp := spCell
theorem rd_law_take : ∀ x m G Q (E : DXK), (∃ (p : Addr) (s : Bx) (k : Nat) (n : Int), x = .ref p ∧ G p = some s.go ∧ s.Ok k ∧ k < 2 ^ 30 ∧ m = .int n ∧ 0 < n ∧ n.natAbs < 2 ^ 1000 ∧
  ∀ (v : Int) (s' : Bx), 0 ≤ v → v < n → s'.Ok (k + 1) → Q (.int v) (gupd G p s'.go)) → DRun (t_law_take ) [some x, some m, none, none] G Q := by
  rintro x m G Q E ⟨p, ⟨a, b, c⟩, k, n, rfl, hp, ⟨a0, b0, b1, c0, c1⟩, hk, rfl, hn, hn2, h⟩
  change G p = some (.lst [.int a, .int b, .int c]) at hp
  change 0 ≤ a at a0
  change 0 ≤ b at b0
  change b < _ at b1
  change 0 ≤ c at c0
  change c ≤ _ at c1
  have hl : lsOf G (.ref p) = some [.int a, .int b, .int c] := lsOf_ref hp
  conv => whnf
  rw [hl]
  conv => whnf
  refine ⟨fun e => ?_, fun e => ?_⟩
  · have ha : 0 < a := of_decide_eq_true e
    conv => whnf
    rw [hl]
    conv => whnf
    refine ⟨hn, ?_⟩
    conv => whnf
    rw [hl]
    conv => whnf
    refine ⟨divw_small hn hn2, ?_⟩
    conv => whnf
    rw [hp]
    conv => whnf
    exact h _ ⟨a / n, b, c⟩ (Int.emod_nonneg _ (by omega)) (Int.emod_lt_of_pos _ hn) ⟨Int.ediv_nonneg a0 (by omega), b0, b1, c0, by show c ≤ _; omega⟩
  · have ha : a ≤ 0 := by have := of_decide_eq_false e; omega
    conv => whnf
    rw [hl]
    conv => whnf
    rw [hp]
    conv => whnf
    rw [lsOf_ref gupd_same]
    conv => whnf
    rw [lsOf_ref gupd_same]
    conv => whnf
    refine ⟨mul_small (.inl (by omega)), ?_⟩
    conv => whnf
    refine ⟨pow_small (by omega), ?_⟩
    conv => whnf
    refine ⟨by omega, ?_⟩
    generalize hN : ((b + 6217 * (c + 1) + 71) ^ (5 : Int).toNat) % 2147483647 = N
    have n0 : 0 ≤ N := by rw [← hN]; exact Int.emod_nonneg _ (by omega)
    have n1 : N < 2147483647 := by rw [← hN]; exact Int.emod_lt_of_pos _ (by omega)
    conv => whnf
    rw [lsOf_ref gupd_same]
    conv => whnf
    refine ⟨mul_small (.inl (by omega)), ?_⟩
    conv => whnf
    refine ⟨pow_small (by omega), ?_⟩
    conv => whnf
    refine ⟨by omega, ?_⟩
    conv => whnf
    refine ⟨⟨by decide, by decide⟩, ?_⟩
    conv => whnf
    refine ⟨hn, ?_⟩
    conv => whnf
    exact h _ ⟨a, b, c + 1⟩ (Int.emod_nonneg _ (by omega)) (Int.emod_lt_of_pos _ hn) ⟨a0, b0, b1, by show 0 ≤ c + 1; omega, by show c + 1 ≤ _; omega⟩
theorem rd_law_take_two : ∀ x m G Q (E : DXK), (∃ (p : Addr) (s : Bx) (k : Nat) (n : Int), x = .ref p ∧ G p = some s.go ∧ s.Ok k ∧ k < 2 ^ 30 ∧ m = .int n ∧ 0 < n ∧ n.natAbs < 2 ^ 1000 ∧
  ∀ (v : Int) (s' : Bx), 0 ≤ v → v < n → s'.Ok (k + 1) → Q (.int v) (gupd G p s'.go)) → DRun (t_law_take_two ) [some x, some m, none, none] G Q := by
  rintro x m G Q E ⟨p, ⟨a, b, c⟩, k, n, rfl, hp, ⟨a0, b0, b1, c0, c1⟩, hk, rfl, hn, hn2, h⟩
  change G p = some (.lst [.int a, .int b, .int c]) at hp
  change 0 ≤ a at a0
  change 0 ≤ b at b0
  change b < _ at b1
  change 0 ≤ c at c0
  change c ≤ _ at c1
  have hl : lsOf G (.ref p) = some [.int a, .int b, .int c] := lsOf_ref hp
  conv => whnf
  rw [hl]
  conv => whnf
  refine ⟨fun e => ?_, fun e => ?_⟩
  · have ha : 0 < a := of_decide_eq_true e
    conv => whnf
    rw [hl]
    conv => whnf
    refine ⟨hn, ?_⟩
    conv => whnf
    rw [hl]
    conv => whnf
    refine ⟨divw_small hn hn2, ?_⟩
    conv => whnf
    rw [hp]
    conv => whnf
    exact h _ ⟨a / n, b, c⟩ (Int.emod_nonneg _ (by omega)) (Int.emod_lt_of_pos _ hn) ⟨Int.ediv_nonneg a0 (by omega), b0, b1, c0, by show c ≤ _; omega⟩
  · have ha : a ≤ 0 := by have := of_decide_eq_false e; omega
    conv => whnf
    rw [hl]
    conv => whnf
    rw [hp]
    conv => whnf
    rw [lsOf_ref gupd_same]
    conv => whnf
    rw [lsOf_ref gupd_same]
    conv => whnf
    refine ⟨mul_small (.inl (by omega)), ?_⟩
    conv => whnf
    refine ⟨pow_small (by omega), ?_⟩
    conv => whnf
    refine ⟨by omega, ?_⟩
    generalize hN : ((b + 6599 * (c + 1) + 73) ^ (5 : Int).toNat) % 2147483647 = N
    have n0 : 0 ≤ N := by rw [← hN]; exact Int.emod_nonneg _ (by omega)
    have n1 : N < 2147483647 := by rw [← hN]; exact Int.emod_lt_of_pos _ (by omega)
    conv => whnf
    rw [lsOf_ref gupd_same]
    conv => whnf
    refine ⟨mul_small (.inl (by omega)), ?_⟩
    conv => whnf
    refine ⟨pow_small (by omega), ?_⟩
    conv => whnf
    refine ⟨by omega, ?_⟩
    conv => whnf
    refine ⟨⟨by decide, by decide⟩, ?_⟩
    conv => whnf
    refine ⟨hn, ?_⟩
    conv => whnf
    exact h _ ⟨a, b, c + 1⟩ (Int.emod_nonneg _ (by omega)) (Int.emod_lt_of_pos _ hn) ⟨a0, b0, b1, by show 0 ≤ c + 1; omega, by show c + 1 ≤ _; omega⟩
theorem rd_law_box : ∀ x G Q (E : DXK), (∃ z : Int, x = .int z ∧ ∀ (p : Addr) (s : Bx), G p = none → s.Ok 0 → Q (.ref p) (gupd G p s.go)) → DRun (t_law_box ) [some x] G Q := by
  rintro x G Q E ⟨z, rfl, h⟩
  conv => whnf
  refine ⟨pow_small (by decide), ?_⟩
  conv => whnf
  refine ⟨by omega, ?_⟩
  conv => whnf
  refine ⟨by show 3 ≤ sizeLine; decide, fun p hp => ?_⟩
  exact h p ⟨max 0 (z - 10 ^ 18), z % 2147483629, 0⟩ hp ⟨by show 0 ≤ max 0 _; omega, Int.emod_nonneg _ (by omega), by have := Int.emod_lt_of_pos z (show (0 : Int) < 2147483629 by omega); show z % _ < _; omega, by show (0 : Int) ≤ 0; decide, by show (0 : Int) ≤ 0; decide⟩
theorem rd_law_cell : ∀ x m G Q (E : DXK), (∃ (ns : List Int) (k : Int), x = .scr (ns.map .int) ∧ m = .int k ∧ 0 ≤ k ∧ k < 2 ^ 40 ∧ ∀ z : Int, Q (.int z) G) → DRun (t_law_cell ) [some x, some m] G Q := by
  rintro x m G Q E ⟨ns, k, rfl, rfl, h0, h1, h⟩
  conv => whnf
  refine ⟨fun e => ?_, fun e => ?_⟩
  · have e : k < (ns.map D.int).length := of_decide_eq_true e
    conv => whnf
    refine atD_of h0 e fun d hd => ?_
    obtain ⟨z, _, rfl⟩ := List.mem_map.mp hd
    exact h z
  · conv => whnf
    refine ⟨mul_small (.inl (by omega)), ?_⟩
    conv => whnf
    exact h _
theorem rd_law_cell_two : ∀ x m G Q (E : DXK), (∃ (ns : List Int) (k : Int), x = .scr (ns.map .int) ∧ m = .int k ∧ 0 ≤ k ∧ k < 2 ^ 40 ∧ ∀ z : Int, Q (.int z) G) → DRun (t_law_cell_two ) [some x, some m] G Q := by
  rintro x m G Q E ⟨ns, k, rfl, rfl, h0, h1, h⟩
  conv => whnf
  refine ⟨fun e => ?_, fun e => ?_⟩
  · have e : k < (ns.map D.int).length := of_decide_eq_true e
    conv => whnf
    refine atD_of h0 e fun d hd => ?_
    obtain ⟨z, _, rfl⟩ := List.mem_map.mp hd
    exact h z
  · conv => whnf
    refine ⟨mul_small (.inl (by omega)), ?_⟩
    conv => whnf
    exact h _
/-! far numbers -/
def prFar (x : D) (G : GHp) (Q : DK) : Prop := ∃ (G0 : GHp) (p : Addr) (k : Nat), x = .ref p ∧ Bk G0 p k G ∧ k < 900000 ∧ ∀ (v : Int) G', v.natAbs < 10 ^ 30 → Bk G0 p (k + 12) G' → Q (.int v) G'
abbrev sp_law_far : DSp := sp1 fun x G Q _ => prFar x G Q
abbrev sp_law_far_two : DSp := sp1 fun x G Q _ => prFar x G Q
theorem p1000 (j : Nat) : (0 : Int) < 1000 ^ j := Int.pow_pos (by decide)
theorem rd_farG {sp : DSp} (hsp : ∀ ds G Q E, spTake ds G Q E → sp ds G Q E) : ∀ x G Q (E : DXK), prFar x G Q → DRun (t_law_far sp) [some x, none, none] G Q := by
  rintro x G Q E ⟨G0, p, k, rfl, B, hk, h⟩
  conv => whnf
  refine tk hsp B (by omega) (by omega) (by omega) fun u G u0 u1 B => ?_
  conv => whnf
  obtain ⟨n, rfl⟩ : ∃ n : Nat, u = n := ⟨u.toNat, by omega⟩
  refine ⟨by unfold RgB; omega, ?_⟩
  rw [show (1 + (n : Int)).toNat = n + 1 by omega]
  refine for_rng (enc := fun (i : Nat) => D.int (0 + i)) (fun j δ G' => ∃ (v : Int) (o2 : Option D), δ = [some (.ref p), some (.int v), o2] ∧ 0 ≤ v ∧ v < 1000 ^ j ∧ Bk G0 p (k + 1 + j) G') (n + 1) ?_ ?_ _ _ ⟨0, none, rfl, by omega, p1000 0, B⟩
  rotate_left
  · rintro j hj δ G' ⟨v, o2, rfl, v0, v1, B⟩
    refine ⟨trivial, _, rfl, fun N hN => ?_⟩
    conv => whnf
    refine ⟨mul_small (.inl (by omega)), ?_⟩
    conv => whnf
    refine tk hsp B (by omega) (by omega) (by omega) fun w G w_0 w_1 B => ?_
    conv => whnf
    refine hN _ _ ⟨_, _, rfl, by omega, ?_, B⟩
    show 1000 * v + w < 1000 ^ (j + 1)
    rw [Int.pow_succ]
    generalize (1000 : Int) ^ j = z at v1
    omega
  · rintro δ G' ⟨v, o2, rfl, v0, v1, B⟩
    refine ⟨trivial, ?_⟩
    have v2 : v < 10 ^ 30 := by
      have h1 : (1000 : Nat) ^ (n + 1) ≤ 1000 ^ 10 := Nat.pow_le_pow_right (by decide) (by omega)
      have h1 : (1000 : Int) ^ (n + 1) ≤ 1000 ^ 10 := by exact_mod_cast h1
      have h2 : (1000 : Int) ^ 10 = 10 ^ 30 := by decide
      omega
    conv => whnf
    refine ⟨by show (0 : Int) < 1000; decide, ?_⟩
    conv => whnf
    refine ⟨smallL (by simp), ?_⟩
    conv => whnf
    refine tk hsp B (by omega) (by omega) (by omega) fun w G w_0 w_1 B => ?_
    conv => whnf
    refine atD_of (by omega) (by simp; omega) fun d hd => ?_
    have B2 := B.mono (show k + 1 + (n + 1) + 1 ≤ k + 12 by omega)
    simp only [List.mem_cons, List.not_mem_nil, or_false] at hd
    rcases hd with rfl | rfl | rfl
    · exact h _ _ (by omega) B2
    · exact h _ _ (by omega) B2
    · refine h _ _ ?_ B2
      have := Int.emod_nonneg v (show (1000 : Int) ≠ 0 by decide)
      have := Int.emod_lt_of_pos v (show (0 : Int) < 1000 by decide)
      show (v % 1000 - 500).natAbs < _
      omega
theorem rd_law_far : ∀ x G Q (E : DXK), prFar x G Q → DRun (t_law_far sp_law_take) [some x, none, none] G Q := rd_farG fun _ _ _ _ h => h
theorem rd_law_far_two : ∀ x G Q (E : DXK), prFar x G Q → DRun (t_law_far_two sp_law_take_two) [some x, none, none] G Q := rd_farG fun _ _ _ _ h => h
theorem fr {sp : DSp} (hf : ∀ ds G Q E, sp_law_far ds G Q E → sp ds G Q E) {G0 G : GHp} {p : Addr} {k : Nat} {Q : DK} {E : DXK} (B : Bk G0 p k G) (hk : k < 900000) (h : ∀ (v : Int) G', v.natAbs < 10 ^ 30 → Bk G0 p (k + 12) G' → Q (.int v) G') : sp [.ref p] G Q E :=
  hf _ _ _ _ ⟨G0, p, k, rfl, B, hk, h⟩
theorem for_indD {gd : Gd} {g : Tgt} {tb : DTS} {E : DEnds} (I : List D → DSt → GHp → Prop) (hd : ∀ δ G, I [] δ G → gd.ok G ∧ E.nx δ G)
    (hs : ∀ x r δ G, I (x :: r) δ G → gd.ok G ∧ ∃ δ', g.set x δ = some δ' ∧ ∀ N : DSt → GHp → Prop, (∀ δ G, I r δ G → N δ G) → tb { E with nx := N, ct := N, bk := E.nx } δ' G) (xs : List D) (δ : DSt) (G : GHp) (h : I xs δ G) : dForL gd g tb xs E δ G := by
  have := for_ind (gd := gd) (g := g) (tb := tb) (E := E) (enc := fun d : D => d) I hd hs xs δ G h
  rwa [List.map_id'] at this
def pr_law_number (a b : D) (G : GHp) (Q : DK) : Prop := pr_reckoned a b G Q
def sp_law_number : DSp := sp2 fun a b G Q _ => pr_law_number a b G Q
def t_num_tail : DTS := (dRet (dIfE (dTestB (dOp dEqQ (dOp (dI (fun _ j => DivOk j) fun i j => .int (i.fdiv j)) (dVar 1) (dVar 2)) (dC (.int 1)))) (dOp (dI (fun _ j => DivOk j) fun i j => .int (i.fdiv j)) (dVar 0) (dVar 2)) (dTup (dCons (dOp (dI (fun _ j => DivOk j) fun i j => .int (i.fdiv j)) (dVar 0) (dVar 2)) (dCons (dOp (dI (fun _ j => DivOk j) fun i j => .int (i.fdiv j)) (dVar 1) (dVar 2)) dNil)))))
theorem num_tail {t d g : Int} {o : Option D} {G : GHp} {Q : DK} (g0 : g ≠ 0) (g1 : g.natAbs < 2 ^ 8990) (e1 : t.fdiv g = (t /. d).num) (e2 : d.fdiv g = ((t /. d).den : Int)) (h : Q (numD (t /. d)) G) :
    t_num_tail { nx := fun _ G' => Q .non G', rt := Q } [some (.int t), some (.int d), some (.int g), o] G := by
  have ok : DivOk g := divN_ok g0 g1 (by decide) (by decide)
  unfold numD at h
  rw [← e1, ← e2] at h
  conv => whnf
  refine ⟨ok, ?_⟩
  conv => whnf
  refine ⟨fun e => ?_, fun e => ?_⟩
  · have e : decide (d.fdiv g = 1) = true := e
    have e := of_decide_eq_true e
    rw [if_pos (by omega)] at h
    conv => whnf
    refine ⟨ok, ?_⟩
    exact h
  · have e : decide (d.fdiv g = 1) = false := e
    have e := of_decide_eq_false e
    rw [if_neg (by omega)] at h
    conv => whnf
    refine ⟨ok, ?_⟩
    conv => whnf
    refine ⟨ok, ?_⟩
    conv => whnf
    exact ⟨smallL (by simp), h⟩
theorem rd_law_number : ∀ a b G Q (E : DXK), pr_law_number a b G Q → DRun (t_law_number ) [some a, some b, none, none] G Q := by
  rintro a b G Q E ⟨t, d, rfl, rfl, hd, hs, h⟩
  have hg : 0 < t.gcd d := Int.gcd_pos_of_ne_zero_right _ hd
  have hgs : ((t.gcd d : Nat) : Int).natAbs < 2 ^ 8990 := by simpa using gcd_lt hd hs
  have hgn : (0 - ((t.gcd d : Nat) : Int)).natAbs < 2 ^ 8990 := by have := gcd_lt hd hs (t := t); omega
  conv => whnf
  refine while_ind (fun n δ G' => G' = G ∧ ∃ m : Nat, δ = [some (.int t), some (.int d), some (.int m), some (.int n)] ∧ m.gcd n = t.gcd d) d.natAbs ⟨rfl, t.natAbs, rfl, rfl⟩ ?_
  rintro n δ _ ⟨rfl, m, rfl, hg2⟩ N hN
  conv => whnf
  refine ⟨fun e => ?_, fun e => ?_⟩
  · have e : (!decide ((n : Int) = 0)) = true := e
    have hn : n ≠ 0 := fun q => by rw [q] at e; exact ft e
    conv => whnf
    refine ⟨by omega, ?_⟩
    conv => whnf
    have em : ((m : Int) % (n : Int)) = ((m % n : Nat) : Int) := rfl
    refine hN (m % n) _ _ (Nat.mod_lt _ (by omega)) ⟨rfl, n, ?_, ?_⟩
    · rw [← em]; rfl
    · rw [← hg2, Nat.gcd_comm m n, Nat.gcd_rec n m, Nat.gcd_comm]
  · have e : (!decide ((n : Int) = 0)) = false := e
    have hn : n = 0 := by
      by_cases q : n = 0
      · exact q
      · rw [decide_eq_false (by omega)] at e; exact tf e
    subst hn
    rw [Nat.gcd_zero_right] at hg2
    subst hg2
    conv => whnf
    refine ⟨fun e => ?_, fun e => ?_⟩
    · have e : d < 0 := of_decide_eq_true e
      obtain ⟨f1, f2⟩ := frac_neg (t := t) e
      refine num_tail (g := 0 - ((t.gcd d : Nat) : Int)) (by omega) hgn ?_ ?_ h
      · rw [f1, show t = -(-t) by omega, Int.zero_sub, Int.neg_fdiv_neg, Int.fdiv_eq_ediv_of_nonneg _ (by omega)]
        simp
      · rw [f2, show d.fdiv (0 - ((t.gcd d : Nat) : Int)) = (-(-d)).fdiv (-((t.gcd d : Nat) : Int)) by rw [Int.neg_neg, Int.zero_sub], Int.neg_fdiv_neg, Int.fdiv_eq_ediv_of_nonneg _ (by omega)]
    · have e : ¬ d < 0 := of_decide_eq_false e
      obtain ⟨f1, f2⟩ := frac_pos (t := t) (show 0 < d by omega)
      refine num_tail (g := ((t.gcd d : Nat) : Int)) (by omega) hgs ?_ ?_ h
      · rw [f1, Int.fdiv_eq_ediv_of_nonneg _ (by omega)]
      · rw [f2, Int.fdiv_eq_ediv_of_nonneg _ (by omega)]
/-! == of numbers -/
def pdN (q : Rat) : PyData := if q.den = 1 then .int q.num else .tuple [.int q.num, .int q.den]
theorem DD_num {G : GHp} (q : Rat) : DD G (numD q) (pdN q) := by
  unfold numD pdN
  split
  · exact .int _
  · exact DD_pr q
theorem Shp_num (n : Nat) (q : Rat) : Shp (n + 1) (pdN q) := by
  unfold pdN
  split
  · exact .int _
  · exact Shp.pr n q
theorem eqv_num (x y : Rat) : PyData.eqv (pdN x) (pdN y) = decide (x = y) := by
  unfold pdN
  split
  · next h1 =>
    split
    · next h2 =>
      simp only [PyData.eqv]
      rw [Bool.eq_iff_iff]
      simp only [decide_eq_true_eq, beq_iff_eq]
      exact ⟨fun e => pr_inj e (by rw [h1, h2]), fun e => by rw [e]⟩
    · next h2 =>
      simp only [PyData.eqv]
      rw [decide_eq_false (fun e => h2 (by rw [← e]; exact h1))]
  · next h1 =>
    split
    · next h2 =>
      simp only [PyData.eqv]
      rw [decide_eq_false (fun e => h1 (by rw [e]; exact h2))]
    · exact eqv_pr x y
theorem eqb_num {G : GHp} (x y : Rat) : EqB G (numD x) (numD y) (decide (x = y)) := ⟨_, _, DD_num x, DD_num y, (Shp_num 1 x).ok (by decide), (Shp_num 1 y).ok (by decide), eqv_num x y⟩
theorem eqb_num0 {G : GHp} (x : Rat) : EqB G (numD x) (.int 0) (decide (x = 0)) := by
  have := eqb_num (G := G) x 0
  rwa [show numD 0 = .int 0 from numD_int 0] at this
theorem p31 : (10 : Nat) ^ 30 + 10 < 2 ^ 110 := by decide
def prDrawn (x : D) (G : GHp) (Q : DK) : Prop := ∃ (G0 : GHp) (p : Addr) (k : Nat), x = .ref p ∧ Bk G0 p k G ∧ k < 800000 ∧ ∀ q G', Sz 110 q → Bk G0 p (k + 28) G' → Q (numD q) G'
abbrev sp_law_drawn : DSp := sp1 fun x G Q _ => prDrawn x G Q
theorem le110 {i : Int} (h : i.natAbs < 2 ^ 110) : i.natAbs < 2 ^ 8990 := pow_le h (by decide)
theorem rd_drawnG {sp sf : DSp} (hsp : ∀ ds G Q E, spTake ds G Q E → sp ds G Q E) (hf : ∀ ds G Q E, sp_law_far ds G Q E → sf ds G Q E) : ∀ x G Q (E : DXK), prDrawn x G Q → DRun (t_law_drawn sf sp sp_law_number) [some x, none, none] G Q := by
  rintro x G Q E ⟨G0, p, k, rfl, B, hk, h⟩
  have p3 := p31
  conv => whnf
  refine tk hsp B (by omega) (by omega) (by omega) fun a G a_0 a_1 B => ?_
  conv => whnf
  refine fr hf B (by omega) fun b G hb B => ?_
  refine ⟨smallL (by simp), ?_⟩
  conv => whnf
  refine tk hsp B (by omega) (by omega) (by omega) fun c G c_0 c_1 B => ?_
  conv => whnf
  refine atD_of c_0 (by simp; omega) fun d hd => ?_
  obtain ⟨top, rfl, ht⟩ : ∃ i : Int, d = .int i ∧ i.natAbs < 2 ^ 110 := by
    simp only [List.mem_cons, List.not_mem_nil, or_false] at hd
    rcases hd with rfl | rfl
    · exact ⟨_, rfl, by show (a - 20).natAbs < _; omega⟩
    · exact ⟨_, rfl, by omega⟩
  conv => whnf
  refine tk hsp B (by omega) (by omega) (by omega) fun a2 G a2_0 a2_1 B => ?_
  conv => whnf
  refine fr hf B (by omega) fun b2 G hb2 B => ?_
  conv => whnf
  refine ⟨smallL (by simp), ?_⟩
  conv => whnf
  refine tk hsp B (by omega) (by omega) (by omega) fun c2 G c2_0 c2_1 B => ?_
  conv => whnf
  refine atD_of c2_0 (by simp; omega) fun d2 hd2 => ?_
  obtain ⟨base, rfl, hb1, hb⟩ : ∃ i : Int, d2 = .int i ∧ i ≠ 0 ∧ i.natAbs < 2 ^ 110 := by
    simp only [List.mem_cons, List.not_mem_nil, or_false] at hd2
    rcases hd2 with rfl | rfl | rfl | rfl
    · exact ⟨_, rfl, by decide, by decide⟩
    · exact ⟨_, rfl, by decide, by decide⟩
    · exact ⟨_, rfl, by show 1 + a2 ≠ 0; omega, by show (1 + a2).natAbs < _; omega⟩
    · exact ⟨_, rfl, by show 1 + (b2.natAbs : Int) ≠ 0; omega, by show (1 + (b2.natAbs : Int)).natAbs < _; omega⟩
  conv => whnf
  refine ⟨top, base, rfl, rfl, hb1, le110 hb, ?_⟩
  exact h _ _ (.frac ht hb hb1) (B.mono (by omega))
abbrev sp_law_drawn_two : DSp := sp1 fun x G Q _ => prDrawn x G Q
theorem rd_law_drawn : ∀ x G Q (E : DXK), prDrawn x G Q → DRun (t_law_drawn sp_law_far sp_law_take sp_law_number) [some x, none, none] G Q := rd_drawnG (fun _ _ _ _ h => h) fun _ _ _ _ h => h
theorem rd_law_drawn_two : ∀ x G Q (E : DXK), prDrawn x G Q → DRun (t_law_drawn_two sp_law_far_two sp_law_take_two sp_law_number) [some x, none, none] G Q := rd_drawnG (fun _ _ _ _ h => h) fun _ _ _ _ h => h
def sp_law_pair : DSp := sp1 fun a G Q _ => pr_pair_of a G Q
theorem rd_law_pair : ∀ a G Q (E : DXK), pr_pair_of a G Q → DRun (t_law_pair ) [some a] G Q := by
  rintro a G Q E ⟨q, rfl, h⟩
  rcases numD_cases q with ⟨i, eq, e⟩ | ⟨hd, e⟩
  · rw [e]
    subst eq
    rw [prD_int] at h
    conv => whnf
    refine ⟨fun e => ft e, fun _ => ?_⟩
    conv => whnf
    exact ⟨smallL (by simp), h⟩
  · rw [e]
    conv => whnf
    refine ⟨fun _ => ?_, fun e => tf e⟩
    conv => whnf
    exact h
def pr_is (n : Nat) (a b : D) (G : GHp) (Q : DK) : Prop := (∃ i : Int, a = .int i ∧ b = .int i ∧ 0 < n ∧ Q (.bl true) G) ∨ ∃ q : Rat, a = prD q ∧ b = prD q ∧ 1 < n ∧ Q (.bl true) G
/-- a promise kept shut -/
structure Hd (p : Prop) : Prop where
  h : p
def sp_law_is_n (n : Nat) : DSp := sp2 fun a b G Q _ => Hd (pr_is n a b G Q)
theorem no_law_is {ds : List D} {G : GHp} {Q : DK} {E : DXK} (h : sp_law_is_n 0 ds G Q E) : False := by
  match ds, h with
  | [x, y], ⟨h⟩ =>
    rcases h with ⟨_, _, _, h, _⟩ | ⟨_, _, _, h, _⟩ <;> omega
abbrev sp_law_is := sp_law_is_n 3
theorem eqb_pr2 {G : GHp} (x : Rat) : EqB G (prD x) (prD x) true := ⟨_, _, DD_pr x, DD_pr x, (Shp.pr 1 x).ok (by decide), (Shp.pr 1 x).ok (by decide), by rw [eqv_pr]; exact decide_eq_true rfl⟩
theorem rd_law_is (n : Nat) : ∀ a b G Q (E : DXK), Hd (pr_is (n + 1) a b G Q) → DRun (t_law_is (sp_law_is_n n)) [some a, some b] G Q := by
  rintro a b G Q E ⟨⟨i, rfl, rfl, _, h⟩ | ⟨q, rfl, rfl, hn, h⟩⟩
  · conv => whnf
    refine ⟨fun e => ft e, fun _ => ?_⟩
    conv => whnf
    refine ⟨fun _ => ?_, fun e => tf e⟩
    conv => whnf
    refine ⟨fun _ => ?_, fun e => tf e⟩
    conv => whnf
    refine ⟨_, EqB.int i i, ?_⟩
    rw [decide_eq_true rfl]
    exact h
  · have e1 := eqb_pr2 (G := G) q
    unfold prD at e1 ⊢
    conv => whnf
    refine ⟨fun _ => ?_, fun e => tf e⟩
    conv => whnf
    refine ⟨fun _ => ?_, fun e => tf e⟩
    conv => whnf
    refine ⟨_, e1, ?_⟩
    conv => whnf
    refine ⟨fun _ => ?_, fun e => tf e⟩
    conv => whnf
    refine ⟨.inl ⟨_, rfl, rfl, by omega, ?_⟩⟩
    conv => whnf
    refine ⟨fun _ => ?_, fun e => tf e⟩
    conv => whnf
    exact ⟨.inl ⟨_, rfl, rfl, by omega, h⟩⟩
theorem is_num {G : GHp} {Q : DK} (q : Rat) (h : Q (.bl true) G) : pr_is 3 (numD q) (numD q) G Q := by
  rcases numD_cases q with ⟨i, _, e⟩ | ⟨_, e⟩
  · rw [e]
    exact .inl ⟨i, rfl, rfl, by decide, h⟩
  · rw [e]
    exact .inr ⟨q, rfl, rfl, by decide, h⟩
end K05
set_option linter.all false
set_option maxRecDepth 100000
set_option maxHeartbeats 1000000
namespace K05
open PySem PySem.Spec L2 DL
open NUM Rat
def pr_op (f : Rat → Rat → Rat) (a b : D) (G : GHp) (Q : DK) : Prop := ∃ x y : Rat, a = numD x ∧ b = numD y ∧ Sz 4000 x ∧ Sz 4000 y ∧ Q (numD (f x y)) G
def sp_law_sum : DSp := sp2 fun a b G Q _ => pr_op (fun x y => x + y) a b G Q
def sp_law_product : DSp := sp2 fun a b G Q _ => pr_op (fun x y => x * y) a b G Q
theorem rd_law_sum : ∀ a b G Q (E : DXK), pr_op (fun x y => x + y) a b G Q → DRun (t_law_sum sp_law_pair sp_law_number) [some a, some b, none, none, none, none] G Q := by
  rintro a b G Q E ⟨x, y, rfl, rfl, hx, hy, h⟩
  conv => whnf
  refine ⟨x, rfl, ?_⟩
  conv => whnf
  refine ⟨y, rfl, ?_⟩
  conv => whnf
  refine ⟨mulND hx hy, ?_⟩
  conv => whnf
  refine ⟨mulND hy hx, ?_⟩
  conv => whnf
  refine ⟨mulDD hx hy, ?_⟩
  conv => whnf
  refine ⟨_, _, rfl, rfl, den_mul_ne x y, dd_lt hx hy, ?_⟩
  replace h : Q (numD (x + y)) G := h
  rw [add_frac] at h
  exact h
theorem rd_law_product : ∀ a b G Q (E : DXK), pr_op (fun x y => x * y) a b G Q → DRun (t_law_product sp_law_pair sp_law_number) [some a, some b, none, none, none, none] G Q := by
  rintro a b G Q E ⟨x, y, rfl, rfl, hx, hy, h⟩
  conv => whnf
  refine ⟨x, rfl, ?_⟩
  conv => whnf
  refine ⟨y, rfl, ?_⟩
  conv => whnf
  refine ⟨mulNN hx hy, ?_⟩
  conv => whnf
  refine ⟨mulDD hx hy, ?_⟩
  conv => whnf
  refine ⟨_, _, rfl, rfl, den_mul_ne x y, dd_lt hx hy, ?_⟩
  replace h : Q (numD (x * y)) G := h
  rw [mul_frac] at h
  exact h
/-! ways -/
def wyB : D → Bool
  | .tup [x, y, z] => (match x, y, z with
    | .int a, .int b, .int l => decide (1 ≤ l) && (decide (l ≤ 1000) && decide (a * a + b * b = l * l))
    | _, _, _ => false)
  | _ => false
def tgd1 (G : GHp) (d : D) : Prop := (∃ t, tgOf G d = some t) ∧ ∀ i, d = .int i → i.natAbs < 2 ^ 400
def pr_is_way (a : D) (G : GHp) (Q : DK) : Prop := (∃ t, tgOf G a = some t) ∧ (∀ x y z, a = .tup [x, y, z] → tgd1 G x ∧ tgd1 G y ∧ tgd1 G z) ∧ Q (.bl (wyB a)) G
def sp_is_way : DSp := sp1 fun a G Q _ => pr_is_way a G Q
theorem len3 {ds : List D} (h : ds.length = 3) : ∃ x y z, ds = [x, y, z] := by
  match ds, h with
  | [x, y, z], _ => exact ⟨x, y, z, rfl⟩
theorem wy_len {ds : List D} (h : ds.length ≠ 3) : wyB (.tup ds) = false := by
  match ds, h with
  | [], _ => rfl
  | [_], _ => rfl
  | [_, _], _ => rfl
  | [_, _, _], h => exact absurd rfl h
  | _ :: _ :: _ :: _ :: _, _ => rfl
theorem mul400 {i j : Int} (h : i.natAbs < 2 ^ 400) (k : j.natAbs < 2 ^ 400) : MulOk i j := mul_ok (a := 400) (b := 400) h k (by decide) (by decide) (by decide)
theorem rd_is_way : ∀ a G Q (E : DXK), pr_is_way a G Q → DRun (t_is_way sp_is_plain sp_is_whole) [some a, none, none, none] G Q := by
  rintro a G Q E ⟨⟨t, ht⟩, hin, h⟩
  conv => whnf
  rw [ht]
  conv => whnf
  by_cases et : t = .tup
  · subst et
    obtain ⟨ds, rfl⟩ := tag_tup ht
    conv => whnf
    refine ⟨fun e => ft e, fun _ => ?_⟩
    conv => whnf
    refine ⟨fun e => ?_, fun e => ?_⟩
    · have e : (!decide ((ds.length : Int) = 3)) = true := e
      rw [wy_len (fun q => by rw [q] at e; exact ft e)] at h
      exact h
    · have e : (!decide ((ds.length : Int) = 3)) = false := e
      have hl : ds.length = 3 := by
        by_cases q : ds.length = 3
        · exact q
        · rw [decide_eq_false (by omega)] at e; exact tf e
      obtain ⟨x, y, z, rfl⟩ := len3 hl
      obtain ⟨⟨⟨tx, hx⟩, sx⟩, ⟨⟨ty, hy⟩, sy⟩, ⟨⟨tz, hz⟩, sz⟩⟩ := hin x y z rfl
      conv => whnf
      refine ⟨tx, hx, ?_⟩
      cases x with
      | int i =>
        conv => whnf
        refine ⟨fun e => ft e, fun _ => ?_⟩
        conv => whnf
        refine ⟨ty, hy, ?_⟩
        cases y with
        | int j =>
          conv => whnf
          refine ⟨fun e => ft e, fun _ => ?_⟩
          conv => whnf
          refine ⟨tz, 1, 1000, hz, rfl, rfl, ?_⟩
          cases z with
          | int l =>
            have e0 : wyB (.tup [.int i, .int j, .int l]) = (decide (1 ≤ l) && (decide (l ≤ 1000) && decide (i * i + j * j = l * l))) := rfl
            rw [e0, ← Bool.and_assoc] at h
            have e1 : whB (.int l) 1 1000 = (decide (1 ≤ l) && decide (l ≤ 1000)) := rfl
            rw [e1]
            cases hb : (decide (1 ≤ l) && decide (l ≤ 1000)) with
            | true =>
              rw [hb, Bool.true_and] at h
              conv => whnf
              refine ⟨fun e => ft e, fun _ => ?_⟩
              conv => whnf
              refine ⟨mul400 (sx i rfl) (sx i rfl), ?_⟩
              conv => whnf
              refine ⟨mul400 (sy j rfl) (sy j rfl), ?_⟩
              conv => whnf
              refine ⟨mul400 (sz l rfl) (sz l rfl), ?_⟩
              conv => whnf
              exact h
            | false =>
              rw [hb, Bool.false_and] at h
              conv => whnf
              refine ⟨fun _ => ?_, fun e => tf e⟩
              conv => whnf
              exact h
          | _ =>
            conv => whnf
            repeat (refine ⟨fun _ => ?_, fun e => tf e⟩; conv => whnf)
            exact h
        | _ =>
          conv => whnf
          repeat (refine ⟨fun _ => ?_, fun e => tf e⟩; conv => whnf)
          exact h
      | _ =>
        conv => whnf
        repeat (refine ⟨fun _ => ?_, fun e => tf e⟩; conv => whnf)
        exact h
  · have e1 : isA t .tup = false := by cases t <;> first | rfl | exact absurd rfl et
    have e2 : wyB a = false := by
      cases a with
      | tup ds => cases ht; exact absurd rfl et
      | _ => rfl
    rw [e2] at h
    refine ⟨fun _ => ?_, fun e => ?_⟩
    · conv => whnf
      refine ⟨fun _ => ?_, fun e => tf e⟩
      conv => whnf
      exact h
    · rw [e1] at e; exact tf e
end K05
set_option linter.all false
set_option maxRecDepth 100000
set_option maxHeartbeats 1000000
namespace K05
open PySem PySem.Spec L2 DL
open NUM Rat
def plD (x y : Rat) : D := .tup [numD x, numD y]
def wyD (a b l : Int) : D := .tup [.int a, .int b, .int l]
structure Way (a b l : Int) : Prop where
  l1 : 1 ≤ l
  l2 : l ≤ 1000
  e : a * a + b * b = l * l
theorem sq_le {a l : Int} (h : a * a ≤ l * l) (h0 : 0 ≤ l) : a ≤ l := by
  refine Int.not_lt.mp fun q => ?_
  have h1 : l * l < a * a := Int.lt_of_le_of_lt (Int.mul_le_mul_of_nonneg_left (show l ≤ a by omega) h0) (Int.mul_lt_mul_of_pos_right q (by omega))
  omega
theorem sq_nn (a : Int) : 0 ≤ a * a := by
  rcases Int.le_total 0 a with h | h
  · exact Int.mul_nonneg h h
  · exact Int.mul_nonneg_of_nonpos_of_nonpos h h
theorem abs_le {a l : Int} (h : a * a ≤ l * l) (h0 : 0 ≤ l) : a.natAbs ≤ l := by
  have h1 := sq_le h h0
  have h2 := sq_le (a := -a) (l := l) (by rw [Int.neg_mul_neg]; exact h) h0
  omega
theorem Way.a {a b l : Int} (w : Way a b l) : a.natAbs ≤ l := abs_le (by have := w.e; have := sq_nn b; omega) (by have := w.l1; omega)
theorem Way.b {a b l : Int} (w : Way a b l) : b.natAbs ≤ l := abs_le (by have := w.e; have := sq_nn a; omega) (by have := w.l1; omega)
theorem Way.sa {a b l : Int} (w : Way a b l) : Sz 11 (a : Rat) := Sz.int (by have := w.a; have := w.l2; have : (2 : Nat) ^ 11 = 2048 := (by decide); omega) (by decide)
theorem Way.sb {a b l : Int} (w : Way a b l) : Sz 11 (b : Rat) := Sz.int (by have := w.b; have := w.l2; have : (2 : Nat) ^ 11 = 2048 := (by decide); omega) (by decide)
theorem Way.sl {a b l : Int} (w : Way a b l) : Sz 11 (l : Rat) := Sz.int (by have := w.l1; have := w.l2; have : (2 : Nat) ^ 11 = 2048 := (by decide); omega) (by decide)
theorem Way.l0 {a b l : Int} (w : Way a b l) : (l : Rat) ≠ 0 := by
  have := w.l1
  intro q
  have : l = 0 := by exact_mod_cast q
  omega
theorem Way.wy {a b l : Int} (w : Way a b l) : wyB (wyD a b l) = true := by
  show (decide (1 ≤ l) && (decide (l ≤ 1000) && decide (a * a + b * b = l * l))) = true
  rw [decide_eq_true w.l1, decide_eq_true w.l2, decide_eq_true w.e]
  rfl
def pr_is_place (a : D) (G : GHp) (Q : DK) : Prop := ∃ x y : Rat, a = plD x y ∧ Q (.bl true) G
def sp_is_place : DSp := sp1 fun a G Q _ => pr_is_place a G Q
theorem rd_is_place : ∀ a G Q (E : DXK), pr_is_place a G Q → DRun (t_is_place sp_is_number) [some a] G Q := by
  rintro a G Q E ⟨x, y, rfl, h⟩
  conv => whnf
  refine ⟨fun _ => ?_, fun e => tf e⟩
  conv => whnf
  refine ⟨fun _ => ?_, fun e => tf e⟩
  conv => whnf
  refine ⟨Tgd.num x, ?_⟩
  rw [nuB_num]
  conv => whnf
  refine ⟨fun _ => ?_, fun e => tf e⟩
  conv => whnf
  refine ⟨Tgd.num y, ?_⟩
  rw [nuB_num]
  exact h
def pr_need_way (d : D) (G : GHp) (Q : DK) : Prop := ∃ a b l, d = wyD a b l ∧ Way a b l ∧ Q .non G
def sp_need_way : DSp := sp1 fun a G Q _ => pr_need_way a G Q
theorem small400 {i : Int} {n : Nat} (h : i.natAbs < 2 ^ n) (hn : n ≤ 400) : i.natAbs < 2 ^ 400 := Nat.lt_of_lt_of_le h (Nat.pow_le_pow_right (by decide) hn)
theorem Way.tg {a b l : Int} (w : Way a b l) (G : GHp) : (∃ t, tgOf G (wyD a b l) = some t) ∧ ∀ x y z, wyD a b l = .tup [x, y, z] → tgd1 G x ∧ tgd1 G y ∧ tgd1 G z := by
  have h1 := w.sa.1
  have h2 := w.sb.1
  have h3 := w.sl.1
  rw [num_intCast] at h1 h2 h3
  refine ⟨⟨_, rfl⟩, fun x y z e => ?_⟩
  unfold wyD at e
  injection e with e
  injection e with e1 e
  injection e with e2 e
  injection e with e3 e
  subst e1 e2 e3
  exact ⟨⟨⟨_, rfl⟩, fun i q => by cases q; exact small400 h1 (by decide)⟩, ⟨⟨_, rfl⟩, fun i q => by cases q; exact small400 h2 (by decide)⟩, ⟨⟨_, rfl⟩, fun i q => by cases q; exact small400 h3 (by decide)⟩⟩
theorem rd_need_way : ∀ a G Q (E : DXK), pr_need_way a G Q → DRun (t_need_way sp_is_way) [some a] G Q := by
  rintro d G Q E ⟨a, b, l, rfl, w, h⟩
  have t := w.tg G
  conv => whnf
  refine ⟨t.1, t.2, ?_⟩
  rw [w.wy]
  conv => whnf
  refine ⟨fun e => ft e, fun _ => ?_⟩
  conv => whnf
  exact h
def meQ (x y : Rat) (a b l : Int) : Rat := (x * a + y * b) / l
def pr_measure (p w : D) (G : GHp) (Q : DK) : Prop := ∃ x y a b l, p = plD x y ∧ w = wyD a b l ∧ Way a b l ∧ Sz 1500 x ∧ Sz 1500 y ∧ Q (numD (meQ x y a b l)) G
def sp_measure : DSp := sp2 fun p w G Q _ => pr_measure p w G Q
theorem rd_measure : ∀ p w G Q (E : DXK), pr_measure p w G Q → DRun (t_measure sp_is_place sp_need_way sp_over sp_plus sp_times) [some p, some w, none, none, none] G Q := by
  rintro p w G Q E ⟨x, y, a, b, l, rfl, rfl, wy, hx, hy, h⟩
  conv => whnf
  refine ⟨x, y, rfl, ?_⟩
  conv => whnf
  refine ⟨fun e => ft e, fun _ => ?_⟩
  conv => whnf
  refine ⟨a, b, l, rfl, wy, ?_⟩
  conv => whnf
  refine ⟨x, (a : Rat), rfl, (numD_int a).symm, hx.mono (by decide), wy.sa.mono (by decide), trivial, ?_⟩
  conv => whnf
  refine ⟨y, (b : Rat), rfl, (numD_int b).symm, hy.mono (by decide), wy.sb.mono (by decide), trivial, ?_⟩
  conv => whnf
  refine ⟨x * a, y * b, rfl, rfl, (hx.mul wy.sa).mono (by decide), (hy.mul wy.sb).mono (by decide), trivial, ?_⟩
  conv => whnf
  exact ⟨x * a + y * b, (l : Rat), rfl, (numD_int l).symm, ((hx.mul wy.sa).add (hy.mul wy.sb)).mono (by decide), wy.sl.mono (by decide), wy.l0, h⟩
def pr_slide (p r w : D) (G : GHp) (Q : DK) : Prop := ∃ x y q a b l, p = plD x y ∧ r = numD q ∧ w = wyD a b l ∧ Way a b l ∧ Sz 1500 x ∧ Sz 1500 y ∧ Sz 1500 q ∧ Q (plD (x + q / l * a) (y + q / l * b)) G
def sp_slide : DSp := sp3 fun p r w G Q _ => pr_slide p r w G Q
theorem rd_slide : ∀ p r w G Q (E : DXK), pr_slide p r w G Q → DRun (t_slide sp_is_place sp_is_number sp_need_way sp_over sp_plus sp_times) [some p, some r, some w, none, none, none, none] G Q := by
  rintro p r w G Q E ⟨x, y, q, a, b, l, rfl, rfl, rfl, wy, hx, hy, hq, h⟩
  have he := hq.div wy.sl wy.l0
  conv => whnf
  refine ⟨x, y, rfl, ?_⟩
  conv => whnf
  refine ⟨fun e => ft e, fun _ => ?_⟩
  conv => whnf
  refine ⟨Tgd.num q, ?_⟩
  rw [nuB_num]
  conv => whnf
  refine ⟨fun e => ft e, fun _ => ?_⟩
  conv => whnf
  refine ⟨a, b, l, rfl, wy, ?_⟩
  conv => whnf
  refine ⟨q, (l : Rat), rfl, (numD_int l).symm, hq.mono (by decide), wy.sl.mono (by decide), wy.l0, ?_⟩
  conv => whnf
  refine ⟨q / l, (a : Rat), rfl, (numD_int a).symm, he.mono (by decide), wy.sa.mono (by decide), trivial, ?_⟩
  conv => whnf
  refine ⟨x, q / l * a, rfl, rfl, hx.mono (by decide), (he.mul wy.sa).mono (by decide), trivial, ?_⟩
  conv => whnf
  refine ⟨q / l, (b : Rat), rfl, (numD_int b).symm, he.mono (by decide), wy.sb.mono (by decide), trivial, ?_⟩
  conv => whnf
  refine ⟨y, q / l * b, rfl, rfl, hy.mono (by decide), (he.mul wy.sb).mono (by decide), trivial, ?_⟩
  conv => whnf
  exact ⟨smallL (by simp), h⟩
end K05
set_option linter.all false
set_option maxRecDepth 100000
set_option maxHeartbeats 1000000
namespace K05
open PySem PySem.Spec L2 DL
open NUM Rat
def nowy (K : PySem.W.Frag) (E : DXK) (d : D) (G : GHp) : Prop := E (.ref (He.ga K "NoWay")) (some [("found", d)]) G
def mvQ (q : Rat) (l k g : Int) : Rat := q * ((l * k : Int) : Rat) / (g : Rat)
def gain (a b c d : Int) : Int := a * c + b * d
def pr_moved (K : PySem.W.Frag) (p r m w : D) (G : GHp) (Q : DK) (E : DXK) : Prop := ∃ x y q a b l c d k, p = plD x y ∧ r = numD q ∧ m = wyD a b l ∧ w = wyD c d k ∧ Way a b l ∧ Way c d k ∧ Sz 1400 x ∧ Sz 1400 y ∧ Sz 1400 q ∧
  (gain a b c d = 0 → nowy K E (.tup [m, w]) G) ∧ (gain a b c d ≠ 0 → Q (plD (x + mvQ q l k (gain a b c d) / l * a) (y + mvQ q l k (gain a b c d) / l * b)) G)
def sp_moved (K : PySem.W.Frag) : DSp := sp4 fun p r m w G Q E => pr_moved K p r m w G Q E
theorem num11 {i : Int} (h : Sz 11 (i : Rat)) : i.natAbs < 2048 := by have := h.1; rw [num_intCast] at this; exact this
theorem mul_lt {i j : Int} (h : i.natAbs < 2048) (k : j.natAbs < 2048) : (i * j).natAbs < 2 ^ 22 := by
  rw [Int.natAbs_mul]
  have h1 : i.natAbs * j.natAbs ≤ 2047 * 2047 := Nat.mul_le_mul (by omega) (by omega)
  exact Nat.lt_of_le_of_lt h1 (by decide)
theorem rd_moved {K : PySem.W.Frag} : ∀ p r m w G Q (E : DXK), pr_moved K p r m w G Q E → DRunX (t_moved K sp_is_place sp_is_number sp_need_way sp_slide sp_over sp_times) [some p, some r, some m, some w, none] G Q E := by
  rintro p r m w G Q E ⟨x, y, q, a, b, l, c, d, k, rfl, rfl, rfl, rfl, wa, wb, hx, hy, hq, h1, h2⟩
  have sa := num11 wa.sa
  have sb := num11 wa.sb
  have sl := num11 wa.sl
  have sc := num11 wb.sa
  have sd := num11 wb.sb
  have sk := num11 wb.sl
  have m1 := mul_lt sa sc
  have m2 := mul_lt sb sd
  have m3 := mul_lt sl sk
  have p22 : (2 : Nat) ^ 22 = 4194304 := by decide
  conv => whnf
  refine ⟨x, y, rfl, ?_⟩
  conv => whnf
  refine ⟨fun e => ft e, fun _ => ?_⟩
  conv => whnf
  refine ⟨Tgd.num q, ?_⟩
  rw [nuB_num]
  conv => whnf
  refine ⟨fun e => ft e, fun _ => ?_⟩
  conv => whnf
  refine ⟨a, b, l, rfl, wa, ?_⟩
  conv => whnf
  refine ⟨c, d, k, rfl, wb, ?_⟩
  conv => whnf
  refine ⟨mul_small (.inl (by omega)), ?_⟩
  conv => whnf
  refine ⟨mul_small (.inl (by omega)), ?_⟩
  conv => whnf
  have eg : a * c + b * d = gain a b c d := rfl
  have sg : Sz 24 ((gain a b c d : Int) : Rat) := Sz.int (by rw [← eg]; have : (2 : Nat) ^ 24 = 16777216 := (by decide); omega) (by decide)
  have sm : Sz 22 ((l * k : Int) : Rat) := Sz.int m3 (by decide)
  refine ⟨fun e => ?_, fun e => ?_⟩
  · have e : gain a b c d = 0 := of_decide_eq_true e
    conv => whnf
    exact ⟨smallL (by simp), h1 e⟩
  · have e : gain a b c d ≠ 0 := of_decide_eq_false e
    have e0 : ((gain a b c d : Int) : Rat) ≠ 0 := fun z => e (by exact_mod_cast z)
    conv => whnf
    refine ⟨mul_small (.inl (by omega)), ?_⟩
    conv => whnf
    refine ⟨q, ((l * k : Int) : Rat), rfl, (numD_int _).symm, hq.mono (by decide), sm.mono (by decide), trivial, ?_⟩
    conv => whnf
    refine ⟨q * ((l * k : Int) : Rat), ((gain a b c d : Int) : Rat), rfl, (numD_int _).symm, (hq.mul sm).mono (by decide), sg.mono (by decide), e0, ?_⟩
    conv => whnf
    refine ⟨rfl, rfl, ?_⟩
    exact ⟨x, y, mvQ q l k (gain a b c d), a, b, l, rfl, rfl, rfl, wa, hx.mono (by decide), hy.mono (by decide), ((hq.mul sm).div sg e0).mono (by decide), h2 e⟩
end K05
set_option linter.all false
set_option maxRecDepth 100000
set_option maxHeartbeats 1000000
namespace K05
open PySem PySem.Spec L2 DL
open NUM Rat
def LgP (i j : Int) : Option Int → Prop
  | some l => Way i j l
  | none => ∀ l, ¬ Way i j l
theorem sq_inj {l k : Int} (hl : 1 ≤ l) (hk : 1 ≤ k) (h : l * l = k * k) : l = k := by
  have h1 := sq_le (a := l) (l := k) (by omega) (by omega)
  have h2 := sq_le (a := k) (l := l) (by omega) (by omega)
  omega
theorem Way.uniq {a b l k : Int} (w : Way a b l) (v : Way a b k) : l = k := sq_inj w.l1 v.l1 (by rw [← w.e, ← v.e])
theorem wy_false {a b l : Int} (h : ¬ Way a b l) : wyB (wyD a b l) = false := by
  show (decide (1 ≤ l) && (decide (l ≤ 1000) && decide (a * a + b * b = l * l))) = false
  refine Bool.eq_false_iff.mpr fun q => ?_
  simp only [Bool.and_eq_true, decide_eq_true_eq] at q
  exact h ⟨q.1, q.2.1, q.2.2⟩
theorem tg_ints (a b l : Int) (G : GHp) (h1 : a.natAbs < 2 ^ 200) (h2 : b.natAbs < 2 ^ 200) (h3 : l.natAbs < 2 ^ 200) : (∃ t, tgOf G (wyD a b l) = some t) ∧ ∀ x y z, wyD a b l = .tup [x, y, z] → tgd1 G x ∧ tgd1 G y ∧ tgd1 G z := by
  refine ⟨⟨_, rfl⟩, fun x y z e => ?_⟩
  unfold wyD at e
  injection e with e
  injection e with e1 e
  injection e with e2 e
  injection e with e3 e
  subst e1 e2 e3
  exact ⟨⟨⟨_, rfl⟩, fun i q => by cases q; exact small400 h1 (by decide)⟩, ⟨⟨_, rfl⟩, fun i q => by cases q; exact small400 h2 (by decide)⟩, ⟨⟨_, rfl⟩, fun i q => by cases q; exact small400 h3 (by decide)⟩⟩
def pr_way_of (K : PySem.W.Frag) (a b : D) (G : GHp) (Q : DK) (E : DXK) : Prop := ∃ (i j : Int) (o : Option Int), a = .int i ∧ b = .int j ∧ i.natAbs < 2 ^ 200 ∧ j.natAbs < 2 ^ 200 ∧ LgP i j o ∧ (∀ l, o = some l → Q (wyD i j l) G) ∧ (o = none → nowy K E (.tup [.int i, .int j]) G)
def sp_way_of (K : PySem.W.Frag) : DSp := sp2 fun a b G Q E => pr_way_of K a b G Q E
theorem rd_way_of {K : PySem.W.Frag} : ∀ a b G Q (E : DXK), pr_way_of K a b G Q E → DRunX (t_way_of K sp_is_plain sp_is_way) [some a, some b, none] G Q E := by
  rintro a b G Q E ⟨i, j, o, rfl, rfl, si, sj, ho, hq, he⟩
  have p200 : (2000 : Nat) < 2 ^ 200 := by decide
  conv => whnf
  refine ⟨.int, rfl, ?_⟩
  conv => whnf
  refine ⟨fun _ => ?_, fun e => tf e⟩
  conv => whnf
  refine ⟨.int, rfl, ?_⟩
  conv => whnf
  refine ⟨fun _ => ?_, fun e => tf e⟩
  conv => whnf
  refine ⟨fun e1 => ?_, fun e1 => ?_⟩
  · have e1 : (i.natAbs : Int) ≤ 1000 := of_decide_eq_true e1
    conv => whnf
    refine ⟨fun e2 => ?_, fun e2 => ?_⟩
    · have e2 : (j.natAbs : Int) ≤ 1000 := of_decide_eq_true e2
      conv => whnf
      obtain ⟨lo, hlo⟩ : ∃ lo : Int, lo = max (max (i.natAbs : Int) (j.natAbs : Int)) 1 := ⟨_, rfl⟩
      rw [← hlo]
      refine ⟨by unfold RgB; omega, ?_⟩
      refine for_rng (enc := fun (t : Nat) => D.int (lo + t)) (fun t δ G' => G' = G ∧ (∀ l, l < lo + t → ¬ Way i j l) ∧ ∃ o2, δ = [some (.int i), some (.int j), o2]) (1000 + 1 - lo).toNat ?_ ?_ _ _
        ⟨rfl, fun l hl w => by have := w.a; have := w.b; have := w.l1; omega, _, rfl⟩
      · rintro δ G' ⟨rfl, hno, o2, rfl⟩
        refine ⟨trivial, ?_⟩
        have hn : o = none := by
          cases o with
          | none => rfl
          | some l =>
            have w : Way i j l := ho
            exact absurd w (hno l (by have := w.l2; omega))
        conv => whnf
        exact ⟨smallL (by simp), he hn⟩
      · rintro t ht δ G' ⟨rfl, hno, o2, rfl⟩
        refine ⟨trivial, _, rfl, fun N hN => ?_⟩
        obtain ⟨l, hl⟩ : ∃ l, l = lo + (t : Int) := ⟨_, rfl⟩
        rw [← hl]
        have tg := tg_ints i j l G' si sj (by omega)
        conv => whnf
        refine ⟨smallL (by simp), ?_⟩
        conv => whnf
        refine ⟨tg.1, tg.2, ?_⟩
        by_cases w : Way i j l
        · have hs : o = some l := by
            cases o with
            | none => exact absurd w (ho l)
            | some k => rw [Way.uniq (show Way i j k from ho) w]
          rw [show D.tup [.int i, .int j, .int l] = wyD i j l from rfl, w.wy]
          conv => whnf
          refine ⟨fun _ => ?_, fun e => tf e⟩
          conv => whnf
          exact ⟨smallL (by simp), hq l hs⟩
        · rw [show D.tup [.int i, .int j, .int l] = wyD i j l from rfl, wy_false w]
          conv => whnf
          refine ⟨fun e => ft e, fun _ => ?_⟩
          conv => whnf
          refine hN _ _ ⟨rfl, fun k hk => ?_, _, rfl⟩
          by_cases q : k = l
          · rw [q]; exact w
          · exact hno k (by omega)
    · have e2 : ¬ (j.natAbs : Int) ≤ 1000 := of_decide_eq_false e2
      have hn : o = none := by
        cases o with
        | none => rfl
        | some l =>
          have w : Way i j l := ho
          have := w.b
          have := w.l2
          omega
      conv => whnf
      exact ⟨smallL (by simp), he hn⟩
  · have e1 : ¬ (i.natAbs : Int) ≤ 1000 := of_decide_eq_false e1
    have hn : o = none := by
      cases o with
      | none => rfl
      | some l =>
        have w : Way i j l := ho
        have := w.a
        have := w.l2
        omega
    conv => whnf
    refine ⟨fun e => ft e, fun _ => ?_⟩
    conv => whnf
    exact ⟨smallL (by simp), he hn⟩
end K05
set_option linter.all false
set_option maxRecDepth 100000
set_option maxHeartbeats 1000000
namespace K05
open PySem PySem.Spec L2 DL
open NUM Rat
def oD : Option Int → D
  | some l => .int l
  | none => .non
def pr_law_long (a b : D) (G : GHp) (Q : DK) : Prop := ∃ i j : Int, a = .int i ∧ b = .int j ∧ i.natAbs < 2 ^ 200 ∧ j.natAbs < 2 ^ 200 ∧ ∀ o, LgP i j o → Q (oD o) G
def sp_law_long : DSp := sp2 fun a b G Q _ => pr_law_long a b G Q
theorem eqb_ints {G : GHp} (ns : List Int) : EqB G (.lst (ns.map .int)) (.lst []) ns.isEmpty := by
  have d : DDs G (ns.map D.int) (ns.map PyData.int) := by
    induction ns with
    | nil => exact .nil
    | cons c r ih => exact .cons (.int _) ih
  have s : Shps 1 (ns.map PyData.int) := .ints ns
  refine ⟨_, _, .lst d, .lst .nil, s.list.ok (by decide), (Shps.nil (n := 0)).list.ok (by decide), ?_⟩
  cases ns with
  | nil => simp [PyData.eqv, PyData.eqvAll]
  | cons c r => simp [PyData.eqv, PyData.eqvAll]
theorem rd_law_long : ∀ a b G Q (E : DXK), pr_law_long a b G Q → DRun (t_law_long ) [some a, some b, none, none, none] G Q := by
  rintro a b G Q E ⟨i, j, rfl, rfl, si, sj, h⟩
  conv => whnf
  refine ⟨mul400 (small400 si (by decide)) (small400 si (by decide)), ?_⟩
  conv => whnf
  refine ⟨mul400 (small400 sj (by decide)) (small400 sj (by decide)), ?_⟩
  conv => whnf
  refine ⟨by unfold RgB; omega, ?_⟩
  refine lc_map (m := false) (gd := none) (enc := fun (t : Nat) => D.int (1 + t)) (keep := fun t => decide ((1 + (t : Int)) * (1 + (t : Int)) = i * i + j * j)) (f := fun (t : Nat) => D.int (1 + (t : Int))) (xs := List.range 1000) (smallL (by rw [List.length_range]; omega)) trivial (fun t ht R hR => ?_) (fun t _ _ R hR => hR) ?_
  · have ht := List.mem_range.mp ht
    conv => whnf
    refine ⟨mul_small (.inl (by omega)), ?_⟩
    conv => whnf
    exact hR
  obtain ⟨ts, hts⟩ : ∃ ts, ts = (List.range 1000).filter fun (t : Nat) => decide ((1 + (t : Int)) * (1 + (t : Int)) = i * i + j * j) := ⟨_, rfl⟩
  rw [← hts]
  have em : ts.map (fun (t : Nat) => D.int (1 + (t : Int))) = (ts.map fun (t : Nat) => 1 + (t : Int)).map D.int := by rw [List.map_map]; rfl
  rw [em]
  have mem : ∀ t, t ∈ ts ↔ t < 1000 ∧ (1 + (t : Int)) * (1 + (t : Int)) = i * i + j * j := fun t => by
    rw [hts, List.mem_filter, List.mem_range, decide_eq_true_eq]
  clear hts em
  conv => whnf
  refine ⟨smallL (by simp), ?_⟩
  refine ⟨_, eqb_ints _, ?_⟩
  cases ts with
  | nil =>
    have hno : LgP i j none := fun l w => by
      have h1 := w.l1
      have h2 := w.l2
      have hm := (mem (l - 1).toNat).mpr ⟨by omega, by
        have e : 1 + (((l - 1).toNat : Nat) : Int) = l := by omega
        rw [e]; exact w.e.symm⟩
      cases hm
    conv => whnf
    refine ⟨fun e => ft e, fun _ => ?_⟩
    conv => whnf
    exact h none hno
  | cons t r =>
    obtain ⟨t1, t2⟩ := (mem t).mp List.mem_cons_self
    have hw : LgP i j (some (1 + (t : Int))) := (⟨by omega, by omega, t2.symm⟩ : Way i j (1 + (t : Int)))
    conv => whnf
    refine ⟨fun _ => ?_, fun e => tf e⟩
    conv => whnf
    change atD (((t :: r).map fun (t : Nat) => 1 + (t : Int)).map D.int) 0 fun d => Q d G
    exact atD_get (d := .int (1 + (t : Int))) (by decide) (by simp) rfl (h _ hw)
def pr_refused (a b c d : D) (G : GHp) (Q : DK) : Prop := ∃ x y q a1 b1 l c1 d1 k, a = plD x y ∧ b = numD q ∧ c = wyD a1 b1 l ∧ d = wyD c1 d1 k ∧ Way a1 b1 l ∧ Way c1 d1 k ∧ Sz 1400 x ∧ Sz 1400 y ∧ Sz 1400 q ∧ gain a1 b1 c1 d1 = 0 ∧ Q (.bl true) G
def sp_law_refused : DSp := sp4 fun a b c d G Q _ => pr_refused a b c d G Q
theorem eqb_self {G : GHp} {x : D} {p : PyData} (d : DD G x p) (s : SeqAt.shaped p = true) (h : PyData.eqv p p = true) : EqB G x x true := ⟨p, p, d, d, s, s, h⟩
theorem eqb_ways {G : GHp} (a b l c d k : Int) : EqB G (.tup [wyD a b l, wyD c d k]) (.tup [wyD a b l, wyD c d k]) true := by
  have d1 : ∀ a b l, DD G (wyD a b l) (.tuple [.int a, .int b, .int l]) := fun a b l => .tup (.cons (.int _) (.cons (.int _) (.cons (.int _) .nil)))
  have s1 : ∀ a b l : Int, Shp 2 (.tuple [.int a, .int b, .int l]) := fun a b l => (Shps.cons (.int _) (.cons (.int _) (.cons (.int _) .nil)) : Shps 1 _).tuple
  refine eqb_self (p := .tuple [.tuple [.int a, .int b, .int l], .tuple [.int c, .int d, .int k]]) (.tup (.cons (d1 _ _ _) (.cons (d1 _ _ _) .nil))) ((Shps.cons (s1 a b l) (.cons (s1 c d k) .nil)).tuple.ok (by decide)) ?_
  simp [PyData.eqv, PyData.eqvAll]
theorem rd_law_refused {K : PySem.W.Frag} (hx : PySem.W.exmOne K (exC K "NoWay") (exC K "NoWay") = some true) : ∀ a b c d G Q (E : DXK), pr_refused a b c d G Q → DRun (t_law_refused K (sp_moved K)) [some a, some b, some c, some d, none] G Q := by
  rintro a b c d G Q E ⟨x, y, q, a1, b1, l, c1, d1, k, rfl, rfl, rfl, rfl, wa, wb, sx, sy, sq, hg, h⟩
  conv => whnf
  refine ⟨rfl, rfl, x, y, q, a1, b1, l, c1, d1, k, rfl, rfl, rfl, rfl, wa, wb, sx, sy, sq, fun _ => ?_, fun e => absurd hg e⟩
  show exEq K (exC K "NoWay") (He.ga K "NoWay") "found" 4 dEqB _ _ _ _ _ _
  refine ⟨true, hx, fun _ => ⟨rfl, by show 4 < 5; decide, _, _, rfl, rfl, ?_⟩, fun e => nomatch e⟩
  conv => whnf
  refine ⟨smallL (by simp), ?_⟩
  exact ⟨_, eqb_ways a1 b1 l c1 d1 k, h⟩
end K05
set_option linter.all false
set_option maxRecDepth 100000
set_option maxHeartbeats 1000000
namespace K05
open PySem PySem.Spec L2 DL
open NUM Rat
theorem lg2 {i : Int} (h : i.natAbs < 2 ^ 200) : i.natAbs.log2 < 200 := by
  by_cases q : i.natAbs = 0
  · rw [q]; decide
  · exact (Nat.log2_lt q).mpr h
theorem shown_int {i : Int} (h : i.natAbs.log2 < 200) : (PyData.shown (.int i)).length ≤ 201 := by
  have e : PyData.shown (.int i) = Str.ofString (toString i) := by simp [PyData.shown]
  rw [e, PySem.Str.ofString_eq_toList]
  show ((toString i).toList.map Char.toNat).toArray.size ≤ 201
  rw [List.size_toArray, List.length_map]
  exact int_text_length_le (by decide) h
structure Pk (p : PyData) : Prop where
  s : p.showable = true
  d : p.hasDict = false
  l : p.leavesShort 201 = true
  w : p.weight ≤ 405
theorem w_int {i : Int} (h : i.natAbs.log2 < 200) : (PyData.int i).weight ≤ 201 := by
  simp only [PyData.weight]
  split <;> omega
theorem Pk.int {i : Int} (h : i.natAbs.log2 < 200) : Pk (.int i) := ⟨by simpa only [PyData.showable] using decide_eq_true (Nat.lt_trans h (by decide)), by simp only [PyData.hasDict], by simpa only [PyData.leavesShort] using decide_eq_true (shown_int h), Nat.le_trans (w_int h) (by decide)⟩
theorem ro_way {a b l : Int} (h1 : a.natAbs < 2 ^ 200) (h2 : b.natAbs < 2 ^ 200) (h3 : l.natAbs < 2 ^ 200) : reprOk (.tuple [.int a, .int b, .int l]) := by
  have p1 := Pk.int (lg2 h1)
  have p2 := Pk.int (lg2 h2)
  have p3 := Pk.int (lg2 h3)
  have s : Shps 1 [PyData.int a, .int b, .int l] := .cons (.int _) (.cons (.int _) (.cons (.int _) .nil))
  have hl : PyData.leavesShort 201 (.tuple [.int a, .int b, .int l]) = true := by
    have q1 := p1.l
    have q2 := p2.l
    have q3 := p3.l
    simp only [PyData.leavesShort, PyData.leavesShortAll] at q1 q2 q3 ⊢
    rw [q1, q2, q3]; rfl
  refine ⟨?_, by simp [PyData.hasDict, PyData.hasDictAll], Nat.le_trans s.tuple.2 (by decide), ?_⟩
  · have q1 := p1.s
    have q2 := p2.s
    have q3 := p3.s
    simp only [PyData.showable, PyData.showableAll] at q1 q2 q3 ⊢
    rw [q1, q2, q3]; rfl
  · have w1 := p1.w
    have w2 := p2.w
    have w3 := p3.w
    have h1 := PyData.shown_le 201 (by decide) (.tuple [.int a, .int b, .int l]) hl
    generalize PyData.int a = x at *
    generalize PyData.int b = y at *
    generalize PyData.int l = z at *
    have h2 : PyData.weight (.tuple [x, y, z]) ≤ 4100 := by simp only [PyData.weight, PyData.weightAll]; omega
    exact Nat.le_trans h1 (Nat.le_trans (Nat.add_le_add_right (Nat.mul_le_mul_left (201 + 2) h2) 201) (by decide))
def pr_way_right (a b : D) (G : GHp) (Q : DK) : Prop := ∃ i j : Int, a = .int i ∧ b = .int j ∧ i.natAbs < 2 ^ 150 ∧ j.natAbs < 2 ^ 150 ∧ Q (.bl true) G
def sp_law_way_right : DSp := sp2 fun a b G Q _ => pr_way_right a b G Q
theorem eqb_two {G : GHp} (i j : Int) : EqB G (.tup [.int i, .int j]) (.tup [.int i, .int j]) true := by
  refine eqb_self (p := .tuple [.int i, .int j]) (.tup (.cons (.int _) (.cons (.int _) .nil))) ((Shps.cons (.int _) (.cons (.int _) .nil) : Shps 1 _).tuple.ok (by decide)) ?_
  simp [PyData.eqv, PyData.eqvAll]
theorem eqb_way {G : GHp} (a b l : Int) : EqB G (wyD a b l) (wyD a b l) true := by
  refine eqb_self (p := .tuple [.int a, .int b, .int l]) (.tup (.cons (.int _) (.cons (.int _) (.cons (.int _) .nil)))) ((Shps.cons (.int _) (.cons (.int _) (.cons (.int _) .nil)) : Shps 1 _).tuple.ok (by decide)) ?_
  simp [PyData.eqv, PyData.eqvAll]
theorem rd_law_way_right {K : PySem.W.Frag} (hx : PySem.W.exmOne K (exC K "NoWay") (exC K "NoWay") = some true) : ∀ a b G Q (E : DXK), pr_way_right a b G Q → DRun (t_law_way_right K sp_law_long (sp_way_of K) sp_is_way) [some a, some b, none, none, none, none] G Q := by
  rintro a b G Q E ⟨i, j, rfl, rfl, si', sj', h⟩
  have p200 : (2 : Nat) ^ 150 < 2 ^ 200 := by decide
  have si : i.natAbs < 2 ^ 200 := Nat.lt_trans si' p200
  have sj : j.natAbs < 2 ^ 200 := Nat.lt_trans sj' p200
  conv => whnf
  refine ⟨i, j, rfl, rfl, si, sj, fun o ho => ?_⟩
  conv => whnf
  cases o with
  | some l =>
    have w : Way i j l := ho
    have sl : l.natAbs < 2 ^ 200 := by have := num11 w.sl; have : (2048 : Nat) < 2 ^ 200 := (by decide); omega
    refine ⟨i, j, some l, rfl, rfl, si, sj, ho, fun l' e => ?_, fun e => nomatch e⟩
    cases e
    have dd : ∀ G : GHp, DD G (wyD i j l) (.tuple [.int i, .int j, .int l]) := fun G => .tup (.cons (.int _) (.cons (.int _) (.cons (.int _) .nil)))
    have ro := ro_way si sj sl
    have tg := w.tg G
    conv => whnf
    refine ⟨fun e => ft e, fun _ => ?_⟩
    conv => whnf
    refine ⟨_, dd G, ro, ?_⟩
    conv => whnf
    refine ⟨smallL (by simp), ?_⟩
    conv => whnf
    refine ⟨_, dd G, ro, ?_⟩
    conv => whnf
    refine ⟨fun _ => ?_, fun e => ?_⟩
    · conv => whnf
      refine ⟨fun _ => ?_, fun e => tf e⟩
      conv => whnf
      refine ⟨tg.1, tg.2, ?_⟩
      rw [w.wy]
      conv => whnf
      refine ⟨fun _ => ?_, fun e => tf e⟩
      conv => whnf
      refine ⟨i, j, some l, rfl, rfl, si, sj, ho, fun l' e => ?_, fun e => nomatch e⟩
      cases e
      exact ⟨_, eqb_way i j l, h⟩
    · have e : decide ((PyData.tuple [.int i, .int j, .int l]).shown = (PyData.tuple [.int i, .int j, .int l]).shown) = false := e
      rw [decide_eq_true rfl] at e
      exact tf e
  | none =>
    have hno : ∀ l, ¬ Way i j l := ho
    have tg := tg_ints i j (max (i.natAbs : Int) (j.natAbs : Int)) G si sj (by omega)
    refine ⟨i, j, none, rfl, rfl, si, sj, ho, fun l' e => (nomatch e), fun _ => ?_⟩
    show exPar K (exC K "NoWay") (He.ga K "NoWay") "found" 5 3 4 _ _ _ _ _
    refine ⟨true, hx, fun _ => ⟨rfl, by show 5 < 6; decide, _, _, rfl, rfl, ?_⟩, fun e => nomatch e⟩
    conv => whnf
    refine ⟨fun _ => ?_, fun e => tf e⟩
    conv => whnf
    refine ⟨fun _ => ?_, fun e => tf e⟩
    conv => whnf
    refine ⟨smallL (by simp), ?_⟩
    conv => whnf
    refine ⟨_, eqb_two i j, ?_⟩
    conv => whnf
    refine ⟨fun _ => ?_, fun e => tf e⟩
    conv => whnf
    refine ⟨smallL (by simp), ?_⟩
    conv => whnf
    refine ⟨tg.1, tg.2, ?_⟩
    rw [show D.tup [.int i, .int j, .int (max (i.natAbs : Int) (j.natAbs : Int))] = wyD i j (max (i.natAbs : Int) (j.natAbs : Int)) from rfl, wy_false (hno _)]
    exact h
end K05
set_option linter.all false
set_option maxRecDepth 100000
set_option maxHeartbeats 1000000
namespace K05
open PySem PySem.Spec L2 DL
open NUM Rat
theorem one_over {l : Int} (h : 1 < l) : numD (1 / (l : Rat)) = .tup [.int 1, .int l] := by
  have e : (1 : Rat) / (l : Rat) = 1 /. l := by rw [Rat.divInt_eq_div]; rfl
  obtain ⟨f1, f2⟩ := frac_pos (t := 1) (d := l) (by omega)
  have hg : (1 : Int).gcd l = 1 := Int.one_gcd
  rw [hg] at f1 f2
  have n1 : (1 /. l).num = 1 := by rw [f1]; rfl
  have n2 : ((1 /. l).den : Int) = l := by rw [f2]; simp
  unfold numD
  rw [e, if_neg (by omega), n1, n2]
theorem one_one : numD (1 / ((1 : Int) : Rat)) = .int 1 := by
  have e : (1 : Rat) / ((1 : Int) : Rat) = ((1 : Int) : Rat) := by decide +kernel
  rw [e, numD_int]
theorem Way.si {a b l : Int} (w : Way a b l) : Sz 12 (1 / (l : Rat)) := by
  have h1 : Sz 1 (1 : Rat) := Sz.int (i := 1) (by decide) (by decide)
  exact h1.div w.sl w.l0
def pr_law_measure (p w : D) (G : GHp) (Q : DK) : Prop := ∃ x y a b l, p = plD x y ∧ w = wyD a b l ∧ Way a b l ∧ Sz 1500 x ∧ Sz 1500 y ∧ Q (numD (meQ x y a b l)) G
def sp_law_measure : DSp := sp2 fun p w G Q _ => pr_law_measure p w G Q
def sp_law_measure_two : DSp := sp2 fun p w G Q _ => pr_law_measure p w G Q
theorem me_eq (x y : Rat) {a b l : Int} : (x * a + y * b) * (1 / (l : Rat)) = meQ x y a b l := by
  unfold meQ
  rw [Rat.div_def, Rat.div_def, Rat.one_mul]
theorem rd_law_measure : ∀ p w G Q (E : DXK), pr_law_measure p w G Q → DRun (t_law_measure sp_law_sum sp_law_product) [some p, some w, none, none, none] G Q := by
  rintro p w G Q E ⟨x, y, a, b, l, rfl, rfl, wy, hx, hy, h⟩
  have sxy := (hx.mul wy.sa).add (hy.mul wy.sb)
  rw [← me_eq] at h
  conv => whnf
  refine ⟨x, (a : Rat), rfl, (numD_int a).symm, hx.mono (by decide), wy.sa.mono (by decide), ?_⟩
  conv => whnf
  refine ⟨y, (b : Rat), rfl, (numD_int b).symm, hy.mono (by decide), wy.sb.mono (by decide), ?_⟩
  conv => whnf
  refine ⟨x * a, y * b, rfl, rfl, (hx.mul wy.sa).mono (by decide), (hy.mul wy.sb).mono (by decide), ?_⟩
  conv => whnf
  refine ⟨fun e => ?_, fun e => ?_⟩
  · have e : 1 < l := of_decide_eq_true e
    conv => whnf
    refine ⟨smallL (by simp), ?_⟩
    conv => whnf
    exact ⟨x * a + y * b, 1 / (l : Rat), rfl, (one_over e).symm, sxy.mono (by decide), wy.si.mono (by decide), h⟩
  · have e : ¬ 1 < l := of_decide_eq_false e
    have : l = 1 := by have := wy.l1; omega
    subst this
    exact ⟨x * a + y * b, 1 / ((1 : Int) : Rat), rfl, one_one.symm, sxy.mono (by decide), wy.si.mono (by decide), h⟩
theorem rd_law_measure_two : ∀ p w G Q (E : DXK), pr_law_measure p w G Q → DRun (t_law_measure_two sp_law_sum sp_law_product) [some p, some w, none] G Q := by
  rintro p w G Q E ⟨x, y, a, b, l, rfl, rfl, wy, hx, hy, h⟩
  have sxy := (hx.mul wy.sa).add (hy.mul wy.sb)
  rw [← me_eq] at h
  conv => whnf
  refine ⟨x, (a : Rat), rfl, (numD_int a).symm, hx.mono (by decide), wy.sa.mono (by decide), ?_⟩
  conv => whnf
  refine ⟨y, (b : Rat), rfl, (numD_int b).symm, hy.mono (by decide), wy.sb.mono (by decide), ?_⟩
  conv => whnf
  refine ⟨x * a, y * b, rfl, rfl, (hx.mul wy.sa).mono (by decide), (hy.mul wy.sb).mono (by decide), ?_⟩
  conv => whnf
  refine ⟨fun e => ?_, fun e => ?_⟩
  · have e : 1 < l := of_decide_eq_true e
    conv => whnf
    refine ⟨smallL (by simp), ?_⟩
    conv => whnf
    exact ⟨x * a + y * b, 1 / (l : Rat), rfl, (one_over e).symm, sxy.mono (by decide), wy.si.mono (by decide), h⟩
  · have e : ¬ 1 < l := of_decide_eq_false e
    have : l = 1 := by have := wy.l1; omega
    subst this
    exact ⟨x * a + y * b, 1 / ((1 : Int) : Rat), rfl, one_one.symm, sxy.mono (by decide), wy.si.mono (by decide), h⟩
def sp_law_slid : DSp := sp3 fun p r w G Q _ => pr_slide p r w G Q
theorem sl_eq (q : Rat) (l : Int) : q * (1 / (l : Rat)) = q / l := by rw [Rat.div_def, Rat.div_def, Rat.one_mul]
theorem slid_tail {q z : Rat} {x y : Rat} {a b l : Int} {r : D} {G : GHp} {Q : DK} (hz : z = q / l) (wy : Way a b l) (hx : Sz 1500 x) (hy : Sz 1500 y) (he : Sz 1511 (q / l)) (h : Q (plD (x + q / l * a) (y + q / l * b)) G) :
    (dRet (dTup (dCons (dCall sp_law_sum [] (dCons (dOp dIxR (dVar 0) (dC (.int 0))) (dCons (dCall sp_law_product [] (dCons (dVar 3) (dCons (dOp dIxR (dVar 2) (dC (.int 0))) dNil))) dNil))) (dCons (dCall sp_law_sum [] (dCons (dOp dIxR (dVar 0) (dC (.int 1))) (dCons (dCall sp_law_product [] (dCons (dVar 3) (dCons (dOp dIxR (dVar 2) (dC (.int 1))) dNil))) dNil))) dNil))))
      { nx := fun _ G' => Q .non G', rt := Q } [some (plD x y), some r, some (wyD a b l), some (numD z)] G := by
  subst hz
  conv => whnf
  refine ⟨q / l, (a : Rat), rfl, (numD_int a).symm, he.mono (by decide), wy.sa.mono (by decide), ?_⟩
  conv => whnf
  refine ⟨x, q / l * a, rfl, rfl, hx.mono (by decide), (he.mul wy.sa).mono (by decide), ?_⟩
  conv => whnf
  refine ⟨q / l, (b : Rat), rfl, (numD_int b).symm, he.mono (by decide), wy.sb.mono (by decide), ?_⟩
  conv => whnf
  refine ⟨y, q / l * b, rfl, rfl, hy.mono (by decide), (he.mul wy.sb).mono (by decide), ?_⟩
  conv => whnf
  exact ⟨smallL (by simp), h⟩
theorem rd_law_slid : ∀ p r w G Q (E : DXK), pr_slide p r w G Q → DRun (t_law_slid sp_law_product sp_law_sum) [some p, some r, some w, none] G Q := by
  rintro p r w G Q E ⟨x, y, q, a, b, l, rfl, rfl, rfl, wy, hx, hy, hq, h⟩
  have he := hq.div wy.sl wy.l0
  conv => whnf
  refine ⟨fun e => ?_, fun e => ?_⟩
  · have e : 1 < l := of_decide_eq_true e
    conv => whnf
    refine ⟨smallL (by simp), ?_⟩
    conv => whnf
    refine ⟨q, 1 / (l : Rat), rfl, (one_over e).symm, hq.mono (by decide), wy.si.mono (by decide), ?_⟩
    exact slid_tail (sl_eq _ _) wy hx hy he h
  · have e : ¬ 1 < l := of_decide_eq_false e
    have : l = 1 := by have := wy.l1; omega
    subst this
    conv => whnf
    refine ⟨q, 1 / ((1 : Int) : Rat), rfl, one_one.symm, hq.mono (by decide), wy.si.mono (by decide), ?_⟩
    exact slid_tail (sl_eq _ _) wy hx hy he h
def pr_place_is (a b : D) (G : GHp) (Q : DK) : Prop := ∃ x y, a = plD x y ∧ b = plD x y ∧ Q (.bl true) G
def sp_law_place_is : DSp := sp2 fun a b G Q _ => pr_place_is a b G Q
theorem rd_law_place_is : ∀ a b G Q (E : DXK), pr_place_is a b G Q → DRun (t_law_place_is sp_law_is) [some a, some b] G Q := by
  rintro a b G Q E ⟨x, y, rfl, rfl, h⟩
  conv => whnf
  refine ⟨fun _ => ?_, fun e => tf e⟩
  conv => whnf
  refine ⟨fun _ => ?_, fun e => tf e⟩
  conv => whnf
  refine ⟨is_num x ?_⟩
  conv => whnf
  refine ⟨fun _ => ?_, fun e => tf e⟩
  conv => whnf
  exact ⟨is_num y h⟩
end K05
set_option linter.all false
set_option maxRecDepth 100000
set_option maxHeartbeats 1000000
namespace K05
open PySem PySem.Spec L2 DL
open NUM Rat
theorem Way.er {a b l : Int} (w : Way a b l) : (a : Rat) * a + (b : Rat) * b = (l : Rat) * l := by
  have := w.e
  exact_mod_cast this
theorem me_slid (x y q : Rat) {a b l : Int} (w : Way a b l) : meQ (x + q / l * a) (y + q / l * b) a b l = meQ x y a b l + q := by
  have e := w.er
  have l0 := w.l0
  unfold meQ
  generalize (a : Rat) = A at *
  generalize (b : Rat) = B at *
  generalize (l : Rat) = L at *
  have h1 : (x + q / L * A) * A + (y + q / L * B) * B = (x * A + y * B) + q / L * (A * A + B * B) := by grind
  rw [h1, e]
  grind
theorem way_east : Way 1 0 1 := ⟨by decide, by decide, by decide⟩
theorem way_north : Way 0 1 1 := ⟨by decide, by decide, by decide⟩
theorem east_slid (x y q : Rat) : plD (x + q / ((1 : Int) : Rat) * ((1 : Int) : Rat)) (y + q / ((1 : Int) : Rat) * ((0 : Int) : Rat)) = plD (x + q) y := by
  have e1 : x + q / ((1 : Int) : Rat) * ((1 : Int) : Rat) = x + q := by
    rw [show (((1 : Int) : Rat)) = 1 from rfl]; grind
  have e2 : y + q / ((1 : Int) : Rat) * ((0 : Int) : Rat) = y := by
    rw [show (((0 : Int) : Rat)) = 0 from rfl]; grind
  rw [e1, e2]
def pr_right (p r s t : D) (G : GHp) (Q : DK) : Prop := ∃ x y q a b l c d k, p = plD x y ∧ r = numD q ∧ s = wyD a b l ∧ t = wyD c d k ∧ Way a b l ∧ Way c d k ∧ Sz 200 x ∧ Sz 200 y ∧ Sz 200 q ∧ Q (.bl true) G
def sp_law_right : DSp := sp4 fun p r s t G Q _ => pr_right p r s t G Q
theorem rd_law_right : ∀ p r s t G Q (E : DXK), pr_right p r s t G Q → DRun (t_law_right sp_law_slid sp_slide sp_law_place_is sp_law_sum sp_law_is sp_law_measure sp_measure) [some p, some r, some s, some t, none, none, none, none] G Q := by
  rintro p r s t G Q E ⟨x, y, q, a, b, l, c, d, k, rfl, rfl, rfl, rfl, wa, wb, hx, hy, hq, h⟩
  have he := hq.div wa.sl wa.l0
  have sx := hx.add (he.mul wa.sa)
  have sy := hy.add (he.mul wa.sb)
  conv => whnf
  refine ⟨x, y, q, a, b, l, rfl, rfl, rfl, wa, hx.mono (by decide), hy.mono (by decide), hq.mono (by decide), ?_⟩
  conv => whnf
  refine ⟨rfl, rfl, x, y, q, a, b, l, rfl, rfl, rfl, wa, hx.mono (by decide), hy.mono (by decide), hq.mono (by decide), ?_⟩
  conv => whnf
  refine ⟨rfl, rfl, x, y, q, a, b, l, rfl, rfl, rfl, wa, hx.mono (by decide), hy.mono (by decide), hq.mono (by decide), ?_⟩
  conv => whnf
  refine ⟨smallL (by simp), ?_⟩
  conv => whnf
  refine ⟨_, _, rfl, rfl, ?_⟩
  conv => whnf
  refine ⟨fun e => ft e, fun _ => ?_⟩
  conv => whnf
  refine ⟨_, _, rfl, rfl, ?_⟩
  conv => whnf
  refine ⟨fun e => ft e, fun _ => ?_⟩
  conv => whnf
  refine ⟨rfl, rfl, x, y, q, 1, 0, 1, rfl, rfl, rfl, way_east, hx.mono (by decide), hy.mono (by decide), hq.mono (by decide), ?_⟩
  conv => whnf
  refine ⟨x, q, rfl, rfl, hx.mono (by decide), hq.mono (by decide), ?_⟩
  conv => whnf
  refine ⟨smallL (by simp), ?_⟩
  conv => whnf
  refine ⟨x + q, y, east_slid x y q, rfl, ?_⟩
  conv => whnf
  refine ⟨fun e => ft e, fun _ => ?_⟩
  conv => whnf
  refine ⟨smallL (by simp), ?_⟩
  have hps : ∀ e ∈ [plD x y, plD (x + q / l * a) (y + q / l * b)], ∃ u v, e = plD u v ∧ Sz 500 u ∧ Sz 500 v := by
    intro e h
    simp only [List.mem_cons, List.not_mem_nil, or_false] at h
    rcases h with rfl | rfl
    · exact ⟨_, _, rfl, hx.mono (by decide), hy.mono (by decide)⟩
    · exact ⟨_, _, rfl, sx.mono (by decide), sy.mono (by decide)⟩
  generalize [plD x y, plD (x + q / l * a) (y + q / l * b)] = ps at hps ⊢
  conv => whnf
  refine for_indD (fun r δ G' => G' = G ∧ (∀ e ∈ r, ∃ u v, e = plD u v ∧ Sz 500 u ∧ Sz 500 v) ∧ ∃ o6 o7, δ = [some (plD x y), some (numD q), some (wyD a b l), some (wyD c d k), some (plD (x + q / l * a) (y + q / l * b)), some (.lst [plD (x + q / l * a) (y + q / l * b), plD (x + q / l * a) (y + q / l * b)]), o6, o7]) ?_ ?_ ps _ _ ⟨rfl, hps, _, _, rfl⟩
  · rintro δ G' ⟨rfl, _, o6, o7, rfl⟩
    refine ⟨trivial, ?_⟩
    conv => whnf
    refine ⟨_, _, a, b, l, rfl, rfl, wa, sx.mono (by decide), sy.mono (by decide), ?_⟩
    conv => whnf
    refine ⟨x, y, a, b, l, rfl, rfl, wa, hx.mono (by decide), hy.mono (by decide), ?_⟩
    conv => whnf
    refine ⟨meQ x y a b l, q, rfl, rfl, ?_, hq.mono (by decide), ?_⟩
    · exact (((hx.mul wa.sa).add (hy.mul wa.sb)).div wa.sl wa.l0).mono (by decide)
    rw [me_slid x y q wa]
    exact ⟨is_num _ h⟩
  · rintro e r δ G' ⟨rfl, hr, o6, o7, rfl⟩
    obtain ⟨u, v, rfl, su, sv⟩ := hr e List.mem_cons_self
    refine ⟨trivial, _, rfl, fun N hN => ?_⟩
    conv => whnf
    refine ⟨smallL (by simp), ?_⟩
    have hws : ∀ e ∈ [wyD c d k, wyD a b l, .tup [.int 1, .int 0, .int 1], .tup [.int 0, .int 1, .int 1]], ∃ a b l, e = wyD a b l ∧ Way a b l := by
      intro e h
      simp only [List.mem_cons, List.not_mem_nil, or_false] at h
      rcases h with rfl | rfl | rfl | rfl
      · exact ⟨_, _, _, rfl, wb⟩
      · exact ⟨_, _, _, rfl, wa⟩
      · exact ⟨1, 0, 1, rfl, way_east⟩
      · exact ⟨0, 1, 1, rfl, way_north⟩
    generalize [wyD c d k, wyD a b l, D.tup [.int 1, .int 0, .int 1], .tup [.int 0, .int 1, .int 1]] = ws at hws ⊢
    conv => whnf
    refine for_indD (fun r δ G2 => G2 = G' ∧ (∀ e ∈ r, ∃ a b l, e = wyD a b l ∧ Way a b l) ∧ ∃ o7, δ = [some (plD x y), some (numD q), some (wyD a b l), some (wyD c d k), some (plD (x + q / l * a) (y + q / l * b)), some (.lst [plD (x + q / l * a) (y + q / l * b), plD (x + q / l * a) (y + q / l * b)]), some (plD u v), o7]) ?_ ?_ ws _ _ ⟨rfl, hws, _, rfl⟩
    · rintro δ G2 ⟨rfl, _, o7, rfl⟩
      exact ⟨trivial, hN _ _ ⟨rfl, fun e he => hr e (List.mem_cons_of_mem _ he), _, _, rfl⟩⟩
    · rintro e r3 δ G2 ⟨rfl, hr3, o7, rfl⟩
      obtain ⟨a2, b2, l2, rfl, w2⟩ := hr3 e List.mem_cons_self
      refine ⟨trivial, _, rfl, fun N3 hN3 => ?_⟩
      conv => whnf
      refine ⟨u, v, a2, b2, l2, rfl, rfl, w2, su.mono (by decide), sv.mono (by decide), ?_⟩
      conv => whnf
      refine ⟨u, v, a2, b2, l2, rfl, rfl, w2, su.mono (by decide), sv.mono (by decide), ?_⟩
      conv => whnf
      refine ⟨is_num _ ?_⟩
      conv => whnf
      refine ⟨fun e => ft e, fun _ => ?_⟩
      conv => whnf
      exact hN3 _ _ ⟨rfl, fun e he => hr3 e (List.mem_cons_of_mem _ he), _, rfl⟩
end K05
set_option linter.all false
set_option maxRecDepth 100000
set_option maxHeartbeats 1000000
namespace K05
open PySem PySem.Spec L2 DL
open NUM Rat
def t_slope_end (sp_law_take : DSp) : DTS :=
  (dRet (dTup (dCons (dOp (dI MulOk fun i j => .int (i * j)) (dVar 2) (dOp dIxR (dLst (dCons (dC (.int 1)) (dCons (dOp (dI0 fun i j => .int (i - j)) (dC (.int 0)) (dC (.int 1))) dNil))) (dCall sp_law_take [] (dCons (dVar 0) (dCons (dC (.int 2)) dNil))))) (dCons (dOp (dI MulOk fun i j => .int (i * j)) (dVar 3) (dOp dIxR (dLst (dCons (dC (.int 1)) (dCons (dOp (dI0 fun i j => .int (i - j)) (dC (.int 0)) (dC (.int 1))) dNil))) (dCall sp_law_take [] (dCons (dVar 0) (dCons (dC (.int 2)) dNil))))) (dCons (dVar 5) dNil)))))
def t_slope_tail (sp_law_take : DSp) : DTS :=
  (dSeq (dIf (dTestB (dOp dEqQ (dCall sp_law_take [] (dCons (dVar 0) (dCons (dC (.int 2)) dNil))) (dC (.int 0)))) (dPar 2 3 (dCons (dVar 3) (dCons (dVar 2) dNil))) dNext)
  (dRet (dTup (dCons (dOp (dI MulOk fun i j => .int (i * j)) (dVar 2) (dOp dIxR (dLst (dCons (dC (.int 1)) (dCons (dOp (dI0 fun i j => .int (i - j)) (dC (.int 0)) (dC (.int 1))) dNil))) (dCall sp_law_take [] (dCons (dVar 0) (dCons (dC (.int 2)) dNil))))) (dCons (dOp (dI MulOk fun i j => .int (i * j)) (dVar 3) (dOp dIxR (dLst (dCons (dC (.int 1)) (dCons (dOp (dI0 fun i j => .int (i - j)) (dC (.int 0)) (dC (.int 1))) dNil))) (dCall sp_law_take [] (dCons (dVar 0) (dCons (dC (.int 2)) dNil))))) (dCons (dVar 5) dNil))))))
def t_slope_mid (sp_law_take : DSp) : DTS :=
  (dSeq (dAsg (dOp dAddR (dOp (dI MulOk fun i j => .int (i * j)) (dVar 6) (dVar 6)) (dOp (dI MulOk fun i j => .int (i * j)) (dVar 7) (dVar 7))) (.nm 5))
  (dSeq (dAsg (dOp dAddR (dC (.int 1)) (dCall sp_law_take [] (dCons (dVar 0) (dCons (dOp (dI CDivW fun i j => .int (i / j)) (dC (.int 1000)) (dVar 5)) dNil)))) (.nm 4))
  (dSeq (dAsg (dOp (dI MulOk fun i j => .int (i * j)) (dCB (dR1 dAbsR) (dCons (dOp (dI0 fun i j => .int (i - j)) (dOp (dI MulOk fun i j => .int (i * j)) (dVar 6) (dVar 6)) (dOp (dI MulOk fun i j => .int (i * j)) (dVar 7) (dVar 7))) dNil)) (dVar 4)) (.nm 2))
  (dSeq (dAsg (dOp (dI MulOk fun i j => .int (i * j)) (dOp (dI MulOk fun i j => .int (i * j)) (dOp (dI MulOk fun i j => .int (i * j)) (dC (.int 2)) (dVar 6)) (dVar 7)) (dVar 4)) (.nm 3))
  (dAsg (dOp (dI MulOk fun i j => .int (i * j)) (dVar 5) (dVar 4)) (.nm 5))))))
theorem Way.sg {a b l s t : Int} (w : Way a b l) (hs : s = 1 ∨ s = -1) (ht : t = 1 ∨ t = -1) : Way (a * s) (b * t) l := by
  refine ⟨w.l1, w.l2, ?_⟩
  have e := w.e
  rcases hs with rfl | rfl <;> rcases ht with rfl | rfl <;> grind
theorem Way.sw {a b l : Int} (w : Way a b l) : Way b a l := ⟨w.l1, w.l2, by have := w.e; omega⟩
theorem slope_end {sp : DSp} (hsp : ∀ ds G Q E, spTake ds G Q E → sp ds G Q E) {G0 G : GHp} {p : Addr} {k : Nat} {a b l : Int} {o1 o4 o6 o7 : Option D} {E : DEnds} (w : Way a b l) (B : Bk G0 p k G) (hk : k < 900000) (h : ∀ a b l G', Way a b l → Bk G0 p (k + 2) G' → E.rt (wyD a b l) G') :
    t_slope_end sp E [some (.ref p), o1, some (.int a), some (.int b), o4, some (.int l), o6, o7] G := by
  have sa := num11 w.sa
  have sb := num11 w.sb
  conv => whnf
  refine ⟨smallL (by simp), ?_⟩
  conv => whnf
  refine tk hsp B (by omega) (by omega) (by omega) fun c G c_0 c_1 B => ?_
  conv => whnf
  refine atD_of c_0 (by simp; omega) fun d hd => ?_
  obtain ⟨s, rfl, hs⟩ : ∃ s : Int, d = .int s ∧ (s = 1 ∨ s = -1) := by
    simp only [List.mem_cons, List.not_mem_nil, or_false] at hd
    rcases hd with rfl | rfl
    · exact ⟨_, rfl, .inl rfl⟩
    · exact ⟨_, rfl, .inr rfl⟩
  conv => whnf
  refine ⟨mul_small (.inl (by omega)), ?_⟩
  conv => whnf
  refine ⟨smallL (by simp), ?_⟩
  conv => whnf
  refine tk hsp B (by omega) (by omega) (by omega) fun c2 G c2_0 c2_1 B => ?_
  conv => whnf
  refine atD_of c2_0 (by simp; omega) fun d2 hd2 => ?_
  obtain ⟨t, rfl, ht⟩ : ∃ s : Int, d2 = .int s ∧ (s = 1 ∨ s = -1) := by
    simp only [List.mem_cons, List.not_mem_nil, or_false] at hd2
    rcases hd2 with rfl | rfl
    · exact ⟨_, rfl, .inl rfl⟩
    · exact ⟨_, rfl, .inr rfl⟩
  conv => whnf
  refine ⟨mul_small (.inl (by omega)), ?_⟩
  conv => whnf
  exact ⟨smallL (by simp), h _ _ _ _ (w.sg hs ht) B⟩
theorem slope_tail {sp : DSp} (hsp : ∀ ds G Q E, spTake ds G Q E → sp ds G Q E) {G0 G : GHp} {p : Addr} {k : Nat} {a b l : Int} {o1 o4 o6 o7 : Option D} {E : DEnds} (w : Way a b l) (B : Bk G0 p k G) (hk : k < 800000) (h : ∀ a b l G', Way a b l → Bk G0 p (k + 3) G' → E.rt (wyD a b l) G') :
    t_slope_tail sp E [some (.ref p), o1, some (.int a), some (.int b), o4, some (.int l), o6, o7] G := by
  conv => whnf
  refine tk hsp B (by omega) (by omega) (by omega) fun v G v_0 v_1 B => ?_
  conv => whnf
  refine ⟨fun _ => ?_, fun _ => ?_⟩
  · exact slope_end hsp w.sw B (by omega) fun a b l G' w B => h a b l G' w (B.mono (by omega))
  · exact slope_end hsp w B (by omega) fun a b l G' w B => h a b l G' w (B.mono (by omega))
theorem way_mn {m n t q : Int} (hm : 2 ≤ m) (hm2 : m ≤ 21) (hn : 1 ≤ n) (hn2 : n ≤ 19) (ht : 1 ≤ t) (htq : t ≤ q) (hq : q * (m * m + n * n) ≤ 1000) : Way (((m * m - n * n).natAbs : Int) * t) (2 * m * n * t) ((m * m + n * n) * t) := by
  have h1 : 1 ≤ m * m := by have := Int.mul_le_mul (show 1 ≤ m by omega) (show 1 ≤ m by omega) (by decide) (by omega); omega
  have h2 : 0 ≤ n * n := sq_nn n
  have h3 : (m * m + n * n) * t ≤ (m * m + n * n) * q := Int.mul_le_mul_of_nonneg_left htq (by omega)
  have h4 : (m * m + n * n) * q = q * (m * m + n * n) := Int.mul_comm _ _
  have h5 : 1 * 1 ≤ (m * m + n * n) * t := Int.mul_le_mul (by omega) ht (by decide) (by omega)
  refine ⟨by omega, by omega, ?_⟩
  have ea : ((m * m - n * n).natAbs : Int) * ((m * m - n * n).natAbs : Int) = (m * m - n * n) * (m * m - n * n) := Int.natAbs_mul_self' _
  generalize ((m * m - n * n).natAbs : Int) = A at ea ⊢
  have e1 : A * t * (A * t) = (A * A) * (t * t) := by grind
  rw [e1, ea]
  grind
theorem slope_mid {sp : DSp} (hsp : ∀ ds G Q E, spTake ds G Q E → sp ds G Q E) {G0 G : GHp} {p : Addr} {k : Nat} {m n : Int} {o1 o2 o3 o4 o5 : Option D} {E : DEnds} (hm : 2 ≤ m) (hm2 : m ≤ 21) (hn : 1 ≤ n) (hn2 : n ≤ 19) (B : Bk G0 p k G) (hk : k < 800000)
    (h : ∀ a b l t G', Way a b l → Bk G0 p (k + 1) G' → E.nx [some (.ref p), o1, some (.int a), some (.int b), some (.int t), some (.int l), some (.int m), some (.int n)] G') :
    t_slope_mid sp E [some (.ref p), o1, o2, o3, o4, o5, some (.int m), some (.int n)] G := by
  have m1 : m * m ≤ 21 * 21 := Int.mul_le_mul hm2 hm2 (by omega) (by decide)
  have n1 : n * n ≤ 19 * 19 := Int.mul_le_mul hn2 hn2 (by omega) (by decide)
  have m0 : 2 * 2 ≤ m * m := Int.mul_le_mul hm hm (by decide) (by omega)
  have n0 : 1 * 1 ≤ n * n := Int.mul_le_mul hn hn (by decide) (by omega)
  have p1 : 2 * m * n ≤ 42 * 19 := Int.mul_le_mul (by omega) hn2 (by omega) (by decide)
  have p0 : 0 ≤ 2 * m * n := Int.mul_nonneg (by omega) (by omega)
  conv => whnf
  refine ⟨mul_small (.inl (by omega)), ?_⟩
  conv => whnf
  refine ⟨mul_small (.inl (by omega)), ?_⟩
  conv => whnf
  have hS : 0 < m * m + n * n := by omega
  refine ⟨divw_small hS (Nat.lt_of_lt_of_le (show (m * m + n * n).natAbs < 2 ^ 20 by omega) (Nat.pow_le_pow_right (by decide) (by decide))), ?_⟩
  conv => whnf
  obtain ⟨q, hq⟩ : ∃ q, q = (1000 : Int) / (m * m + n * n) := ⟨_, rfl⟩
  have q1 : 1 ≤ q := by rw [hq]; exact (Int.le_ediv_iff_mul_le hS).mpr (by omega)
  have q2 : q * (m * m + n * n) ≤ 1000 := by rw [hq]; exact Int.ediv_mul_le _ (by omega)
  have q3 : q ≤ 1000 := by
    have : q * 1 ≤ q * (m * m + n * n) := Int.mul_le_mul_of_nonneg_left (by omega) (by omega)
    omega
  refine tk hsp (n := (1000 : Int) / (m * m + n * n)) B (by omega) (by rw [← hq]; omega) (by rw [← hq]; omega) fun v G v0 v1 B => ?_
  rw [← hq] at v1
  conv => whnf
  repeat (refine ⟨by first | exact mul_small (.inl (by omega)) | exact mul_small (.inr (by omega)), ?_⟩; conv => whnf)
  exact h _ _ _ _ _ (way_mn (t := 1 + v) hm hm2 hn hn2 (by omega) (by omega) q2) B
def prSlope (x : D) (G : GHp) (Q : DK) : Prop := ∃ (G0 : GHp) (p : Addr) (k : Nat), x = .ref p ∧ Bk G0 p k G ∧ k < 700000 ∧ ∀ a b l G', Way a b l → Bk G0 p (k + 7) G' → Q (wyD a b l) G'
abbrev sp_law_slope : DSp := sp1 fun x G Q _ => prSlope x G Q
abbrev sp_law_slope_two : DSp := sp1 fun x G Q _ => prSlope x G Q
theorem rd_slopeG {sp : DSp} (hsp : ∀ ds G Q E, spTake ds G Q E → sp ds G Q E) : ∀ x G Q (E : DXK), prSlope x G Q → DRun (t_law_slope sp) [some x, none, none, none, none, none, none, none] G Q := by
  rintro x G Q E ⟨G0, p, k, rfl, B, hk, h⟩
  conv => whnf
  refine tk hsp B (by omega) (by omega) (by omega) fun turn G turn_0 turn_1 B => ?_
  conv => whnf
  refine ⟨fun _ => ?_, fun _ => ?_⟩
  · conv => whnf
    refine ⟨smallL (by simp), ?_⟩
    conv => whnf
    refine ⟨smallL (by simp), ?_⟩
    conv => whnf
    refine ⟨smallL (by simp), ?_⟩
    conv => whnf
    refine tk hsp B (by omega) (by omega) (by omega) fun c G c_0 c_1 B => ?_
    conv => whnf
    refine atD_of c_0 (by simp; omega) fun d hd => ?_
    obtain ⟨a, b, rfl, w1⟩ : ∃ a b : Int, d = .tup [.int a, .int b] ∧ ((a = 1 ∧ b = 0) ∨ (a = 0 ∧ b = 1)) := by
      simp only [List.mem_cons, List.not_mem_nil, or_false] at hd
      rcases hd with rfl | rfl
      · exact ⟨_, _, rfl, .inl ⟨rfl, rfl⟩⟩
      · exact ⟨_, _, rfl, .inr ⟨rfl, rfl⟩⟩
    conv => whnf
    refine tk hsp B (by omega) (by omega) (by omega) fun v G v_0 v_1 B => ?_
    conv => whnf
    refine ⟨smallL (by simp), ?_⟩
    conv => whnf
    refine tk hsp B (by omega) (by omega) (by omega) fun c2 G c2_0 c2_1 B => ?_
    conv => whnf
    refine atD_of c2_0 (by simp; omega) fun d2 hd2 => ?_
    obtain ⟨t, rfl, t1, t2⟩ : ∃ t : Int, d2 = .int t ∧ 1 ≤ t ∧ t ≤ 1000 := by
      simp only [List.mem_cons, List.not_mem_nil, or_false] at hd2
      rcases hd2 with rfl | rfl
      · exact ⟨_, rfl, by decide, by decide⟩
      · exact ⟨_, rfl, by omega, by omega⟩
    have w : Way (a * t) (b * t) t := ⟨t1, t2, by rcases w1 with ⟨rfl, rfl⟩ | ⟨rfl, rfl⟩ <;> grind⟩
    conv => whnf
    refine ⟨mul_small (.inl (by omega)), ?_⟩
    conv => whnf
    refine ⟨mul_small (.inl (by omega)), ?_⟩
    conv => whnf
    exact slope_tail hsp w B (by omega) fun a b l G' w B => h a b l G' w (B.mono (by omega))
  · conv => whnf
    refine tk hsp B (by omega) (by omega) (by omega) fun u G u_0 u_1 B => ?_
    conv => whnf
    refine tk hsp B (by omega) (by omega) (by omega) fun v G v_0 v_1 B => ?_
    conv => whnf
    have fin : ∀ (n : Int) (G' : GHp), 1 ≤ n → n ≤ 19 → Bk G0 p (k + 1 + 1 + 1) G' → t_slope_mid sp { nx := t_slope_tail sp { nx := fun _ G' => Q .non G', rt := Q }, rt := Q } [some (.ref p), some (.int turn), none, none, none, none, some (.int (2 + u)), some (.int n)] G' := fun n G' h1 h2 B =>
      slope_mid hsp (by omega) (by omega) h1 h2 B (by omega) fun a b l t G'' w B => slope_tail hsp w B (by omega) fun a b l G' w B => h a b l G' w (B.mono (by omega))
    refine ⟨fun _ => ?_, fun _ => ?_⟩
    · exact fin 1 G (by decide) (by decide) B
    · exact fin (1 + v) G (by omega) (by omega) B
theorem rd_law_slope : ∀ x G Q (E : DXK), prSlope x G Q → DRun (t_law_slope sp_law_take) [some x, none, none, none, none, none, none, none] G Q := rd_slopeG fun _ _ _ _ h => h
theorem rd_law_slope_two : ∀ x G Q (E : DXK), prSlope x G Q → DRun (t_law_slope_two sp_law_take_two) [some x, none, none, none, none, none, none, none] G Q := rd_slopeG fun _ _ _ _ h => h
end K05
set_option linter.all false
set_option maxRecDepth 100000
set_option maxHeartbeats 1000000
namespace K05
open PySem PySem.Spec L2 DL
open NUM Rat
theorem neg1D : D.int ((0 : Int) - 1) = numD ((-1 : Int) : Rat) := by
  rw [show (0 : Int) - 1 = -1 by decide]
  exact (numD_int (-1)).symm
def pr_plain_place (a : D) (G : GHp) (Q : DK) : Prop := ∃ x y, a = plD x y ∧ Sz 8000 x ∧ Sz 8000 y ∧ Q (.bl true) G
def sp_law_plain_place : DSp := sp1 fun a G Q _ => pr_plain_place a G Q
theorem rd_law_plain_place : ∀ a G Q (E : DXK), pr_plain_place a G Q → DRun (t_law_plain_place sp_law_pair sp_law_is sp_law_number) [some a, none, none, none] G Q := by
  rintro a G Q E ⟨x, y, rfl, sx, sy, h⟩
  have hps : ∀ e ∈ [numD x, numD y], ∃ u, e = numD u ∧ Sz 8000 u := by
    intro e he
    simp only [List.mem_cons, List.not_mem_nil, or_false] at he
    rcases he with rfl | rfl
    · exact ⟨_, rfl, sx⟩
    · exact ⟨_, rfl, sy⟩
  have hl : ((([numD x, numD y] : List D).length : Nat) : Int) = 2 := rfl
  unfold plD
  generalize [numD x, numD y] = ps at hps hl ⊢
  conv => whnf
  refine ⟨fun e => ft e, fun _ => ?_⟩
  conv => whnf
  refine ⟨fun e => ?_, fun _ => ?_⟩
  · have e : (!decide ((ps.length : Int) = 2)) = true := e
    rw [decide_eq_true hl] at e
    exact ft e
  conv => whnf
  refine for_indD (fun r δ G' => G' = G ∧ (∀ e ∈ r, ∃ u, e = numD u ∧ Sz 8000 u) ∧ ∃ o1 o2 o3, δ = [some (.tup ps), o1, o2, o3]) ?_ ?_ ps _ _ ⟨rfl, hps, _, _, _, rfl⟩
  · rintro δ G' ⟨rfl, _, o1, o2, o3, rfl⟩
    exact ⟨trivial, h⟩
  · rintro e r δ G' ⟨rfl, hr, o1, o2, o3, rfl⟩
    obtain ⟨u, rfl, su⟩ := hr e List.mem_cons_self
    refine ⟨trivial, _, rfl, fun N hN => ?_⟩
    conv => whnf
    refine ⟨u, rfl, ?_⟩
    conv => whnf
    refine ⟨fun e => ft e, fun _ => ?_⟩
    conv => whnf
    refine ⟨fun e => ft e, fun _ => ?_⟩
    conv => whnf
    refine ⟨u.num, (u.den : Int), rfl, rfl, den_ne u, pow_le (b := 8990) (a := 8000) (by simpa using su.2) (by decide), ?_⟩
    rw [Rat.num_divInt_den]
    conv => whnf
    refine ⟨is_num u ?_⟩
    conv => whnf
    refine ⟨fun e => ft e, fun _ => ?_⟩
    conv => whnf
    exact hN _ _ ⟨rfl, fun e he => hr e (List.mem_cons_of_mem _ he), _, _, _, rfl⟩
theorem me_moved (x y q : Rat) {a b l c d k : Int} (wa : Way a b l) (wb : Way c d k) (hg : gain a b c d ≠ 0) : meQ (x + mvQ q l k (gain a b c d) / l * a) (y + mvQ q l k (gain a b c d) / l * b) c d k = meQ x y c d k + q := by
  have l0 := wa.l0
  have k0 := wb.l0
  have g0 : ((gain a b c d : Int) : Rat) ≠ 0 := fun z => hg (by exact_mod_cast z)
  have eg : ((gain a b c d : Int) : Rat) = (a : Rat) * c + (b : Rat) * d := by unfold gain; rw [Rat.intCast_add, Rat.intCast_mul, Rat.intCast_mul]
  unfold meQ mvQ
  rw [Rat.intCast_mul]
  generalize ((gain a b c d : Int) : Rat) = g at *
  generalize (a : Rat) = A at *
  generalize (b : Rat) = B at *
  generalize (l : Rat) = L at *
  generalize (c : Rat) = C at *
  generalize (d : Rat) = D' at *
  generalize (k : Rat) = K' at *
  obtain ⟨z, hz⟩ : ∃ z, z = q * (L * K') / g / L := ⟨_, rfl⟩
  rw [← hz]
  have hz2 : z * g = q * K' := by rw [hz]; grind
  have h1 : (x + z * A) * C + (y + z * B) * D' = (x * C + y * D') + z * (A * C + B * D') := by grind
  rw [h1, ← eg, hz2]
  grind
def pr_moved_right (f p r m w : D) (G : GHp) (Q : DK) : Prop := ∃ x y q a b l c d k, f = plD (x + mvQ q l k (gain a b c d) / l * a) (y + mvQ q l k (gain a b c d) / l * b) ∧ p = plD x y ∧ r = numD q ∧ m = wyD a b l ∧ w = wyD c d k ∧ Way a b l ∧ Way c d k ∧ gain a b c d ≠ 0 ∧ Sz 1200 x ∧ Sz 1200 y ∧ Sz 1200 q ∧
  Sz 1400 (x + mvQ q l k (gain a b c d) / l * a) ∧ Sz 1400 (y + mvQ q l k (gain a b c d) / l * b) ∧ Q (.bl true) G
def sp_law_moved_right : DSp := sp5 fun f p r m w G Q _ => pr_moved_right f p r m w G Q
theorem rd_law_moved_right : ∀ f p r m w G Q (E : DXK), pr_moved_right f p r m w G Q → DRun (t_law_moved_right sp_law_plain_place sp_law_is sp_law_sum sp_law_measure_two sp_law_product) [some f, some p, some r, some m, some w, none, none] G Q := by
  rintro f p r m w G Q E ⟨x, y, q, a, b, l, c, d, k, rfl, rfl, rfl, rfl, rfl, wa, wb, hg, sx, sy, sq, sX, sY, h⟩
  have em := me_moved x y q wa wb hg
  obtain ⟨z, hz⟩ : ∃ z, z = mvQ q l k (gain a b c d) / l := ⟨_, rfl⟩
  rw [← hz] at sX sY em ⊢
  have sme : Sz 2500 (meQ x y c d k) := (((sx.mul wb.sa).add (sy.mul wb.sb)).div wb.sl wb.l0).mono (by decide)
  have s1 : Sz 1 ((-1 : Int) : Rat) := Sz.int (by decide) (by decide)
  have e1 : (x + z * a + x * ((-1 : Int) : Rat)) * b = (y + z * b + y * ((-1 : Int) : Rat)) * a := by
    rw [show (((-1 : Int) : Rat)) = -1 from rfl]
    grind
  conv => whnf
  refine ⟨_, _, rfl, sX.mono (by decide), sY.mono (by decide), ?_⟩
  conv => whnf
  refine ⟨fun e => ft e, fun _ => ?_⟩
  conv => whnf
  refine ⟨_, _, c, d, k, rfl, rfl, wb, sX.mono (by decide), sY.mono (by decide), ?_⟩
  rw [em]
  conv => whnf
  refine ⟨x, y, c, d, k, rfl, rfl, wb, sx.mono (by decide), sy.mono (by decide), ?_⟩
  conv => whnf
  refine ⟨meQ x y c d k, q, rfl, rfl, sme.mono (by decide), sq.mono (by decide), ?_⟩
  conv => whnf
  refine ⟨is_num _ ?_⟩
  conv => whnf
  refine ⟨fun e => ft e, fun _ => ?_⟩
  conv => whnf
  refine ⟨x, ((-1 : Int) : Rat), rfl, neg1D, sx.mono (by decide), s1.mono (by decide), ?_⟩
  conv => whnf
  refine ⟨x + z * a, x * ((-1 : Int) : Rat), rfl, rfl, sX.mono (by decide), (sx.mul s1).mono (by decide), ?_⟩
  conv => whnf
  refine ⟨y, ((-1 : Int) : Rat), rfl, neg1D, sy.mono (by decide), s1.mono (by decide), ?_⟩
  conv => whnf
  refine ⟨y + z * b, y * ((-1 : Int) : Rat), rfl, rfl, sY.mono (by decide), (sy.mul s1).mono (by decide), ?_⟩
  conv => whnf
  refine ⟨x + z * a + x * ((-1 : Int) : Rat), (b : Rat), rfl, (numD_int b).symm, (sX.add (sx.mul s1)).mono (by decide), wa.sb.mono (by decide), ?_⟩
  conv => whnf
  refine ⟨y + z * b + y * ((-1 : Int) : Rat), (a : Rat), rfl, (numD_int a).symm, (sY.add (sy.mul s1)).mono (by decide), wa.sa.mono (by decide), ?_⟩
  conv => whnf
  refine ⟨?_⟩
  have t : pr_is 3 (numD ((x + z * a + x * ((-1 : Int) : Rat)) * b)) (numD ((y + z * b + y * ((-1 : Int) : Rat)) * a)) G Q := by
    rw [e1]
    exact is_num _ h
  exact t
end K05
set_option linter.all false
set_option maxRecDepth 100000
set_option maxHeartbeats 1000000
namespace K05
open PySem PySem.Spec L2 DL
open NUM Rat
theorem eqb_pl {G : GHp} (x y : Rat) : EqB G (plD x y) (plD x y) true := by
  refine eqb_self (p := .tuple [pdN x, pdN y]) (.tup (.cons (DD_num x) (.cons (DD_num y) .nil))) ((Shps.cons (Shp_num 1 x) (.cons (Shp_num 1 y) .nil)).tuple.ok (by decide)) ?_
  simp only [PyData.eqv, PyData.eqvAll, eqv_num, decide_true, Bool.and_true]
theorem gsz {a b l c d k : Int} (wa : Way a b l) (wb : Way c d k) : Sz 24 ((gain a b c d : Int) : Rat) ∧ Sz 22 ((l * k : Int) : Rat) := by
  have m1 := mul_lt (num11 wa.sa) (num11 wb.sa)
  have m2 := mul_lt (num11 wa.sb) (num11 wb.sb)
  have m3 := mul_lt (num11 wa.sl) (num11 wb.sl)
  have eg : a * c + b * d = gain a b c d := rfl
  exact ⟨Sz.int (by rw [← eg]; have : (2 : Nat) ^ 24 = 16777216 := (by decide); have : (2 : Nat) ^ 22 = 4194304 := (by decide); omega) (by decide), Sz.int m3 (by decide)⟩
theorem mv_sz {q : Rat} {a b l c d k : Int} {n : Nat} (wa : Way a b l) (wb : Way c d k) (hg : gain a b c d ≠ 0) (sq : Sz n q) : Sz (n + 57) (mvQ q l k (gain a b c d) / l) := by
  have g0 : ((gain a b c d : Int) : Rat) ≠ 0 := fun z => hg (by exact_mod_cast z)
  exact (((sq.mul (gsz wa wb).2).div (gsz wa wb).1 g0).div wa.sl wa.l0).mono (by omega)
theorem mv_neg (q : Rat) (l k g : Int) : mvQ (q * ((-1 : Int) : Rat)) l k g = -(mvQ q l k g) := by
  unfold mvQ
  rw [show (((-1 : Int) : Rat)) = -1 from rfl, Rat.div_def, Rat.div_def]
  grind
theorem mv_back (x q : Rat) (l k g a : Int) : x + mvQ q l k g / l * a + mvQ (q * ((-1 : Int) : Rat)) l k g / l * a = x := by
  rw [mv_neg, Rat.div_def, Rat.div_def]
  grind
def pr_right_two (p r m w : D) (G : GHp) (Q : DK) : Prop := ∃ x y q a b l c d k, p = plD x y ∧ r = numD q ∧ m = wyD a b l ∧ w = wyD c d k ∧ Way a b l ∧ Way c d k ∧ Sz 120 x ∧ Sz 120 y ∧ Sz 120 q ∧ Q (.bl true) G
def sp_law_right_two : DSp := sp4 fun p r m w G Q _ => pr_right_two p r m w G Q
theorem rd_law_right_two {K : PySem.W.Frag} : ∀ p r m w G Q (E : DXK), pr_right_two p r m w G Q → DRun (t_law_right_two sp_law_refused (sp_moved K) sp_law_moved_right sp_law_product) [some p, some r, some m, some w, none] G Q := by
  rintro p r m w G Q E ⟨x, y, q, a, b, l, c, d, k, rfl, rfl, rfl, rfl, wa, wb, sx, sy, sq, h⟩
  have m1 := mul_lt (num11 wa.sa) (num11 wb.sa)
  have m2 := mul_lt (num11 wa.sb) (num11 wb.sb)
  have sa := num11 wa.sa
  have sb := num11 wa.sb
  have s1 : Sz 1 ((-1 : Int) : Rat) := Sz.int (by decide) (by decide)
  conv => whnf
  refine ⟨mul_small (.inl (by omega)), ?_⟩
  conv => whnf
  refine ⟨mul_small (.inl (by omega)), ?_⟩
  conv => whnf
  refine ⟨fun e => ?_, fun e => ?_⟩
  · have e : gain a b c d = 0 := of_decide_eq_true e
    conv => whnf
    exact ⟨x, y, q, a, b, l, c, d, k, rfl, rfl, rfl, rfl, wa, wb, sx.mono (by decide), sy.mono (by decide), sq.mono (by decide), e, h⟩
  · have hg : gain a b c d ≠ 0 := of_decide_eq_false e
    have sz := mv_sz wa wb hg sq
    have sX := sx.add (sz.mul wa.sa)
    have sY := sy.add (sz.mul wa.sb)
    have bx := mv_back x q l k (gain a b c d) a
    have by_ := mv_back y q l k (gain a b c d) b
    conv => whnf
    refine ⟨rfl, rfl, x, y, q, a, b, l, c, d, k, rfl, rfl, rfl, rfl, wa, wb, sx.mono (by decide), sy.mono (by decide), sq.mono (by decide), fun e => absurd e hg, fun _ => ?_⟩
    conv => whnf
    refine ⟨x, y, q, a, b, l, c, d, k, rfl, rfl, rfl, rfl, rfl, wa, wb, hg, sx.mono (by decide), sy.mono (by decide), sq.mono (by decide), sX.mono (by decide), sY.mono (by decide), ?_⟩
    conv => whnf
    refine ⟨fun e => ft e, fun _ => ?_⟩
    conv => whnf
    refine ⟨rfl, rfl, x, y, q, a, b, l, c, d, k, rfl, rfl, rfl, rfl, wa, wb, sx.mono (by decide), sy.mono (by decide), sq.mono (by decide), fun e => absurd e hg, fun _ => ?_⟩
    conv => whnf
    refine ⟨_, eqb_pl _ _, ?_⟩
    conv => whnf
    refine ⟨fun e => ft e, fun _ => ?_⟩
    conv => whnf
    refine ⟨q, ((-1 : Int) : Rat), rfl, neg1D, sq.mono (by decide), s1.mono (by decide), ?_⟩
    conv => whnf
    refine ⟨rfl, rfl, _, _, q * ((-1 : Int) : Rat), a, b, l, c, d, k, rfl, rfl, rfl, rfl, wa, wb, sX.mono (by decide), sY.mono (by decide), (sq.mul s1).mono (by decide), fun e => absurd e hg, fun _ => ?_⟩
    rw [bx, by_]
    conv => whnf
    exact ⟨_, eqb_pl _ _, h⟩
def pr_left_out (p r m : D) (G : GHp) (Q : DK) : Prop := ∃ x y q a b l, p = plD x y ∧ r = numD q ∧ m = wyD a b l ∧ Way a b l ∧ Sz 120 x ∧ Sz 120 y ∧ Sz 120 q ∧ Q (.bl true) G
def sp_law_left_out : DSp := sp3 fun p r m G Q _ => pr_left_out p r m G Q
theorem mv_east (x y q : Rat) : plD (x + mvQ q 1 1 (gain 1 0 1 0) / ((1 : Int) : Rat) * ((1 : Int) : Rat)) (y + mvQ q 1 1 (gain 1 0 1 0) / ((1 : Int) : Rat) * ((0 : Int) : Rat)) = plD (x + q) y := by
  have e0 : mvQ q 1 1 (gain 1 0 1 0) = q := by
    unfold mvQ gain
    rw [show ((((1 : Int) * 1 : Int)) : Rat) = 1 from rfl, show ((((1 : Int) * 1 + 0 * 0 : Int)) : Rat) = 1 from rfl]
    grind
  rw [e0]
  exact east_slid x y q
theorem rd_law_left_out {K : PySem.W.Frag} : ∀ p r m G Q (E : DXK), pr_left_out p r m G Q → DRun (t_law_left_out (sp_moved K) sp_law_sum sp_law_refused sp_law_moved_right) [some p, some r, some m, none] G Q := by
  rintro p r m G Q E ⟨x, y, q, a, b, l, rfl, rfl, rfl, wa, sx, sy, sq, h⟩
  have g1 : gain 1 0 1 0 ≠ 0 := by decide
  conv => whnf
  refine ⟨smallL (by simp), ?_⟩
  conv => whnf
  refine ⟨rfl, rfl, x, y, q, 1, 0, 1, 1, 0, 1, rfl, rfl, rfl, rfl, way_east, way_east, sx.mono (by decide), sy.mono (by decide), sq.mono (by decide), fun e => absurd e g1, fun _ => ?_⟩
  rw [mv_east]
  conv => whnf
  refine ⟨x, q, rfl, rfl, sx.mono (by decide), sq.mono (by decide), ?_⟩
  conv => whnf
  refine ⟨smallL (by simp), ?_⟩
  conv => whnf
  refine ⟨_, eqb_pl _ _, ?_⟩
  conv => whnf
  refine ⟨fun e => ft e, fun _ => ?_⟩
  conv => whnf
  refine ⟨fun e => ?_, fun e => ?_⟩
  · have e : a = 0 := of_decide_eq_true e
    conv => whnf
    refine ⟨x, y, q, a, b, l, 1, 0, 1, rfl, rfl, rfl, rfl, wa, way_east, sx.mono (by decide), sy.mono (by decide), sq.mono (by decide), by unfold gain; omega, ?_⟩
    conv => whnf
    refine ⟨fun _ => ?_, fun e => tf e⟩
    conv => whnf
    exact ⟨x, y, q, 1, 0, 1, a, b, l, rfl, rfl, rfl, rfl, way_east, wa, sx.mono (by decide), sy.mono (by decide), sq.mono (by decide), by unfold gain; omega, h⟩
  · have e : a ≠ 0 := of_decide_eq_false e
    have ga : gain a b 1 0 ≠ 0 := by unfold gain; omega
    have gb : gain 1 0 a b ≠ 0 := by unfold gain; omega
    have sz := mv_sz wa way_east ga sq
    have sz2 := mv_sz way_east wa gb sq
    conv => whnf
    refine ⟨rfl, rfl, x, y, q, a, b, l, 1, 0, 1, rfl, rfl, rfl, rfl, wa, way_east, sx.mono (by decide), sy.mono (by decide), sq.mono (by decide), fun e => absurd e ga, fun _ => ?_⟩
    conv => whnf
    refine ⟨x, y, q, a, b, l, 1, 0, 1, rfl, rfl, rfl, rfl, rfl, wa, way_east, ga, sx.mono (by decide), sy.mono (by decide), sq.mono (by decide), (sx.add (sz.mul wa.sa)).mono (by decide), (sy.add (sz.mul wa.sb)).mono (by decide), ?_⟩
    conv => whnf
    refine ⟨fun e => ft e, fun _ => ?_⟩
    conv => whnf
    refine ⟨rfl, rfl, x, y, q, 1, 0, 1, a, b, l, rfl, rfl, rfl, rfl, way_east, wa, sx.mono (by decide), sy.mono (by decide), sq.mono (by decide), fun e => absurd e gb, fun _ => ?_⟩
    conv => whnf
    exact ⟨x, y, q, 1, 0, 1, a, b, l, rfl, rfl, rfl, rfl, rfl, way_east, wa, gb, sx.mono (by decide), sy.mono (by decide), sq.mono (by decide), (sx.add (sz2.mul way_east.sa)).mono (by decide), (sy.add (sz2.mul way_east.sb)).mono (by decide), h⟩
end K05
set_option linter.all false
set_option maxRecDepth 100000
set_option maxHeartbeats 1000000
namespace K05
open PySem PySem.Spec L2 DL
open NUM Rat
def pr_asked (x : D) (G : GHp) (Q : DK) : Prop := ∃ ns : List Int, x = .scr (ns.map .int) ∧ ns.length ≤ 63 ∧ (∀ a, G a = none) ∧ Q (.bl true) G
abbrev sp_law_asked_two : DSp := sp1 fun x G Q _ => pr_asked x G Q
theorem sl {sp : DSp} (hl : ∀ ds G Q E, sp_law_slope ds G Q E → sp ds G Q E) {G0 G : GHp} {p : Addr} {k : Nat} {Q : DK} {E : DXK} (B : Bk G0 p k G) (hk : k < 700000) (h : ∀ a b l G', Way a b l → Bk G0 p (k + 7) G' → Q (wyD a b l) G') : sp [.ref p] G Q E := hl _ _ _ _ ⟨G0, p, k, rfl, B, hk, h⟩
theorem dr {sp : DSp} (hl : ∀ ds G Q E, sp_law_drawn ds G Q E → sp ds G Q E) {G0 G : GHp} {p : Addr} {k : Nat} {Q : DK} {E : DXK} (B : Bk G0 p k G) (hk : k < 700000) (h : ∀ q G', Sz 110 q → Bk G0 p (k + 28) G' → Q (numD q) G') : sp [.ref p] G Q E := hl _ _ _ _ ⟨G0, p, k, rfl, B, by omega, h⟩
def t_two_end (sp_law_take_two : DSp) (sp_law_drawn_two : DSp) (sp_law_right_two : DSp) (sp_law_left_out : DSp) : DTS :=
  (dSeq (dAsg (dTup (dCons (dCall sp_law_drawn_two [] (dCons (dVar 2) dNil)) (dCons (dCall sp_law_drawn_two [] (dCons (dVar 2) dNil)) dNil))) (.nm 6))
  (dSeq (dAsg (dOp dIxR (dLst (dCons (dCall sp_law_drawn_two [] (dCons (dVar 2) dNil)) (dCons (dC (.int 0)) dNil))) (dCB (dR1 dIntR) (dCons (dOp dEqQ (dCall sp_law_take_two [] (dCons (dVar 2) (dCons (dC (.int 6)) dNil))) (dC (.int 0))) dNil))) (.nm 7))
  (dSeq (dIf (dOr (dNot (dTest (dCall sp_law_right_two [] (dCons (dVar 6) (dCons (dVar 7) (dCons (dVar 4) (dCons (dVar 5) dNil))))))) (dNot (dTest (dCall sp_law_left_out [] (dCons (dVar 6) (dCons (dVar 7) (dCons (dVar 4) dNil))))))) (dRet (dC (.bl false))) dNext)
  (dIf (dNot (dTest (dCall sp_law_right_two [] (dCons (dTup (dCons (dVar 7) (dCons (dOp dIxR (dVar 6) (dC (.int 0))) dNil))) (dCons (dOp dIxR (dVar 6) (dC (.int 1))) (dCons (dVar 5) (dCons (dVar 4) dNil))))))) (dRet (dC (.bl false))) dNext))))
theorem two_end {sp sd : DSp} (hsp : ∀ ds G Q E, spTake ds G Q E → sp ds G Q E) (hd : ∀ ds G Q E, sp_law_drawn ds G Q E → sd ds G Q E) {G0 G : GHp} {p : Addr} {k : Nat} {a b l c d m : Int} {o0 o1 o3 o6 o7 : Option D} {E : DEnds} (wa : Way a b l) (wb : Way c d m) (B : Bk G0 p k G) (hk : k < 600000) (h : ∀ o6 o7 G', E.nx [o0, o1, some (.ref p), o3, some (wyD a b l), some (wyD c d m), o6, o7] G') :
    t_two_end sp sd sp_law_right_two sp_law_left_out E [o0, o1, some (.ref p), o3, some (wyD a b l), some (wyD c d m), o6, o7] G := by
  have s0 : Sz 120 ((0 : Int) : Rat) := Sz.int (by decide) (by decide)
  conv => whnf
  refine dr hd B (by omega) fun x G sx B => ?_
  conv => whnf
  refine dr hd B (by omega) fun y G sy B => ?_
  refine ⟨smallL (by simp), ?_⟩
  conv => whnf
  refine dr hd B (by omega) fun q G sq B => ?_
  refine ⟨smallL (by simp), ?_⟩
  conv => whnf
  refine tk hsp B (by omega) (by omega) (by omega) fun v G v_0 v_1 B => ?_
  conv => whnf
  change atD [numD q, D.int 0] (if decide (v = 0) = true then 1 else 0) _
  refine atD_of (by split <;> decide) (by show (if decide (v = 0) = true then (1 : Int) else 0) < 2; split <;> decide) fun d2 hd2 => ?_
  obtain ⟨f, rfl, sf⟩ : ∃ f, d2 = numD f ∧ Sz 120 f := by
    simp only [List.mem_cons, List.not_mem_nil, or_false] at hd2
    rcases hd2 with rfl | rfl
    · exact ⟨q, rfl, sq.mono (by decide)⟩
    · exact ⟨((0 : Int) : Rat), (numD_int 0).symm, s0⟩
  conv => whnf
  refine ⟨x, y, f, a, b, l, c, d, m, rfl, rfl, rfl, rfl, wa, wb, sx.mono (by decide), sy.mono (by decide), sf, ?_⟩
  conv => whnf
  refine ⟨fun e => ft e, fun _ => ?_⟩
  conv => whnf
  refine ⟨x, y, f, a, b, l, rfl, rfl, rfl, wa, sx.mono (by decide), sy.mono (by decide), sf, ?_⟩
  conv => whnf
  refine ⟨fun e => ft e, fun _ => ?_⟩
  conv => whnf
  refine ⟨smallL (by simp), ?_⟩
  conv => whnf
  refine ⟨f, x, y, c, d, m, a, b, l, rfl, rfl, rfl, rfl, wb, wa, sf, sx.mono (by decide), sy.mono (by decide), ?_⟩
  conv => whnf
  refine ⟨fun e => ft e, fun _ => ?_⟩
  conv => whnf
  exact h _ _ _
theorem Way.tn {a b l : Int} (w : Way a b l) : Way (0 - b) a l := ⟨w.l1, w.l2, by have := w.e; rw [Int.zero_sub, Int.neg_mul_neg]; omega⟩
theorem rd_asked_twoG {K : PySem.W.Frag} {sp ss sd : DSp} (hsp : ∀ ds G Q E, spTake ds G Q E → sp ds G Q E) (hl : ∀ ds G Q E, sp_law_slope ds G Q E → ss ds G Q E) (hd : ∀ ds G Q E, sp_law_drawn ds G Q E → sd ds G Q E) :
    ∀ x G Q (E : DXK), pr_asked x G Q → DRun (t_law_asked_two K sp_law_box sp_law_cell_two sp ss sd sp_law_right_two sp_law_left_out) [some x, none, none, none, none, none, none, none] G Q := by
  rintro x G Q E ⟨ns, rfl, hsl, hG, h⟩
  have hml : (ns.map D.int).length = ns.length := List.length_map ..
  conv => whnf
  refine ⟨by unfold RgB; omega, ?_⟩
  refine for_ind (enc := fun (i : Nat) => D.int (0 + i)) (fun r δ G' => (∀ j ∈ r, j ≤ 100) ∧ ∃ o1 o2 o3 o4 o5 o6 o7, δ = [some (.scr (ns.map .int)), o1, o2, o3, o4, o5, o6, o7]) ?_ ?_ (List.range _) _ _
    ⟨fun j hj => by have := List.mem_range.mp hj; omega, _, _, _, _, _, _, _, rfl⟩
  · rintro δ G' ⟨_, o1, o2, o3, o4, o5, o6, o7, rfl⟩
    refine ⟨trivial, ?_⟩
    conv => whnf
    refine ⟨_, G, View.tree (fun _ => True) (fun a _ => hG a) (fun a o e => by rw [hG] at e; cases e) (TreeSt.same _), ?_⟩
    exact h
  · rintro j r δ G' ⟨hj, o1, o2, o3, o4, o5, o6, o7, rfl⟩
    have hj0 := hj j List.mem_cons_self
    refine ⟨trivial, _, rfl, fun N hN => ?_⟩
    have fin : ∀ o0 o1 o2 o3 o4 o5 o6 o7 G', o0 = some (.scr (ns.map .int)) → N [o0, o1, o2, o3, o4, o5, o6, o7] G' := fun o0 o1 o2 o3 o4 o5 o6 o7 G' e => by
      subst e
      exact hN _ _ ⟨fun j hj2 => hj j (List.mem_cons_of_mem _ hj2), _, _, _, _, _, _, _, rfl⟩
    conv => whnf
    refine ⟨ns, 0 + j, rfl, rfl, by omega, by omega, fun z => ?_⟩
    conv => whnf
    refine ⟨z, rfl, fun p s hp hs => ?_⟩
    have B : Bk G' p 0 (gupd G' p s.go) := ⟨⟨s, gupd_same, hs⟩, fun b hb => gupd_ne hb⟩
    conv => whnf
    generalize gupd G' p s.go = G at B ⊢
    refine tk hsp B (by omega) (by omega) (by omega) fun turn G turn_0 turn_1 B => ?_
    conv => whnf
    refine sl hl B (by omega) fun a b l G wa B => ?_
    conv => whnf
    refine sl hl B (by omega) fun c d m G wb B => ?_
    conv => whnf
    refine ⟨fun e0 => ?_, fun e0 => ?_⟩
    · have e0 : turn = 0 := of_decide_eq_true e0
      conv => whnf
      refine ⟨smallL (by simp), ?_⟩
      conv => whnf
      refine ⟨fun e1 => ?_, fun e1 => ?_⟩
      · have e1 : turn = 1 := of_decide_eq_true e1
        omega
      · exact two_end hsp hd wa wa.tn B (by omega) fun o6 o7 G' => fin _ _ _ _ _ _ _ _ _ rfl
    · conv => whnf
      refine ⟨fun e1 => ?_, fun e1 => ?_⟩
      · conv => whnf
        repeat (refine ⟨smallL (by simp), ?_⟩; conv => whnf)
        refine tk hsp B (by omega) (by omega) (by omega) fun v G v_0 v_1 B => ?_
        conv => whnf
        refine atD_of v_0 (by simp; omega) fun d2 hd2 => ?_
        obtain ⟨a2, b2, l2, rfl, w2⟩ : ∃ a b l : Int, d2 = wyD a b l ∧ Way a b l := by
          simp only [List.mem_cons, List.not_mem_nil, or_false] at hd2
          rcases hd2 with rfl | rfl | rfl
          · exact ⟨1, 0, 1, rfl, way_east⟩
          · exact ⟨0, 1, 1, rfl, way_north⟩
          · exact ⟨0 - 1, 0, 1, rfl, ⟨by decide, by decide, by decide⟩⟩
        exact two_end hsp hd w2 wb B (by omega) fun o6 o7 G' => fin _ _ _ _ _ _ _ _ _ rfl
      · exact two_end hsp hd wa wb B (by omega) fun o6 o7 G' => fin _ _ _ _ _ _ _ _ _ rfl
theorem rd_law_asked_two {K : PySem.W.Frag} : ∀ x G Q (E : DXK), pr_asked x G Q → DRun (t_law_asked_two K sp_law_box sp_law_cell_two sp_law_take_two sp_law_slope_two sp_law_drawn_two sp_law_right_two sp_law_left_out) [some x, none, none, none, none, none, none, none] G Q :=
  rd_asked_twoG (fun _ _ _ _ h => h) (fun _ _ _ _ h => h) fun _ _ _ _ h => h
end K05
set_option linter.all false
set_option maxRecDepth 100000
set_option maxHeartbeats 1000000
namespace K05
open PySem PySem.Spec L2 DL
open NUM Rat
def t_nw_ret (sp_is_way : DSp) : DTS :=
  (dRet (dOp dEqQ (dCB (dR1 dReprR) (dCons (dCall sp_is_way [] (dCons (dVar 6) dNil)) dNil)) (dCB (dR1 dReprR) (dCons (dVar 7) dNil))))
def t_nw_end (sp_is_way : DSp) : DTS :=
  (dSeq (dAsg (dAndV (dCB (dR2 dIsiR) (dCons (dVar 6) (dCons (dC (.ty .tup)) dNil))) (dOp dEqQ (dCB (dR1 dLenR) (dCons (dVar 6) dNil)) (dC (.int 3)))) (.nm 7))
  (dSeq (dAsg (dIfE (dTest (dVar 7)) (dLc false (dSeqI (dVar 6)) (.nm 9) (dTest (dIsiT [.bool, .str, .tup] (dVar 9))) (dVar 9) [9]) (dLst dNil)) (.nm 8))
  (dSeq (dAsg (dAndV (dVar 7) (dOp dEqB (dVar 8) (dLst dNil))) (.nm 7))
  (dSeq (dIf (dTest (dVar 7)) (dAsg (dAndV (dChain (dCmpR (fun i j => decide (i < j)) (fun a b => decide (a < b))) (dCmpR (fun i j => decide (i < j)) (fun a b => decide (a < b))) (dC (.int 0)) (dOp dIxR (dVar 6) (dC (.int 2))) (dC (.int 1001))) (dOp dEqQ (dOp dAddR (dOp (dI MulOk fun i j => .int (i * j)) (dOp dIxR (dVar 6) (dC (.int 0))) (dOp dIxR (dVar 6) (dC (.int 0)))) (dOp (dI MulOk fun i j => .int (i * j)) (dOp dIxR (dVar 6) (dC (.int 1))) (dOp dIxR (dVar 6) (dC (.int 1))))) (dOp (dI MulOk fun i j => .int (i * j)) (dOp dIxR (dVar 6) (dC (.int 2))) (dOp dIxR (dVar 6) (dC (.int 2)))))) (.nm 7)) dNext)
  (dRet (dOp dEqQ (dCB (dR1 dReprR) (dCons (dCall sp_is_way [] (dCons (dVar 6) dNil)) dNil)) (dCB (dR1 dReprR) (dCons (dVar 7) dNil))))))))
theorem ro_bl (b : Bool) : reprOk (.bool b) := by unfold reprOk; cases b <;> decide +kernel
theorem nw_ret {G : GHp} {Q : DK} {N : DSt → GHp → Prop} {o0 o1 o2 o3 o4 o5 o8 o9 : Option D} {d : D} {w : Bool} (hw : w = wyB d) (ht : ∃ t, tgOf G d = some t) (hin : ∀ x y z, d = .tup [x, y, z] → tgd1 G x ∧ tgd1 G y ∧ tgd1 G z) (h : Q (.bl true) G) :
    t_nw_ret sp_is_way { nx := N, rt := Q } [o0, o1, o2, o3, o4, o5, some d, some (.bl w), o8, o9] G := by
  subst hw
  conv => whnf
  refine ⟨ht, hin, ?_⟩
  conv => whnf
  refine ⟨_, .bl _, ro_bl _, ?_⟩
  conv => whnf
  refine ⟨_, .bl _, ro_bl _, ?_⟩
  have e : decide ((PyData.bool (wyB d)).shown = (PyData.bool (wyB d)).shown) = true := decide_eq_true rfl
  show Q (.bl (decide ((PyData.bool (wyB d)).shown = (PyData.bool (wyB d)).shown))) G
  rw [e]
  exact h
def E3 (e : D) : Prop := (∃ i : Int, e = .int i ∧ i.natAbs < 2 ^ 100) ∨ ((∃ pd, (∀ G, DD G e pd) ∧ Shp 3 pd) ∧ ((∃ b, e = .bl b) ∨ (∃ z, e = .str z) ∨ ∃ ds, e = .tup ds))
theorem E3.tg {e : D} (h : E3 e) (G : GHp) : tgd1 G e := by
  rcases h with ⟨i, rfl, hi⟩ | ⟨_, ⟨b, rfl⟩ | ⟨z, rfl⟩ | ⟨ds, rfl⟩⟩
  · exact ⟨⟨_, rfl⟩, fun j q => by cases q; exact small400 hi (by decide)⟩
  · exact ⟨⟨_, rfl⟩, fun j q => nomatch q⟩
  · exact ⟨⟨_, rfl⟩, fun j q => nomatch q⟩
  · exact ⟨⟨_, rfl⟩, fun j q => nomatch q⟩
def Nw (G : GHp) (d : D) : Prop := (∃ t, tgOf G d = some t ∧ t ≠ .tup) ∨ (∃ ds, d = .tup ds ∧ ds.length ≠ 3) ∨ ∃ x y z, d = .tup [x, y, z] ∧ E3 x ∧ E3 y ∧ E3 z
theorem E3.no {e : D} (h : E3 e) (hp : plB e = false) : ∃ pd, (∀ G, DD G e pd) ∧ Shp 3 pd := by
  rcases h with ⟨i, rfl, _⟩ | ⟨h, _⟩
  · cases hp
  · exact h
theorem eqb_odd {G : GHp} : ∀ {es : List D}, (∀ e ∈ es, ∃ pd, (∀ G, DD G e pd) ∧ Shp 3 pd) → ∃ ps, DDs G es ps ∧ Shps 3 ps
  | [], _ => ⟨[], .nil, .nil⟩
  | e :: r, h => by
    obtain ⟨p, h1, h2⟩ := h e List.mem_cons_self
    obtain ⟨ps, h3, h4⟩ := eqb_odd (es := r) fun x hx => h x (List.mem_cons_of_mem _ hx)
    exact ⟨p :: ps, .cons (h1 G) h3, .cons h2 h4⟩
theorem eqb_oddL {G : GHp} {es : List D} (h : ∀ e ∈ es, ∃ pd, (∀ G, DD G e pd) ∧ Shp 3 pd) : EqB G (.lst es) (.lst []) es.isEmpty := by
  obtain ⟨ps, d, s⟩ := eqb_odd (G := G) h
  refine ⟨_, _, .lst d, .lst .nil, s.list.ok (by decide), (Shps.nil (n := 0)).list.ok (by decide), ?_⟩
  cases d with
  | nil => simp [PyData.eqv, PyData.eqvAll]
  | cons _ _ => simp [PyData.eqv, PyData.eqvAll]
theorem wy_np {x y z : D} (h : plB x = false ∨ plB y = false ∨ plB z = false) : wyB (.tup [x, y, z]) = false := by
  cases x with
  | int i =>
    cases y with
    | int j =>
      cases z with
      | int l => rcases h with h | h | h <;> cases h
      | _ => rfl
    | _ => rfl
  | _ => rfl
theorem nw_end {G : GHp} {Q : DK} {N : DSt → GHp → Prop} {o0 o1 o2 o3 o4 o5 : Option D} {d : D} (hd : Nw G d) (h : Q (.bl true) G) : t_nw_end sp_is_way { nx := N, rt := Q } [o0, o1, o2, o3, o4, o5, some d, none, none, none] G := by
  rcases hd with ⟨t, ht, hne⟩ | ⟨ds, rfl, hl⟩ | ⟨x, y, z, rfl, ex, ey, ez⟩
  · have e1 : isA t .tup = false := by cases t <;> first | rfl | exact absurd rfl hne
    have e2 : wyB d = false := by
      cases d with
      | tup ds => cases ht; exact absurd rfl hne
      | _ => rfl
    conv => whnf
    rw [ht]
    conv => whnf
    rw [e1]
    refine ⟨fun e => ft e, fun _ => ?_⟩
    conv => whnf
    refine ⟨fun e => ft e, fun _ => ?_⟩
    conv => whnf
    refine ⟨smallL (by simp), ?_⟩
    conv => whnf
    refine ⟨fun e => ft e, fun _ => ?_⟩
    conv => whnf
    refine ⟨fun e => ft e, fun _ => ?_⟩
    conv => whnf
    exact nw_ret e2.symm ⟨t, ht⟩ (fun x y z e => by subst e; cases ht; exact absurd rfl hne) h
  · conv => whnf
    refine ⟨fun _ => ?_, fun e => tf e⟩
    conv => whnf
    have e3 : decide ((ds.length : Int) = 3) = false := decide_eq_false (by omega)
    rw [e3]
    refine ⟨fun e => ft e, fun _ => ?_⟩
    conv => whnf
    refine ⟨smallL (by simp), ?_⟩
    conv => whnf
    refine ⟨fun e => ft e, fun _ => ?_⟩
    conv => whnf
    refine ⟨fun e => ft e, fun _ => ?_⟩
    conv => whnf
    exact nw_ret (wy_len hl).symm ⟨_, rfl⟩ (fun x y z e => by injection e with e; subst e; exact absurd rfl hl) h
  · have he : ∀ e ∈ [x, y, z], E3 e := by
      intro e h
      simp only [List.mem_cons, List.not_mem_nil, or_false] at h
      rcases h with rfl | rfl | rfl
      · exact ex
      · exact ey
      · exact ez
    have ret : ∀ {o8 o9 : Option D} {w : Bool}, w = wyB (.tup [x, y, z]) → t_nw_ret sp_is_way { nx := N, rt := Q } [o0, o1, o2, o3, o4, o5, some (.tup [x, y, z]), some (.bl w), o8, o9] G := fun hw =>
      nw_ret hw ⟨_, rfl⟩ (fun x' y' z' e => by injection e with e; cases e; exact ⟨ex.tg G, ey.tg G, ez.tg G⟩) h
    conv => whnf
    refine ⟨fun _ => ?_, fun e => tf e⟩
    conv => whnf
    refine ⟨fun _ => ?_, fun e => tf e⟩
    conv => whnf
    refine lc_map (enc := fun e : D => e) (keep := fun e => !plB e) (f := fun e => e) (xs := [x, y, z]) (smallL (by simp)) trivial (fun e hm R hR => ?_) (fun e _ _ R hR => hR) ?_
    · rcases he e hm with ⟨i, rfl, _⟩ | ⟨_, ⟨b, rfl⟩ | ⟨s, rfl⟩ | ⟨ds, rfl⟩⟩
      · exact hR
      · exact hR
      · exact hR
      · exact hR
    have hf : ∀ e ∈ ([x, y, z].filter fun e => !plB e).map fun e => e, ∃ pd, (∀ G, DD G e pd) ∧ Shp 3 pd := fun e hm => by
      rw [List.map_id'] at hm
      obtain ⟨h1, h2⟩ := List.mem_filter.mp hm
      exact (he e h1).no (by simpa using h2)
    conv => whnf
    refine ⟨fun _ => ?_, fun e => tf e⟩
    conv => whnf
    refine ⟨smallL (by simp), ?_⟩
    conv => whnf
    refine ⟨_, eqb_oddL hf, ?_⟩
    cases hx : plB x with
    | false =>
      have e : (([x, y, z].filter fun e => !plB e).map fun e => e).isEmpty = false := by rw [List.filter_cons, hx]; rfl
      rw [e]
      conv => whnf
      refine ⟨fun e => ft e, fun _ => ?_⟩
      conv => whnf
      exact ret (wy_np (.inl hx)).symm
    | true =>
    cases hy : plB y with
    | false =>
      have e : (([x, y, z].filter fun e => !plB e).map fun e => e).isEmpty = false := by rw [List.filter_cons, hx, List.filter_cons, hy]; rfl
      rw [e]
      conv => whnf
      refine ⟨fun e => ft e, fun _ => ?_⟩
      conv => whnf
      exact ret (wy_np (.inr (.inl hy))).symm
    | true =>
    cases hz : plB z with
    | false =>
      have e : (([x, y, z].filter fun e => !plB e).map fun e => e).isEmpty = false := by rw [List.filter_cons, hx, List.filter_cons, hy, List.filter_cons, hz]; rfl
      rw [e]
      conv => whnf
      refine ⟨fun e => ft e, fun _ => ?_⟩
      conv => whnf
      exact ret (wy_np (.inr (.inr hz))).symm
    | true =>
    have e : (([x, y, z].filter fun e => !plB e).map fun e => e).isEmpty = true := by rw [List.filter_cons, hx, List.filter_cons, hy, List.filter_cons, hz]; rfl
    rw [e]
    cases x with
    | int i =>
      cases y with
      | int j =>
        cases z with
        | int l =>
          have si := (ex.tg G).2 i rfl
          have sj := (ey.tg G).2 j rfl
          have sl := (ez.tg G).2 l rfl
          have e0 : wyB (.tup [.int i, .int j, .int l]) = (decide (1 ≤ l) && (decide (l ≤ 1000) && decide (i * i + j * j = l * l))) := rfl
          conv => whnf
          refine ⟨fun _ => ?_, fun e => tf e⟩
          conv => whnf
          refine ⟨fun e1 => ?_, fun e1 => ?_⟩
          · have e1 : 0 < l := of_decide_eq_true e1
            conv => whnf
            refine ⟨fun e2 => ?_, fun e2 => ?_⟩
            · have e2 : l < 1001 := of_decide_eq_true e2
              conv => whnf
              refine ⟨mul400 si si, ?_⟩
              conv => whnf
              refine ⟨mul400 sj sj, ?_⟩
              conv => whnf
              refine ⟨mul400 sl sl, ?_⟩
              conv => whnf
              refine ret (w := decide (i * i + j * j = l * l)) ?_
              rw [e0, decide_eq_true (show 1 ≤ l by omega), decide_eq_true (show l ≤ 1000 by omega), Bool.true_and, Bool.true_and]
            · have e3 : ¬ l < 1001 := of_decide_eq_false e2
              refine ret (w := decide (l < 1001)) ?_
              rw [e0, decide_eq_false (show ¬ l ≤ 1000 by omega), decide_eq_false e3, Bool.false_and, Bool.and_false]
          · have e3 : ¬ 0 < l := of_decide_eq_false e1
            conv => whnf
            refine ⟨fun e => ft e, fun _ => ?_⟩
            conv => whnf
            refine ret (w := false) ?_
            rw [e0, decide_eq_false (show ¬ 1 ≤ l by omega), Bool.false_and]
        | _ => cases hz
      | _ => cases hy
    | _ => cases hx
theorem num_pd {i : Int} : ∃ pd, (∀ G, DD G (.str (Str.ofString (toString i))) pd) ∧ Shp 3 pd := by
  refine ⟨_, fun G => .str _, ?_, by simp [PyData.depth]⟩
  have h : (Str.ofString (toString i)).cps.toList.all (· < 0x110000) = true := by
    rw [List.all_eq_true]
    intro c hc
    rw [PySem.Str.ofString_eq_toList] at hc
    have hc : c ∈ (toString i).toList.map Char.toNat := hc
    obtain ⟨a, _, rfl⟩ := List.mem_map.mp hc
    have := a.valid
    unfold UInt32.isValidChar Nat.isValidChar at this
    refine decide_eq_true ?_
    show a.val.toNat < _
    omega
  rw [Array.all_toList] at h
  simpa only [PyData.canLay0, PyData.strOk] using h
theorem E3.i {i : Int} (h : i.natAbs < 2 ^ 100) : E3 (.int i) := .inl ⟨i, rfl, h⟩
theorem E3.b (b : Bool) : E3 (.bl b) := .inr ⟨⟨_, fun _ => .bl b, .bl b⟩, .inl ⟨b, rfl⟩⟩
def prNoWay (x s : D) (G : GHp) (Q : DK) : Prop := ∃ (G0 : GHp) (p : Addr) (k : Nat) (a b l : Int), x = .ref p ∧ s = wyD a b l ∧ Way a b l ∧ Bk G0 p k G ∧ k < 600000 ∧ ∀ G1 G', Bk G1 p (k + 1) G' → Q (.bl true) G'
abbrev sp_law_no_way : DSp := sp2 fun x s G Q _ => prNoWay x s G Q
theorem rd_noG {sp : DSp} (hsp : ∀ ds G Q E, spTake ds G Q E → sp ds G Q E) : ∀ x s G Q (E : DXK), prNoWay x s G Q → DRun (t_law_no_way sp sp_is_way) [some x, some s, none, none, none, none, none, none, none, none] G Q := by
  rintro x s G Q E ⟨G0, p, k, a, b, l, rfl, rfl, w, B, hk, h⟩
  have na := num11 w.sa
  have nb := num11 w.sb
  have nl := num11 w.sl
  have p100 : (5000 : Nat) < 2 ^ 100 := by decide
  have la : a.natAbs.log2 < 1920 := Nat.lt_trans (lg2 (Nat.lt_trans na (by decide))) (by decide)
  conv => whnf
  repeat (refine ⟨by first | exact smallL (by simp) | exact la, ?_⟩; conv => whnf)
  intro p1 e1
  have n1 := B.ne e1
  have B := B.new (o := .dK []) n1
  conv => whnf
  repeat (refine ⟨by first | exact smallL (by simp) | exact la, ?_⟩; conv => whnf)
  refine tk hsp B (by omega) (by omega) (by omega) fun v G v_0 v_1 B => ?_
  conv => whnf
  have g1 : G p1 = some (.dK []) := by rw [B.2 p1 n1, gupd_same]
  have ea : E3 (.int a) := .i (by omega)
  have eb : E3 (.int b) := .i (by omega)
  have el : E3 (.int l) := .i (by omega)
  have el1 : E3 (.int (l + 1)) := .i (by omega)
  have el2 : E3 (.int (0 - l)) := .i (by omega)
  have eal : E3 (.int (a + l)) := .i (by omega)
  have s3 : ∀ {x y z : D}, E3 x → E3 y → E3 z → Nw G (.tup [x, y, z]) := fun h1 h2 h3 => .inr (.inr ⟨_, _, _, rfl, h1, h2, h3⟩)
  have es : E3 (.str (Str.ofString (toString a))) := .inr ⟨num_pd, .inr (.inl ⟨_, rfl⟩)⟩
  have et : E3 (.tup [.int a, .int 2]) := .inr ⟨⟨_, fun _ => .tup (.cons (.int _) (.cons (.int _) .nil)), (Shps.cons (.int _) (.cons (.int _) .nil) : Shps 2 _).tuple⟩, .inr (.inr ⟨_, rfl⟩)⟩
  refine atD_of v_0 (by simp; omega) fun d hd => ?_
  have hN : Nw G d := by
    simp only [List.mem_append, List.mem_cons, List.not_mem_nil, or_false] at hd
    rcases hd with ((rfl | rfl | rfl | rfl | rfl | rfl | rfl | rfl) | (rfl | rfl | rfl | rfl | rfl | rfl | rfl)) | (rfl | rfl | rfl | rfl | rfl | rfl)
    · exact .inr (.inl ⟨_, rfl, by simp⟩)
    · exact s3 ea eb el2
    · exact s3 ea eb el1
    · exact .inl ⟨_, rfl, by decide⟩
    · exact .inr (.inl ⟨_, rfl, by simp⟩)
    · exact s3 es eb el
    · exact .inl ⟨_, rfl, by decide⟩
    · exact .inl ⟨.dct, by unfold tgOf; simp only [g1], by decide⟩
    · exact s3 ea eb (.b _)
    · exact s3 et eb el
    · exact s3 eal eb el
    · exact .inl ⟨_, rfl, by decide⟩
    · exact .inl ⟨_, rfl, by decide⟩
    · exact s3 (.i (by decide)) (.i (by decide)) (.i (by decide))
    · exact s3 (.i (by decide)) (.i (by decide)) (.i (by decide))
    · exact s3 (.b _) (.i (by decide)) (.i (by decide))
    · exact s3 (.i (by decide)) (.b _) (.i (by decide))
    · exact s3 (.b _) (.i (by decide)) (.i (by decide))
    · exact s3 eb ea el
    · exact .inl ⟨_, rfl, by decide⟩
    · exact s3 (.i (by decide)) (.i (by decide)) (.i (by decide))
  exact nw_end hN (h _ _ B)
theorem rd_law_no_way : ∀ x s G Q (E : DXK), prNoWay x s G Q → DRun (t_law_no_way sp_law_take sp_is_way) [some x, some s, none, none, none, none, none, none, none, none] G Q := rd_noG fun _ _ _ _ h => h
abbrev sp_law_asked_one : DSp := sp1 fun x G Q _ => pr_asked x G Q
theorem rd_asked_oneG {K : PySem.W.Frag} {sp sf ss sd : DSp} (hsp : ∀ ds G Q E, spTake ds G Q E → sp ds G Q E) (hf : ∀ ds G Q E, sp_law_far ds G Q E → sf ds G Q E) (hl : ∀ ds G Q E, sp_law_slope ds G Q E → ss ds G Q E) (hd : ∀ ds G Q E, sp_law_drawn ds G Q E → sd ds G Q E) :
    ∀ x G Q (E : DXK), pr_asked x G Q → DRun (t_law_asked_one K sp_law_box sp_law_cell ss sd sp_law_way_right sp sf sp_law_no_way sp_law_right) [some x, none, none, none, none, none] G Q := by
  rintro x G Q E ⟨ns, rfl, hsl, hG, h⟩
  have hml : (ns.map D.int).length = ns.length := List.length_map ..
  have p150 : (2 : Nat) ^ 110 < 2 ^ 150 := by decide
  have p3 := p31
  conv => whnf
  refine ⟨smallL (by simp), ?_⟩
  conv => whnf
  refine ⟨_, eqb_way 1 0 1, ?_⟩
  conv => whnf
  refine ⟨fun e => ft e, fun _ => ?_⟩
  conv => whnf
  refine ⟨smallL (by simp), ?_⟩
  conv => whnf
  refine ⟨_, eqb_way 0 1 1, ?_⟩
  conv => whnf
  refine ⟨fun e => ft e, fun _ => ?_⟩
  conv => whnf
  refine ⟨by unfold RgB; omega, ?_⟩
  refine for_ind (enc := fun (i : Nat) => D.int (0 + i)) (fun r δ G' => (∀ j ∈ r, j ≤ 100) ∧ ∃ o1 o2 o3 o4 o5, δ = [some (.scr (ns.map .int)), o1, o2, o3, o4, o5]) ?_ ?_ (List.range _) _ _
    ⟨fun j hj => by have := List.mem_range.mp hj; omega, _, _, _, _, _, rfl⟩
  · rintro δ G' ⟨_, o1, o2, o3, o4, o5, rfl⟩
    refine ⟨trivial, ?_⟩
    conv => whnf
    refine ⟨_, G, View.tree (fun _ => True) (fun a _ => hG a) (fun a o e => by rw [hG] at e; cases e) (TreeSt.same _), ?_⟩
    exact h
  · rintro j r δ G' ⟨hj, o1, o2, o3, o4, o5, rfl⟩
    have hj0 := hj j List.mem_cons_self
    refine ⟨trivial, _, rfl, fun N hN => ?_⟩
    conv => whnf
    refine ⟨ns, 0 + j, rfl, rfl, by omega, by omega, fun z => ?_⟩
    conv => whnf
    refine ⟨z, rfl, fun p s hp hs => ?_⟩
    have B : Bk G' p 0 (gupd G' p s.go) := ⟨⟨s, gupd_same, hs⟩, fun b hb => gupd_ne hb⟩
    conv => whnf
    generalize gupd G' p s.go = G at B ⊢
    refine sl hl B (by omega) fun a b l G wa B => ?_
    conv => whnf
    refine sl hl B (by omega) fun c d m G wb B => ?_
    conv => whnf
    have na := num11 wa.sa
    have nb := num11 wa.sb
    have nd := num11 wb.sb
    refine dr hd B (by omega) fun x G sx B => ?_
    conv => whnf
    refine dr hd B (by omega) fun y G sy B => ?_
    refine ⟨smallL (by simp), ?_⟩
    conv => whnf
    refine ⟨a, b, rfl, rfl, by omega, by omega, ?_⟩
    conv => whnf
    refine ⟨fun e => ft e, fun _ => ?_⟩
    conv => whnf
    refine ⟨a + 1, d, rfl, rfl, by omega, by omega, ?_⟩
    conv => whnf
    refine ⟨fun e => ft e, fun _ => ?_⟩
    conv => whnf
    refine fr hf B (by omega) fun far G hfar B => ?_
    conv => whnf
    refine tk hsp B (by omega) (by omega) (by omega) fun v G v_0 v_1 B => ?_
    conv => whnf
    refine ⟨far, v, rfl, rfl, by omega, by omega, ?_⟩
    conv => whnf
    refine ⟨fun e => ft e, fun _ => ?_⟩
    conv => whnf
    refine ⟨_, p, _, a, b, l, rfl, rfl, wa, B, by omega, fun G1 G B => ?_⟩
    conv => whnf
    refine ⟨fun e => ft e, fun _ => ?_⟩
    conv => whnf
    refine dr hd B (by omega) fun q G sq B => ?_
    conv => whnf
    refine ⟨x, y, q, a, b, l, c, d, m, rfl, rfl, rfl, rfl, wa, wb, sx.mono (by decide), sy.mono (by decide), sq.mono (by decide), ?_⟩
    conv => whnf
    refine ⟨fun e => ft e, fun _ => ?_⟩
    conv => whnf
    exact hN _ _ ⟨fun j hj2 => hj j (List.mem_cons_of_mem _ hj2), _, _, _, _, _, rfl⟩
theorem rd_law_asked_one {K : PySem.W.Frag} : ∀ x G Q (E : DXK), pr_asked x G Q → DRun (t_law_asked_one K sp_law_box sp_law_cell sp_law_slope sp_law_drawn sp_law_way_right sp_law_take sp_law_far sp_law_no_way sp_law_right) [some x, none, none, none, none, none] G Q :=
  rd_asked_oneG (fun _ _ _ _ h => h) (fun _ _ _ _ h => h) (fun _ _ _ _ h => h) fun _ _ _ _ h => h
abbrev sp_law : DSp := spLaw 63
theorem rd_law : ∀ a G Q (E : DXK), (∃ ns : List Int, a = D.scr (ns.map .int) ∧ ns.length ≤ 63 ∧ (∀ z ∈ ns, Builtin.Int.intBits z ≤ 1048576) ∧ (∀ a, G a = none) ∧ Q (.bl true) G) → DRun (t_law sp_law_asked_one sp_law_asked_two) [some a] G Q := by
  rintro a G Q E ⟨ns, rfl, hl, _, hG, h⟩
  conv => whnf
  refine ⟨ns, rfl, hl, hG, ?_⟩
  conv => whnf
  refine ⟨fun _ => ?_, fun e => tf e⟩
  conv => whnf
  exact ⟨ns, rfl, hl, hG, h⟩
end K05
set_option Elab.async false
set_option linter.all false
set_option maxRecDepth 100000
set_option maxHeartbeats 4000000
namespace K05
open PySem PySem.Spec L2 DL
def topS (i : Nat) : Stmt := PySem.Challenge.pw_hintscribe_k05_ways_measures_places_move.main.body.getD i (.Pass ⟨0, 0, 0, 0⟩)
abbrev s_law_box : Stmt := topS 30
abbrev N_law_box : List Str := ["cell"]
abbrev P_law_box : List Str := ["cell"]
theorem sc_law_box : FnScope N_law_box P_law_box (defScope s_law_box) := ⟨rfl, rfl, rfl, by decide +kernel, rfl, by decide +kernel, by decide +kernel⟩
abbrev s_law_cell : Stmt := topS 29
abbrev N_law_cell : List Str := ["script", "k"]
abbrev P_law_cell : List Str := ["script", "k"]
theorem sc_law_cell : FnScope N_law_cell P_law_cell (defScope s_law_cell) := ⟨rfl, rfl, rfl, by decide +kernel, rfl, by decide +kernel, by decide +kernel⟩
abbrev s_law_take : Stmt := topS 31
abbrev N_law_take : List Str := ["box", "many", "digit", "number"]
abbrev P_law_take : List Str := ["box", "many"]
theorem sc_law_take : FnScope N_law_take P_law_take (defScope s_law_take) := ⟨rfl, rfl, rfl, by decide +kernel, rfl, by decide +kernel, by decide +kernel⟩
abbrev s_law_slope : Stmt := topS 39
abbrev N_law_slope : List Str := ["box", "turn", "a", "b", "many", "size", "m", "n"]
abbrev P_law_slope : List Str := ["box"]
theorem sc_law_slope : FnScope N_law_slope P_law_slope (defScope s_law_slope) := ⟨rfl, rfl, rfl, by decide +kernel, rfl, by decide +kernel, by decide +kernel⟩
abbrev s_law_far : Stmt := topS 32
abbrev N_law_far : List Str := ["box", "number", "k"]
abbrev P_law_far : List Str := ["box"]
theorem sc_law_far : FnScope N_law_far P_law_far (defScope s_law_far) := ⟨rfl, rfl, rfl, by decide +kernel, rfl, by decide +kernel, by decide +kernel⟩
abbrev s_law_number : Stmt := topS 33
abbrev N_law_number : List Str := ["upper", "lower", "left", "right"]
abbrev P_law_number : List Str := ["upper", "lower"]
theorem sc_law_number : FnScope N_law_number P_law_number (defScope s_law_number) := ⟨rfl, rfl, rfl, by decide +kernel, rfl, by decide +kernel, by decide +kernel⟩
abbrev s_law_drawn : Stmt := topS 36
abbrev N_law_drawn : List Str := ["box", "upper", "lower"]
abbrev P_law_drawn : List Str := ["box"]
theorem sc_law_drawn : FnScope N_law_drawn P_law_drawn (defScope s_law_drawn) := ⟨rfl, rfl, rfl, by decide +kernel, rfl, by decide +kernel, by decide +kernel⟩
abbrev s_law_long : Stmt := topS 40
abbrev N_law_long : List Str := ["a", "b", "square", "found", "size"]
abbrev P_law_long : List Str := ["a", "b"]
theorem sc_law_long : FnScope N_law_long P_law_long (defScope s_law_long) := ⟨rfl, rfl, rfl, by decide +kernel, rfl, by decide +kernel, by decide +kernel⟩
abbrev s_is_plain : Stmt := topS 7
abbrev N_is_plain : List Str := ["thing"]
abbrev P_is_plain : List Str := ["thing"]
theorem sc_is_plain : FnScope N_is_plain P_is_plain (defScope s_is_plain) := ⟨rfl, rfl, rfl, by decide +kernel, rfl, by decide +kernel, by decide +kernel⟩
abbrev s_is_whole : Stmt := topS 8
abbrev N_is_whole : List Str := ["thing", "low", "high"]
abbrev P_is_whole : List Str := ["thing", "low", "high"]
theorem sc_is_whole : FnScope N_is_whole P_is_whole (defScope s_is_whole) := ⟨rfl, rfl, rfl, by decide +kernel, rfl, by decide +kernel, by decide +kernel⟩
abbrev s_is_way : Stmt := topS 21
abbrev N_is_way : List Str := ["thing", "a", "b", "long"]
abbrev P_is_way : List Str := ["thing"]
theorem sc_is_way : FnScope N_is_way P_is_way (defScope s_is_way) := ⟨rfl, rfl, rfl, by decide +kernel, rfl, by decide +kernel, by decide +kernel⟩
abbrev s_way_of : Stmt := topS 23
abbrev N_way_of : List Str := ["a", "b", "long"]
abbrev P_way_of : List Str := ["a", "b"]
theorem sc_way_of : FnScope N_way_of P_way_of (defScope s_way_of) := ⟨rfl, rfl, rfl, by decide +kernel, rfl, by decide +kernel, by decide +kernel⟩
abbrev s_law_way_right : Stmt := topS 41
abbrev N_law_way_right : List Str := ["a", "b", "size", "caught", "answer", "e"]
abbrev P_law_way_right : List Str := ["a", "b"]
theorem sc_law_way_right : FnScope N_law_way_right P_law_way_right (defScope s_law_way_right) := ⟨rfl, rfl, rfl, by decide +kernel, rfl, by decide +kernel, by decide +kernel⟩
abbrev s_law_no_way : Stmt := topS 42
abbrev N_law_no_way : List Str := ["box", "slope", "a", "b", "size", "some", "thing", "due", "odd", "one"]
abbrev P_law_no_way : List Str := ["box", "slope"]
theorem sc_law_no_way : FnScope N_law_no_way P_law_no_way (defScope s_law_no_way) := ⟨rfl, rfl, rfl, by decide +kernel, rfl, by decide +kernel, by decide +kernel⟩
abbrev s_law_pair : Stmt := topS 34
abbrev N_law_pair : List Str := ["number"]
abbrev P_law_pair : List Str := ["number"]
theorem sc_law_pair : FnScope N_law_pair P_law_pair (defScope s_law_pair) := ⟨rfl, rfl, rfl, by decide +kernel, rfl, by decide +kernel, by decide +kernel⟩
abbrev s_law_product : Stmt := topS 38
abbrev N_law_product : List Str := ["first", "second", "a", "b", "c", "d"]
abbrev P_law_product : List Str := ["first", "second"]
theorem sc_law_product : FnScope N_law_product P_law_product (defScope s_law_product) := ⟨rfl, rfl, rfl, by decide +kernel, rfl, by decide +kernel, by decide +kernel⟩
abbrev s_law_sum : Stmt := topS 37
abbrev N_law_sum : List Str := ["first", "second", "a", "b", "c", "d"]
abbrev P_law_sum : List Str := ["first", "second"]
theorem sc_law_sum : FnScope N_law_sum P_law_sum (defScope s_law_sum) := ⟨rfl, rfl, rfl, by decide +kernel, rfl, by decide +kernel, by decide +kernel⟩
abbrev s_law_slid : Stmt := topS 44
abbrev N_law_slid : List Str := ["place", "far", "slope", "each"]
abbrev P_law_slid : List Str := ["place", "far", "slope"]
theorem sc_law_slid : FnScope N_law_slid P_law_slid (defScope s_law_slid) := ⟨rfl, rfl, rfl, by decide +kernel, rfl, by decide +kernel, by decide +kernel⟩
abbrev s_common_part : Stmt := topS 9
abbrev N_common_part : List Str := ["one", "other"]
abbrev P_common_part : List Str := ["one", "other"]
theorem sc_common_part : FnScope N_common_part P_common_part (defScope s_common_part) := ⟨rfl, rfl, rfl, by decide +kernel, rfl, by decide +kernel, by decide +kernel⟩
abbrev s_is_part : Stmt := topS 10
abbrev N_is_part : List Str := ["thing", "top", "base"]
abbrev P_is_part : List Str := ["thing"]
theorem sc_is_part : FnScope N_is_part P_is_part (defScope s_is_part) := ⟨rfl, rfl, rfl, by decide +kernel, rfl, by decide +kernel, by decide +kernel⟩
abbrev s_is_number : Stmt := topS 11
abbrev N_is_number : List Str := ["thing"]
abbrev P_is_number : List Str := ["thing"]
theorem sc_is_number : FnScope N_is_number P_is_number (defScope s_is_number) := ⟨rfl, rfl, rfl, by decide +kernel, rfl, by decide +kernel, by decide +kernel⟩
abbrev s_is_place : Stmt := topS 22
abbrev N_is_place : List Str := ["thing"]
abbrev P_is_place : List Str := ["thing"]
theorem sc_is_place : FnScope N_is_place P_is_place (defScope s_is_place) := ⟨rfl, rfl, rfl, by decide +kernel, rfl, by decide +kernel, by decide +kernel⟩
abbrev s_need_way : Stmt := topS 24
abbrev N_need_way : List Str := ["way"]
abbrev P_need_way : List Str := ["way"]
theorem sc_need_way : FnScope N_need_way P_need_way (defScope s_need_way) := ⟨rfl, rfl, rfl, by decide +kernel, rfl, by decide +kernel, by decide +kernel⟩
abbrev s_pair_of : Stmt := topS 13
abbrev N_pair_of : List Str := ["number"]
abbrev P_pair_of : List Str := ["number"]
theorem sc_pair_of : FnScope N_pair_of P_pair_of (defScope s_pair_of) := ⟨rfl, rfl, rfl, by decide +kernel, rfl, by decide +kernel, by decide +kernel⟩
abbrev s_reckoned : Stmt := topS 12
abbrev N_reckoned : List Str := ["top", "base", "part"]
abbrev P_reckoned : List Str := ["top", "base"]
theorem sc_reckoned : FnScope N_reckoned P_reckoned (defScope s_reckoned) := ⟨rfl, rfl, rfl, by decide +kernel, rfl, by decide +kernel, by decide +kernel⟩
abbrev s_over : Stmt := topS 16
abbrev N_over : List Str := ["one", "other", "top", "base", "more", "under"]
abbrev P_over : List Str := ["one", "other"]
theorem sc_over : FnScope N_over P_over (defScope s_over) := ⟨rfl, rfl, rfl, by decide +kernel, rfl, by decide +kernel, by decide +kernel⟩
abbrev s_plus : Stmt := topS 14
abbrev N_plus : List Str := ["one", "other", "top", "base", "more", "under"]
abbrev P_plus : List Str := ["one", "other"]
theorem sc_plus : FnScope N_plus P_plus (defScope s_plus) := ⟨rfl, rfl, rfl, by decide +kernel, rfl, by decide +kernel, by decide +kernel⟩
abbrev s_times : Stmt := topS 15
abbrev N_times : List Str := ["one", "other", "top", "base", "more", "under"]
abbrev P_times : List Str := ["one", "other"]
theorem sc_times : FnScope N_times P_times (defScope s_times) := ⟨rfl, rfl, rfl, by decide +kernel, rfl, by decide +kernel, by decide +kernel⟩
abbrev s_slide : Stmt := topS 26
abbrev N_slide : List Str := ["place", "by", "way", "a", "b", "long", "each"]
abbrev P_slide : List Str := ["place", "by", "way"]
theorem sc_slide : FnScope N_slide P_slide (defScope s_slide) := ⟨rfl, rfl, rfl, by decide +kernel, rfl, by decide +kernel, by decide +kernel⟩
abbrev s_law_is : Stmt := topS 35
abbrev N_law_is : List Str := ["found", "due"]
abbrev P_law_is : List Str := ["found", "due"]
theorem sc_law_is : FnScope N_law_is P_law_is (defScope s_law_is) := ⟨rfl, rfl, rfl, by decide +kernel, rfl, by decide +kernel, by decide +kernel⟩
abbrev s_law_place_is : Stmt := topS 45
abbrev N_law_place_is : List Str := ["found", "due"]
abbrev P_law_place_is : List Str := ["found", "due"]
theorem sc_law_place_is : FnScope N_law_place_is P_law_place_is (defScope s_law_place_is) := ⟨rfl, rfl, rfl, by decide +kernel, rfl, by decide +kernel, by decide +kernel⟩
abbrev s_law_measure : Stmt := topS 43
abbrev N_law_measure : List Str := ["place", "slope", "x", "y", "along"]
abbrev P_law_measure : List Str := ["place", "slope"]
theorem sc_law_measure : FnScope N_law_measure P_law_measure (defScope s_law_measure) := ⟨rfl, rfl, rfl, by decide +kernel, rfl, by decide +kernel, by decide +kernel⟩
abbrev s_measure : Stmt := topS 25
abbrev N_measure : List Str := ["place", "way", "a", "b", "long"]
abbrev P_measure : List Str := ["place", "way"]
theorem sc_measure : FnScope N_measure P_measure (defScope s_measure) := ⟨rfl, rfl, rfl, by decide +kernel, rfl, by decide +kernel, by decide +kernel⟩
abbrev s_law_right : Stmt := topS 46
abbrev N_law_right : List Str := ["place", "far", "slope", "second", "due", "found", "one", "other"]
abbrev P_law_right : List Str := ["place", "far", "slope", "second"]
theorem sc_law_right : FnScope N_law_right P_law_right (defScope s_law_right) := ⟨rfl, rfl, rfl, by decide +kernel, rfl, by decide +kernel, by decide +kernel⟩
abbrev s_law_asked_one : Stmt := topS 47
abbrev N_law_asked_one : List Str := ["script", "k", "box", "slope", "second", "place"]
abbrev P_law_asked_one : List Str := ["script"]
theorem sc_law_asked_one : FnScope N_law_asked_one P_law_asked_one (defScope s_law_asked_one) := ⟨rfl, rfl, rfl, by decide +kernel, rfl, by decide +kernel, by decide +kernel⟩
abbrev s_law_cell_two : Stmt := topS 48
abbrev N_law_cell_two : List Str := ["script", "k"]
abbrev P_law_cell_two : List Str := ["script", "k"]
theorem sc_law_cell_two : FnScope N_law_cell_two P_law_cell_two (defScope s_law_cell_two) := ⟨rfl, rfl, rfl, by decide +kernel, rfl, by decide +kernel, by decide +kernel⟩
abbrev s_law_take_two : Stmt := topS 49
abbrev N_law_take_two : List Str := ["box", "many", "digit", "number"]
abbrev P_law_take_two : List Str := ["box", "many"]
theorem sc_law_take_two : FnScope N_law_take_two P_law_take_two (defScope s_law_take_two) := ⟨rfl, rfl, rfl, by decide +kernel, rfl, by decide +kernel, by decide +kernel⟩
abbrev s_law_slope_two : Stmt := topS 52
abbrev N_law_slope_two : List Str := ["box", "turn", "a", "b", "many", "size", "m", "n"]
abbrev P_law_slope_two : List Str := ["box"]
theorem sc_law_slope_two : FnScope N_law_slope_two P_law_slope_two (defScope s_law_slope_two) := ⟨rfl, rfl, rfl, by decide +kernel, rfl, by decide +kernel, by decide +kernel⟩
abbrev s_law_far_two : Stmt := topS 50
abbrev N_law_far_two : List Str := ["box", "number", "k"]
abbrev P_law_far_two : List Str := ["box"]
theorem sc_law_far_two : FnScope N_law_far_two P_law_far_two (defScope s_law_far_two) := ⟨rfl, rfl, rfl, by decide +kernel, rfl, by decide +kernel, by decide +kernel⟩
abbrev s_law_drawn_two : Stmt := topS 51
abbrev N_law_drawn_two : List Str := ["box", "upper", "lower"]
abbrev P_law_drawn_two : List Str := ["box"]
theorem sc_law_drawn_two : FnScope N_law_drawn_two P_law_drawn_two (defScope s_law_drawn_two) := ⟨rfl, rfl, rfl, by decide +kernel, rfl, by decide +kernel, by decide +kernel⟩
abbrev s_moved : Stmt := topS 27
abbrev N_moved : List Str := ["place", "by", "move", "along", "gain"]
abbrev P_moved : List Str := ["place", "by", "move", "along"]
theorem sc_moved : FnScope N_moved P_moved (defScope s_moved) := ⟨rfl, rfl, rfl, by decide +kernel, rfl, by decide +kernel, by decide +kernel⟩
abbrev s_law_refused : Stmt := topS 56
abbrev N_law_refused : List Str := ["place", "far", "path", "gauge", "e"]
abbrev P_law_refused : List Str := ["place", "far", "path", "gauge"]
theorem sc_law_refused : FnScope N_law_refused P_law_refused (defScope s_law_refused) := ⟨rfl, rfl, rfl, by decide +kernel, rfl, by decide +kernel, by decide +kernel⟩
abbrev s_law_plain_place : Stmt := topS 54
abbrev N_law_plain_place : List Str := ["place", "number", "a", "b"]
abbrev P_law_plain_place : List Str := ["place"]
theorem sc_law_plain_place : FnScope N_law_plain_place P_law_plain_place (defScope s_law_plain_place) := ⟨rfl, rfl, rfl, by decide +kernel, rfl, by decide +kernel, by decide +kernel⟩
abbrev s_law_measure_two : Stmt := topS 53
abbrev N_law_measure_two : List Str := ["place", "slope", "far"]
abbrev P_law_measure_two : List Str := ["place", "slope"]
theorem sc_law_measure_two : FnScope N_law_measure_two P_law_measure_two (defScope s_law_measure_two) := ⟨rfl, rfl, rfl, by decide +kernel, rfl, by decide +kernel, by decide +kernel⟩
abbrev s_law_moved_right : Stmt := topS 55
abbrev N_law_moved_right : List Str := ["found", "place", "far", "path", "gauge", "east", "north"]
abbrev P_law_moved_right : List Str := ["found", "place", "far", "path", "gauge"]
theorem sc_law_moved_right : FnScope N_law_moved_right P_law_moved_right (defScope s_law_moved_right) := ⟨rfl, rfl, rfl, by decide +kernel, rfl, by decide +kernel, by decide +kernel⟩
abbrev s_law_right_two : Stmt := topS 57
abbrev N_law_right_two : List Str := ["place", "far", "path", "gauge", "found"]
abbrev P_law_right_two : List Str := ["place", "far", "path", "gauge"]
theorem sc_law_right_two : FnScope N_law_right_two P_law_right_two (defScope s_law_right_two) := ⟨rfl, rfl, rfl, by decide +kernel, rfl, by decide +kernel, by decide +kernel⟩
abbrev s_law_left_out : Stmt := topS 58
abbrev N_law_left_out : List Str := ["place", "far", "path", "east"]
abbrev P_law_left_out : List Str := ["place", "far", "path"]
theorem sc_law_left_out : FnScope N_law_left_out P_law_left_out (defScope s_law_left_out) := ⟨rfl, rfl, rfl, by decide +kernel, rfl, by decide +kernel, by decide +kernel⟩
abbrev s_law_asked_two : Stmt := topS 59
abbrev N_law_asked_two : List Str := ["script", "k", "box", "turn", "path", "gauge", "place", "far"]
abbrev P_law_asked_two : List Str := ["script"]
theorem sc_law_asked_two : FnScope N_law_asked_two P_law_asked_two (defScope s_law_asked_two) := ⟨rfl, rfl, rfl, by decide +kernel, rfl, by decide +kernel, by decide +kernel⟩
abbrev s_law : Stmt := topS 60
abbrev N_law : List Str := ["script"]
abbrev P_law : List Str := ["script"]
theorem sc_law : FnScope N_law P_law (defScope s_law) := ⟨rfl, rfl, rfl, by decide +kernel, rfl, by decide +kernel, by decide +kernel⟩
def clsS (st : Stmt) (j : Nat) : Stmt := match st with
  | .ClassDef _ _ _ body _ _ _ _ _ _ _ => body.getD j (.Pass ⟨0, 0, 0, 0⟩)
  | s => s
abbrev si_NoWay : Stmt := clsS (topS 4) 0
abbrev Pi_NoWay : List Str := ["self", "found"]
theorem sci_NoWay : FnScope Pi_NoWay Pi_NoWay (defScope si_NoWay) := ⟨rfl, rfl, rfl, by decide +kernel, rfl, by decide +kernel, by decide +kernel⟩
/-- what the top has left -/
structure Tx (K : PySem.W.Frag) (mg : Str → Option Value) where
  law_box : FnT K mg "_law_box" s_law_box P_law_box
  law_cell : FnT K mg "_law_cell" s_law_cell P_law_cell
  law_take : FnT K mg "_law_take" s_law_take P_law_take
  law_slope : FnT K mg "_law_slope" s_law_slope P_law_slope
  law_far : FnT K mg "_law_far" s_law_far P_law_far
  law_number : FnT K mg "_law_number" s_law_number P_law_number
  law_drawn : FnT K mg "_law_drawn" s_law_drawn P_law_drawn
  law_long : FnT K mg "_law_long" s_law_long P_law_long
  is_plain : FnT K mg "is_plain" s_is_plain P_is_plain
  is_whole : FnT K mg "is_whole" s_is_whole P_is_whole
  is_way : FnT K mg "is_way" s_is_way P_is_way
  way_of : FnT K mg "way_of" s_way_of P_way_of
  law_way_right : FnT K mg "_law_way_right" s_law_way_right P_law_way_right
  law_no_way : FnT K mg "_law_no_way" s_law_no_way P_law_no_way
  law_pair : FnT K mg "_law_pair" s_law_pair P_law_pair
  law_product : FnT K mg "_law_product" s_law_product P_law_product
  law_sum : FnT K mg "_law_sum" s_law_sum P_law_sum
  law_slid : FnT K mg "_law_slid" s_law_slid P_law_slid
  common_part : FnT K mg "common_part" s_common_part P_common_part
  is_part : FnT K mg "is_part" s_is_part P_is_part
  is_number : FnT K mg "is_number" s_is_number P_is_number
  is_place : FnT K mg "is_place" s_is_place P_is_place
  need_way : FnT K mg "need_way" s_need_way P_need_way
  pair_of : FnT K mg "pair_of" s_pair_of P_pair_of
  reckoned : FnT K mg "reckoned" s_reckoned P_reckoned
  over : FnT K mg "over" s_over P_over
  plus : FnT K mg "plus" s_plus P_plus
  times : FnT K mg "times" s_times P_times
  slide : FnK K mg "slide" s_slide [("way", .ref (He.ga K "EAST"))]
  slide_kb0 : KBk K slide.fd P_slide 1 ["way", "by"] [0, 2, 1] []
  slide_kb1 : KBk K slide.fd P_slide 2 ["way"] [0, 1, 2] []
  slide_kb2 : KBk K slide.fd P_slide 2 [] [0, 1, 2] [.ref (He.ga K "EAST")]
  law_is : FnT K mg "_law_is" s_law_is P_law_is
  law_place_is : FnT K mg "_law_place_is" s_law_place_is P_law_place_is
  law_measure : FnT K mg "_law_measure" s_law_measure P_law_measure
  measure : FnT K mg "measure" s_measure P_measure
  law_right : FnT K mg "_law_right" s_law_right P_law_right
  law_asked_one : FnT K mg "_law_asked_one" s_law_asked_one P_law_asked_one
  law_cell_two : FnT K mg "_law_cell_two" s_law_cell_two P_law_cell_two
  law_take_two : FnT K mg "_law_take_two" s_law_take_two P_law_take_two
  law_slope_two : FnT K mg "_law_slope_two" s_law_slope_two P_law_slope_two
  law_far_two : FnT K mg "_law_far_two" s_law_far_two P_law_far_two
  law_drawn_two : FnT K mg "_law_drawn_two" s_law_drawn_two P_law_drawn_two
  moved : FnK K mg "moved" s_moved [("move", .ref (He.ga K "EAST")), ("along", .ref (He.ga K "EAST"))]
  moved_kb0 : KBk K moved.fd P_moved 2 ["along", "move"] [0, 1, 3, 2] []
  moved_kb1 : KBk K moved.fd P_moved 1 ["move", "by", "along"] [0, 2, 1, 3] []
  moved_kb2 : KBk K moved.fd P_moved 2 ["move", "along"] [0, 1, 2, 3] []
  moved_kb3 : KBk K moved.fd P_moved 2 [] [0, 1, 2, 3] [.ref (He.ga K "EAST"), .ref (He.ga K "EAST")]
  moved_kb4 : KBk K moved.fd P_moved 2 ["move"] [0, 1, 2, 3] [.ref (He.ga K "EAST")]
  moved_kb5 : KBk K moved.fd P_moved 2 ["along"] [0, 1, 3, 2] [.ref (He.ga K "EAST")]
  law_refused : FnT K mg "_law_refused" s_law_refused P_law_refused
  law_plain_place : FnT K mg "_law_plain_place" s_law_plain_place P_law_plain_place
  law_measure_two : FnT K mg "_law_measure_two" s_law_measure_two P_law_measure_two
  law_moved_right : FnT K mg "_law_moved_right" s_law_moved_right P_law_moved_right
  law_right_two : FnT K mg "_law_right_two" s_law_right_two P_law_right_two
  law_left_out : FnT K mg "_law_left_out" s_law_left_out P_law_left_out
  law_asked_two : FnT K mg "_law_asked_two" s_law_asked_two P_law_asked_two
  n_abs : mg "abs" = none
  n_bool : mg "bool" = none
  n_int : mg "int" = none
  n_isinstance : mg "isinstance" = none
  n_len : mg "len" = none
  n_max : mg "max" = none
  n_min : mg "min" = none
  n_range : mg "range" = none
  n_repr : mg "repr" = none
  n_str : mg "str" = none
  n_tuple : mg "tuple" = none
  t_MOST_LONG : Tok
  c_MOST_LONG : mg "MOST_LONG" = some (.int 1000 t_MOST_LONG)
  g_EAST : GTupI K mg "EAST" [1, 0, 1]
  g_NORTH : GTupI K mg "NORTH" [0, 1, 1]
  x_NoWay : XC1 K mg "NoWay" "FontError" "found"
  i_NoWay_fd : FuncData
  i_NoWay_F : FunD K "__init__" "NoWay.__init__" (defArgs si_NoWay) (defBody si_NoWay) (defScope si_NoWay) [] [] (He.fAd K ("NoWay", some "__init__")) i_NoWay_fd
  i_NoWay_b : Binds K i_NoWay_fd Pi_NoWay []
section
variable {P : Program} {w : World} {K : PySem.W.Frag} {mg : Str → Option Value} {base : Heap}
theorem ok_i_NoWay (T : Tx K mg) : FnOk P w K mg base CX0 1 (He.fAd K ("NoWay", some "__init__")) T.i_NoWay_fd Pi_NoWay (spI (He.ga K "NoWay") "found") :=
  ok_init1 (k := 0) (m := "no way") T.x_NoWay.o T.x_NoWay.no T.i_NoWay_F sci_NoWay fun cdv A outer s H E => pss_cons (ps_expr (pe_bsinit T.x_NoWay.bs rfl T.x_NoWay.bm (pa_cons (pe_var rfl (.inl rfl)) (pa_cons pe_str pa_nil)))) (pss_one (ps_ost (pe_var rfl (.inl rfl)) (pe_var rfl (.inl rfl))))
theorem ok_law_box (T : Tx K mg) : FnOk P w K mg base CX0 1 T.law_box.f T.law_box.fd P_law_box (cSp K sp_law_box) :=
  DFun.ok1 T.law_box.F sc_law_box rfl rfl (k := 0) (t := t_law_box) (fun cdv A outer s H E hr => 
    (dss_one (ds_ret (de_lstM (da_cons (de_callB (dcall_max2 rfl) (by rfl) T.n_max (by decide +kernel) (da_cons de_int (da_cons (de_op dop_sub (de_var (pv 0)) (de_op dop_pow de_int de_int)) da_nil))) (da_cons (de_op dop_mod (de_var (pv 0)) de_int) (da_cons de_int da_nil))))))) rd_law_box
theorem ok_law_cell (T : Tx K mg) : FnOk P w K mg base CX0 1 T.law_cell.f T.law_cell.fd P_law_cell (cSp K sp_law_cell) :=
  DFun.ok2 T.law_cell.F sc_law_cell rfl rfl (k := 0) (t := t_law_cell) (fun cdv A outer s H E hr => 
    (dss_cons (ds_if (dt_cmp dop_lt (de_var (pv 1)) (de_callB dcall_len (by rfl) T.n_len (by decide +kernel) (da_cons (de_var (pv 0)) da_nil)) (nomark _)) (dss_one (ds_ret (de_ix dix_seq (de_var (pv 0)) (de_var (pv 1)) (fun _ _ => rfl)))) dss_nil)
      (dss_one (ds_ret (de_op dop_add (de_op dop_mul de_int (de_var (pv 1))) de_int))))) rd_law_cell
theorem ok_law_take (T : Tx K mg) : FnOk P w K mg base CX0 1 T.law_take.f T.law_take.fd P_law_take (cSp K sp_law_take) :=
  DFun.ok2 T.law_take.F sc_law_take rfl rfl (k := 0) (t := t_law_take) (fun cdv A outer s H E hr => 
    (dss_cons (ds_if (dt_cmp dop_gt (de_ix dix_seq (de_var (pv 0)) de_int (fun _ _ => rfl)) de_int (nomark _)) (dss_cons (ds_set (i := 2) sc_law_take.nd rfl (by first | exact Or.inl rfl | exact Or.inr rfl) (de_op dop_mod (de_ix dix_seq (de_var (pv 0)) de_int (fun _ _ => rfl)) (de_var (pv 1))))
      (dss_cons (ds_sub (de_op dop_fdiv (de_ix dix_seq (de_var (pv 0)) de_int (fun _ _ => rfl)) (de_var (pv 1))) (de_var (pv 0)) de_int)
      (dss_one (ds_ret (de_var (pv 2)))))) dss_nil)
      (dss_cons (ds_sub (de_op dop_add (de_ix dix_seq (de_var (pv 0)) de_int (fun _ _ => rfl)) de_int) (de_var (pv 0)) de_int)
      (dss_cons (ds_set (i := 3) sc_law_take.nd rfl (by first | exact Or.inl rfl | exact Or.inr rfl) (de_op dop_mod (de_op dop_pow (de_op dop_add (de_op dop_add (de_ix dix_seq (de_var (pv 0)) de_int (fun _ _ => rfl)) (de_op dop_mul de_int (de_ix dix_seq (de_var (pv 0)) de_int (fun _ _ => rfl)))) de_int) de_int) de_int))
      (dss_cons (ds_set (i := 3) sc_law_take.nd rfl (by first | exact Or.inl rfl | exact Or.inr rfl) (de_op dop_mod (de_op dop_pow (de_op dop_add (de_var (pv 3)) (de_op dop_mul de_int (de_ix dix_seq (de_var (pv 0)) de_int (fun _ _ => rfl)))) de_int) de_int))
      (dss_one (ds_ret (de_op dop_mod (de_op dop_fdiv (de_var (pv 3)) de_int) (de_var (pv 1)))))))))) rd_law_take
theorem ok_law_slope (T : Tx K mg) : FnOk P w K mg base CX0 2 T.law_slope.f T.law_slope.fd P_law_slope (cSp K sp_law_slope) :=
  DFun.ok1 T.law_slope.F sc_law_slope rfl rfl (k := 1) (t := t_law_slope sp_law_take) (fun cdv A outer s H E hr => 
    (dss_cons (ds_set (i := 1) sc_law_slope.nd rfl (by first | exact Or.inl rfl | exact Or.inr rfl) (de_call (ok_law_take T) (hr.mono (by decide)) rfl T.law_take.m T.law_take.F.kp T.law_take.b .nil (fun _ => .nil) pass0 (da_cons (de_var (pv 0)) (da_cons de_int da_nil))))
      (dss_cons (ds_if (dt_cmp (dop_eqQ hr.units) (de_var (pv 1)) de_int (nomark _)) (dss_cons (ds_asg (g := (.tp [(.nm 2), (.nm 3)])) (de_ix dix_seq (de_lst (da_cons (de_tup (da_cons de_int (da_cons de_int da_nil))) (da_cons (de_tup (da_cons de_int (da_cons de_int da_nil))) da_nil))) (de_call (ok_law_take T) (hr.mono (by decide)) rfl T.law_take.m T.law_take.F.kp T.law_take.b .nil (fun _ => .nil) pass0 (da_cons (de_var (pv 0)) (da_cons de_int da_nil))) (fun _ _ => rfl)) (pg_tp rfl (pgs_c (pg_nm (pg_name (i := 2) sc_law_slope.nd rfl (by first | exact Or.inl rfl | exact Or.inr rfl))) (pgs_c (pg_nm (pg_name (i := 3) sc_law_slope.nd rfl (by first | exact Or.inl rfl | exact Or.inr rfl))) pgs_n))))
      (dss_cons (ds_set (i := 4) sc_law_slope.nd rfl (by first | exact Or.inl rfl | exact Or.inr rfl) (de_ix dix_seq (de_lst (da_cons de_int (da_cons (de_op dop_add de_int (de_call (ok_law_take T) (hr.mono (by decide)) rfl T.law_take.m T.law_take.F.kp T.law_take.b .nil (fun _ => .nil) pass0 (da_cons (de_var (pv 0)) (da_cons de_int da_nil)))) da_nil))) (de_call (ok_law_take T) (hr.mono (by decide)) rfl T.law_take.m T.law_take.F.kp T.law_take.b .nil (fun _ => .nil) pass0 (da_cons (de_var (pv 0)) (da_cons de_int da_nil))) (fun _ _ => rfl)))
      (dss_one (ds_par3 (i := 2) (j := 3) (l := 5) rfl sc_law_slope.nd rfl rfl rfl (by decide) (by decide) (by decide) rfl rfl rfl (da_cons (de_op dop_mul (de_var (pv 2)) (de_var (pv 4))) (da_cons (de_op dop_mul (de_var (pv 3)) (de_var (pv 4))) (da_cons (de_var (pv 4)) da_nil))) (by rfl))))) (dss_cons (ds_par (i := 6) (j := 7) rfl sc_law_slope.nd rfl rfl (by decide) rfl rfl (da_cons (de_op dop_add de_int (de_call (ok_law_take T) (hr.mono (by decide)) rfl T.law_take.m T.law_take.F.kp T.law_take.b .nil (fun _ => .nil) pass0 (da_cons (de_var (pv 0)) (da_cons de_int da_nil)))) (da_cons (de_op dop_add de_int (de_call (ok_law_take T) (hr.mono (by decide)) rfl T.law_take.m T.law_take.F.kp T.law_take.b .nil (fun _ => .nil) pass0 (da_cons (de_var (pv 0)) (da_cons de_int da_nil)))) da_nil)) (by rfl))
      (dss_cons (ds_if (dt_cmp (dop_eqQ hr.units) (de_var (pv 7)) (de_var (pv 6)) (nomark _)) (dss_one (ds_set (i := 7) sc_law_slope.nd rfl (by first | exact Or.inl rfl | exact Or.inr rfl) de_int)) dss_nil)
      (dss_cons (ds_set (i := 5) sc_law_slope.nd rfl (by first | exact Or.inl rfl | exact Or.inr rfl) (de_op dop_add (de_op dop_mul (de_var (pv 6)) (de_var (pv 6))) (de_op dop_mul (de_var (pv 7)) (de_var (pv 7)))))
      (dss_cons (ds_set (i := 4) sc_law_slope.nd rfl (by first | exact Or.inl rfl | exact Or.inr rfl) (de_op dop_add de_int (de_call (ok_law_take T) (hr.mono (by decide)) rfl T.law_take.m T.law_take.F.kp T.law_take.b .nil (fun _ => .nil) pass0 (da_cons (de_var (pv 0)) (da_cons (de_op dop_fdiv de_int (de_var (pv 5))) da_nil)))))
      (dss_cons (ds_set (i := 2) sc_law_slope.nd rfl (by first | exact Or.inl rfl | exact Or.inr rfl) (de_op dop_mul (de_callB dcall_abs (by rfl) T.n_abs (by decide +kernel) (da_cons (de_op dop_sub (de_op dop_mul (de_var (pv 6)) (de_var (pv 6))) (de_op dop_mul (de_var (pv 7)) (de_var (pv 7)))) da_nil)) (de_var (pv 4))))
      (dss_cons (ds_set (i := 3) sc_law_slope.nd rfl (by first | exact Or.inl rfl | exact Or.inr rfl) (de_op dop_mul (de_op dop_mul (de_op dop_mul de_int (de_var (pv 6))) (de_var (pv 7))) (de_var (pv 4))))
      (dss_one (ds_set (i := 5) sc_law_slope.nd rfl (by first | exact Or.inl rfl | exact Or.inr rfl) (de_op dop_mul (de_var (pv 5)) (de_var (pv 4))))))))))))
      (dss_cons (ds_if (dt_cmp (dop_eqQ hr.units) (de_call (ok_law_take T) (hr.mono (by decide)) rfl T.law_take.m T.law_take.F.kp T.law_take.b .nil (fun _ => .nil) pass0 (da_cons (de_var (pv 0)) (da_cons de_int da_nil))) de_int (nomark _)) (dss_one (ds_par (i := 2) (j := 3) rfl sc_law_slope.nd rfl rfl (by decide) rfl rfl (da_cons (de_var (pv 3)) (da_cons (de_var (pv 2)) da_nil)) (by rfl))) dss_nil)
      (dss_one (ds_ret (de_tup (da_cons (de_op dop_mul (de_var (pv 2)) (de_ix dix_seq (de_lst (da_cons de_int (da_cons (de_op dop_sub de_int de_int) da_nil))) (de_call (ok_law_take T) (hr.mono (by decide)) rfl T.law_take.m T.law_take.F.kp T.law_take.b .nil (fun _ => .nil) pass0 (da_cons (de_var (pv 0)) (da_cons de_int da_nil))) (fun _ _ => rfl))) (da_cons (de_op dop_mul (de_var (pv 3)) (de_ix dix_seq (de_lst (da_cons de_int (da_cons (de_op dop_sub de_int de_int) da_nil))) (de_call (ok_law_take T) (hr.mono (by decide)) rfl T.law_take.m T.law_take.F.kp T.law_take.b .nil (fun _ => .nil) pass0 (da_cons (de_var (pv 0)) (da_cons de_int da_nil))) (fun _ _ => rfl))) (da_cons (de_var (pv 5)) da_nil)))))))))) rd_law_slope
theorem ok_law_far (T : Tx K mg) : FnOk P w K mg base CX0 2 T.law_far.f T.law_far.fd P_law_far (cSp K sp_law_far) :=
  DFun.ok1 T.law_far.F sc_law_far rfl rfl (k := 1) (t := t_law_far sp_law_take) (fun cdv A outer s H E hr => 
    (dss_cons (ds_set (i := 1) sc_law_far.nd rfl (by first | exact Or.inl rfl | exact Or.inr rfl) de_int)
      (dss_cons (ds_for (g := (.nm 2)) PassesOwn.never rfl (di_range1 (by rfl) T.n_range (de_op dop_add de_int (de_call (ok_law_take T) (hr.mono (by decide)) rfl T.law_take.m T.law_take.F.kp T.law_take.b .nil (fun _ => .nil) pass0 (da_cons (de_var (pv 0)) (da_cons de_int da_nil))))) (pg_nm (pg_name (i := 2) sc_law_far.nd rfl (by first | exact Or.inl rfl | exact Or.inr rfl))) (dss_one (ds_set (i := 1) sc_law_far.nd rfl (by first | exact Or.inl rfl | exact Or.inr rfl) (de_op dop_add (de_op dop_mul de_int (de_var (pv 1))) (de_call (ok_law_take T) (hr.mono (by decide)) rfl T.law_take.m T.law_take.F.kp T.law_take.b .nil (fun _ => .nil) pass0 (da_cons (de_var (pv 0)) (da_cons de_int da_nil)))))))
      (dss_one (ds_ret (de_ix dix_seq (de_lst (da_cons (de_var (pv 1)) (da_cons (de_op dop_sub de_int (de_var (pv 1))) (da_cons (de_op dop_sub (de_op dop_mod (de_var (pv 1)) de_int) de_int) da_nil)))) (de_call (ok_law_take T) (hr.mono (by decide)) rfl T.law_take.m T.law_take.F.kp T.law_take.b .nil (fun _ => .nil) pass0 (da_cons (de_var (pv 0)) (da_cons de_int da_nil))) (fun _ _ => rfl))))))) rd_law_far
theorem ok_law_number (T : Tx K mg) : FnOk P w K mg base CX0 1 T.law_number.f T.law_number.fd P_law_number (cSp K sp_law_number) :=
  DFun.ok2 T.law_number.F sc_law_number rfl rfl (k := 0) (t := t_law_number) (fun cdv A outer s H E hr => 
    (dss_cons (ds_par (i := 2) (j := 3) rfl sc_law_number.nd rfl rfl (by decide) rfl rfl (da_cons (de_callB dcall_abs (by rfl) T.n_abs (by decide +kernel) (da_cons (de_var (pv 0)) da_nil)) (da_cons (de_callB dcall_abs (by rfl) T.n_abs (by decide +kernel) (da_cons (de_var (pv 1)) da_nil)) da_nil)) (by rfl))
      (dss_cons (ds_while PassesOwn.never (dt_cmp (dop_neQ hr.units) (de_var (pv 3)) de_int (nomark _)) (dss_one (ds_par (i := 2) (j := 3) rfl sc_law_number.nd rfl rfl (by decide) rfl rfl (da_cons (de_var (pv 3)) (da_cons (de_op dop_mod (de_var (pv 2)) (de_var (pv 3))) da_nil)) (by rfl))))
      (dss_cons (ds_if (dt_cmp dop_lt (de_var (pv 1)) de_int (nomark _)) (dss_one (ds_set (i := 2) sc_law_number.nd rfl (by first | exact Or.inl rfl | exact Or.inr rfl) (de_op dop_sub de_int (de_var (pv 2))))) dss_nil)
      (dss_one (ds_ret (de_ifExp (dt_cmp (dop_eqQ hr.units) (de_op dop_fdivN (de_var (pv 1)) (de_var (pv 2))) de_int (nomark _)) (de_op dop_fdivN (de_var (pv 0)) (de_var (pv 2))) (de_tup (da_cons (de_op dop_fdivN (de_var (pv 0)) (de_var (pv 2))) (da_cons (de_op dop_fdivN (de_var (pv 1)) (de_var (pv 2))) da_nil)))))))))) rd_law_number
theorem ok_law_drawn (T : Tx K mg) : FnOk P w K mg base CX0 3 T.law_drawn.f T.law_drawn.fd P_law_drawn (cSp K sp_law_drawn) :=
  DFun.ok1 T.law_drawn.F sc_law_drawn rfl rfl (k := 2) (t := t_law_drawn sp_law_far sp_law_take sp_law_number) (fun cdv A outer s H E hr => 
    (dss_cons (ds_set (i := 1) sc_law_drawn.nd rfl (by first | exact Or.inl rfl | exact Or.inr rfl) (de_ix dix_seq (de_lst (da_cons (de_op dop_sub (de_call (ok_law_take T) (hr.mono (by decide)) rfl T.law_take.m T.law_take.F.kp T.law_take.b .nil (fun _ => .nil) pass0 (da_cons (de_var (pv 0)) (da_cons de_int da_nil))) de_int) (da_cons (de_call (ok_law_far T) (hr.mono (by decide)) rfl T.law_far.m T.law_far.F.kp T.law_far.b .nil (fun _ => .nil) pass0 (da_cons (de_var (pv 0)) da_nil)) da_nil))) (de_call (ok_law_take T) (hr.mono (by decide)) rfl T.law_take.m T.law_take.F.kp T.law_take.b .nil (fun _ => .nil) pass0 (da_cons (de_var (pv 0)) (da_cons de_int da_nil))) (fun _ _ => rfl)))
      (dss_cons (ds_set (i := 2) sc_law_drawn.nd rfl (by first | exact Or.inl rfl | exact Or.inr rfl) (de_ix dix_seq (de_lst (da_cons de_int (da_cons de_int (da_cons (de_op dop_add de_int (de_call (ok_law_take T) (hr.mono (by decide)) rfl T.law_take.m T.law_take.F.kp T.law_take.b .nil (fun _ => .nil) pass0 (da_cons (de_var (pv 0)) (da_cons de_int da_nil)))) (da_cons (de_op dop_add de_int (de_callB dcall_abs (by rfl) T.n_abs (by decide +kernel) (da_cons (de_call (ok_law_far T) (hr.mono (by decide)) rfl T.law_far.m T.law_far.F.kp T.law_far.b .nil (fun _ => .nil) pass0 (da_cons (de_var (pv 0)) da_nil)) da_nil))) da_nil))))) (de_call (ok_law_take T) (hr.mono (by decide)) rfl T.law_take.m T.law_take.F.kp T.law_take.b .nil (fun _ => .nil) pass0 (da_cons (de_var (pv 0)) (da_cons de_int da_nil))) (fun _ _ => rfl)))
      (dss_one (ds_ret (de_call (ok_law_number T) (hr.mono (by decide)) rfl T.law_number.m T.law_number.F.kp T.law_number.b .nil (fun _ => .nil) pass0 (da_cons (de_var (pv 1)) (da_cons (de_var (pv 2)) da_nil)))))))) rd_law_drawn
theorem ok_law_long (T : Tx K mg) : FnOk P w K mg base CX0 1 T.law_long.f T.law_long.fd P_law_long (cSp K sp_law_long) :=
  DFun.ok2 T.law_long.F sc_law_long rfl rfl (k := 0) (t := t_law_long) (fun cdv A outer s H E hr => 
    (dss_cons (ds_set (i := 2) sc_law_long.nd rfl (by first | exact Or.inl rfl | exact Or.inr rfl) (de_op dop_add (de_op dop_mul (de_var (pv 0)) (de_var (pv 0))) (de_op dop_mul (de_var (pv 1)) (de_var (pv 1)))))
      (dss_cons (ds_setLc false (i := 3) (own := [("size", 4)]) (g := (.nm 4)) rfl sc_law_long.nd rfl rfl (sw_true rfl rfl rfl (by decide +kernel)) (di_range2 (by rfl) T.n_range de_int de_int) (blkOk_by (N := N_law_long) (sc := defScope s_law_long) (own := [("size", 4)]) (by decide +kernel)) (fun _ _ _ _ _ => (pg_nm (pg_name (i := 4) sc_law_long.nd rfl (by first | exact Or.inl rfl | exact Or.inr rfl)))) (fun _ _ _ _ _ => (dts_one (dt_cmp (dop_eqQ hr.units) (de_op dop_mul (de_var (pv 4)) (de_var (pv 4))) (de_var (pv 2)) (nomark _)))) (fun _ _ _ _ _ => (de_var (pv 4))) (by decide))
      (dss_one (ds_ret (de_ifExp (dt_cmp (dop_neB hr.units) (de_var (pv 3)) (de_lst da_nil) (nomark _)) (de_ix dix_seq (de_var (pv 3)) de_int (fun _ _ => rfl)) de_non)))))) rd_law_long
theorem ok_is_plain (T : Tx K mg) : FnOk P w K mg base CX0 1 T.is_plain.f T.is_plain.fd P_is_plain (cSp K sp_is_plain) :=
  DFun.ok1 T.is_plain.F sc_is_plain rfl rfl (k := 0) (t := t_is_plain) (fun cdv A outer s H E hr => 
    (dss_one (ds_ret (de_and (de_callB dcall_isi (by rfl) T.n_isinstance (by decide +kernel) (da_cons (de_var (pv 0)) (da_cons (de_c (pe_bltn (v := .ty "int") (by rfl) T.n_int (by decide +kernel) rfl) fun _ => .ty .int) da_nil))) (de_one (de_not (de_callB dcall_isi (by rfl) T.n_isinstance (by decide +kernel) (da_cons (de_var (pv 0)) (da_cons (de_c (pe_bltn (v := .ty "bool") (by rfl) T.n_bool (by decide +kernel) rfl) fun _ => .ty .bool) da_nil))))))))) rd_is_plain
theorem ok_is_whole (T : Tx K mg) : FnOk P w K mg base CX0 2 T.is_whole.f T.is_whole.fd P_is_whole (cSp K sp_is_whole) :=
  DFun.ok3 T.is_whole.F sc_is_whole rfl rfl (k := 1) (t := t_is_whole sp_is_plain) (fun cdv A outer s H E hr => 
    (dss_one (ds_ret (de_and (de_call (ok_is_plain T) (hr.mono (by decide)) rfl T.is_plain.m T.is_plain.F.kp T.is_plain.b .nil (fun _ => .nil) pass0 (da_cons (de_var (pv 0)) da_nil)) (de_one (de_chain dop_le dop_le (de_var (pv 1)) (de_var (pv 0)) (de_var (pv 2)))))))) rd_is_whole
theorem ok_is_way (T : Tx K mg) : FnOk P w K mg base CX0 3 T.is_way.f T.is_way.fd P_is_way (cSp K sp_is_way) :=
  DFun.ok1 T.is_way.F sc_is_way rfl rfl (k := 2) (t := t_is_way sp_is_plain sp_is_whole) (fun cdv A outer s H E hr => 
    (dss_cons (ds_if (dt_w (dw_or (dt_not (dt_truth (de_callB dcall_isi (by rfl) T.n_isinstance (by decide +kernel) (da_cons (de_var (pv 0)) (da_cons (de_c (pe_bltn (v := .ty "tuple") (by rfl) T.n_tuple (by decide +kernel) rfl) fun _ => .ty .tup) da_nil))))) (dw_or1 (dt_cmp (dop_neQ hr.units) (de_callB dcall_len (by rfl) T.n_len (by decide +kernel) (da_cons (de_var (pv 0)) da_nil)) de_int (nomark _))))) (dss_one (ds_ret de_bl)) dss_nil)
      (dss_cons (ds_asg (g := (.tp [(.nm 1), (.nm 2), (.nm 3)])) (de_var (pv 0)) (pg_tp rfl (pgs_c (pg_nm (pg_name (i := 1) sc_is_way.nd rfl (by first | exact Or.inl rfl | exact Or.inr rfl))) (pgs_c (pg_nm (pg_name (i := 2) sc_is_way.nd rfl (by first | exact Or.inl rfl | exact Or.inr rfl))) (pgs_c (pg_nm (pg_name (i := 3) sc_is_way.nd rfl (by first | exact Or.inl rfl | exact Or.inr rfl))) pgs_n)))))
      (dss_cons (ds_if (dt_w (dw_or (dt_not (dt_truth (de_call (ok_is_plain T) (hr.mono (by decide)) rfl T.is_plain.m T.is_plain.F.kp T.is_plain.b .nil (fun _ => .nil) pass0 (da_cons (de_var (pv 1)) da_nil)))) (dw_or (dt_not (dt_truth (de_call (ok_is_plain T) (hr.mono (by decide)) rfl T.is_plain.m T.is_plain.F.kp T.is_plain.b .nil (fun _ => .nil) pass0 (da_cons (de_var (pv 2)) da_nil)))) (dw_or1 (dt_not (dt_truth (de_call (ok_is_whole T) (hr.mono (by decide)) rfl T.is_whole.m T.is_whole.F.kp T.is_whole.b .nil (fun _ => .nil) pass0 (da_cons (de_var (pv 3)) (da_cons de_int (da_cons (de_c (pe_glob (v := .int 1000) rfl T.c_MOST_LONG ⟨_, rfl⟩) fun _ => .int _) da_nil)))))))))) (dss_one (ds_ret de_bl)) dss_nil)
      (dss_one (ds_ret (de_cmp (dop_eqQ hr.units) (de_op dop_add (de_op dop_mul (de_var (pv 1)) (de_var (pv 1))) (de_op dop_mul (de_var (pv 2)) (de_var (pv 2)))) (de_op dop_mul (de_var (pv 3)) (de_var (pv 3))) (nomark _)))))))) rd_is_way
theorem ok_way_of (T : Tx K mg) : FnOk P w K mg base (L2N.CX P w) 4 T.way_of.f T.way_of.fd P_way_of (cSp K (sp_way_of K)) :=
  DFunXN.ok2 T.way_of.F sc_way_of rfl rfl (k := 3) (t := t_way_of K sp_is_plain sp_is_way) (fun cdv A outer s H E hr => 
    (dss_cons (ds_if (dt_w (dw_and (dt_truth (de_call (ok_is_plain T) (hr.mono (by decide)) rfl T.is_plain.m T.is_plain.F.kp T.is_plain.b .nil (fun _ => .nil) pass0 (da_cons (de_var (pv 0)) da_nil))) (dw_and (dt_truth (de_call (ok_is_plain T) (hr.mono (by decide)) rfl T.is_plain.m T.is_plain.F.kp T.is_plain.b .nil (fun _ => .nil) pass0 (da_cons (de_var (pv 1)) da_nil))) (dw_and (dt_cmp dop_le (de_callB dcall_abs (by rfl) T.n_abs (by decide +kernel) (da_cons (de_var (pv 0)) da_nil)) (de_c (pe_glob (v := .int 1000) rfl T.c_MOST_LONG ⟨_, rfl⟩) fun _ => .int _) (nomark _)) (dw_and1 (dt_cmp dop_le (de_callB dcall_abs (by rfl) T.n_abs (by decide +kernel) (da_cons (de_var (pv 1)) da_nil)) (de_c (pe_glob (v := .int 1000) rfl T.c_MOST_LONG ⟨_, rfl⟩) fun _ => .int _) (nomark _))))))) (dss_one (ds_for (g := (.nm 2)) passes_cxN rfl (di_range2 (by rfl) T.n_range (de_callB (dcall_max3 rfl) (by rfl) T.n_max (by decide +kernel) (da_cons (de_callB dcall_abs (by rfl) T.n_abs (by decide +kernel) (da_cons (de_var (pv 0)) da_nil)) (da_cons (de_callB dcall_abs (by rfl) T.n_abs (by decide +kernel) (da_cons (de_var (pv 1)) da_nil)) (da_cons de_int da_nil)))) (de_op dop_add (de_c (pe_glob (v := .int 1000) rfl T.c_MOST_LONG ⟨_, rfl⟩) fun _ => .int _) de_int)) (pg_nm (pg_name (i := 2) sc_way_of.nd rfl (by first | exact Or.inl rfl | exact Or.inr rfl))) (dss_one (ds_if (dt_truth (de_call (ok_is_way T) (hr.mono (by decide)) rfl T.is_way.m T.is_way.F.kp T.is_way.b .nil (fun _ => .nil) pass0 (da_cons (de_tup (da_cons (de_var (pv 0)) (da_cons (de_var (pv 1)) (da_cons (de_var (pv 2)) da_nil)))) da_nil))) (dss_one (ds_ret (de_tup (da_cons (de_var (pv 0)) (da_cons (de_var (pv 1)) (da_cons (de_var (pv 2)) da_nil)))))) dss_nil)))) dss_nil)
      (dss_one (ds_raiseN rfl takes_cxN (dm_mk1N T.x_NoWay.o T.x_NoWay.ini T.x_NoWay.ti (ok_i_NoWay T) (hr.mono (by decide)) T.i_NoWay_b (by rfl) T.x_NoWay.m (da_cons (de_tup (da_cons (de_var (pv 0)) (da_cons (de_var (pv 1)) da_nil))) da_nil)))))) rd_way_of
theorem ok_law_way_right (T : Tx K mg) : FnG P w K mg base 5 T.law_way_right.f T.law_way_right.fd P_law_way_right (cSp K sp_law_way_right) :=
  DFunG.ok2 T.law_way_right.F sc_law_way_right rfl rfl (k := 4) (t := t_law_way_right K sp_law_long (sp_way_of K) sp_is_way) (fun cdv A outer s H E hr hgd => 
    (dss_cons (ds_set (i := 2) sc_law_way_right.nd rfl (by first | exact Or.inl rfl | exact Or.inr rfl) (de_call (ok_law_long T) (hr.mono (by decide)) rfl T.law_long.m T.law_long.F.kp T.law_long.b .nil (fun _ => .nil) pass0 (da_cons (de_var (pv 0)) (da_cons (de_var (pv 1)) da_nil))))
      (dss_cons (ds_set (i := 3) sc_law_way_right.nd rfl (by first | exact Or.inl rfl | exact Or.inr rfl) de_non)
      (dss_cons (ds_tryParN (i := 5) (j1 := 3) (j2 := 4) rfl rfl sc_law_way_right.nd rfl rfl ⟨rfl, by decide, .inl T.x_NoWay.m⟩ takes_w0N (fun W1 pn xe t1 t2 => (dss_one (ds_setX (i := 4) sc_law_way_right.nd rfl (by first | exact Or.inl rfl | exact Or.inr rfl) (de_callXN t1 (ok_way_of T) (hr.mono (by decide)) rfl T.way_of.m T.way_of.F.kp T.way_of.b (da_cons (de_var (pv 0)) (da_cons (de_var (pv 1)) da_nil)))))) T.x_NoWay.xf T.x_NoWay.no (fun a pn => pv 5) rfl rfl (by decide) rfl rfl rfl)
      (dss_cons (ds_if (dt_cmp dop_is (de_var (pv 2)) de_non (nomark _)) (dss_one (ds_ret (de_and (de_cmp dop_is (de_var (pv 4)) de_non (nomark _)) (de_and (de_cmp (dop_eqB hr.units) (de_var (pv 3)) (de_tup (da_cons (de_var (pv 0)) (da_cons (de_var (pv 1)) da_nil))) (nomark _)) (de_one (de_not (de_call (ok_is_way T) (hr.mono (by decide)) rfl T.is_way.m T.is_way.F.kp T.is_way.b .nil (fun _ => .nil) pass0 (da_cons (de_tup (da_cons (de_var (pv 0)) (da_cons (de_var (pv 1)) (da_cons (de_callB (dcall_max2 rfl) (by rfl) T.n_max (by decide +kernel) (da_cons (de_callB dcall_abs (by rfl) T.n_abs (by decide +kernel) (da_cons (de_var (pv 0)) da_nil)) (da_cons (de_callB dcall_abs (by rfl) T.n_abs (by decide +kernel) (da_cons (de_var (pv 1)) da_nil)) da_nil))) da_nil)))) da_nil)))))))) dss_nil)
      (dss_one (ds_ret (de_and (de_cmp (dop_eqQ hr.units) (de_callB (dcall_repr hgd hr.units) (by rfl) T.n_repr (by decide +kernel) (da_cons (de_var (pv 4)) da_nil)) (de_callB (dcall_repr hgd hr.units) (by rfl) T.n_repr (by decide +kernel) (da_cons (de_tup (da_cons (de_var (pv 0)) (da_cons (de_var (pv 1)) (da_cons (de_var (pv 2)) da_nil)))) da_nil)) (nomark _)) (de_and (de_cmp dop_is (de_var (pv 3)) de_non (nomark _)) (de_and (de_call (ok_is_way T) (hr.mono (by decide)) rfl T.is_way.m T.is_way.F.kp T.is_way.b .nil (fun _ => .nil) pass0 (da_cons (de_var (pv 4)) da_nil)) (de_one (de_cmp (dop_eqB hr.units) (de_call (ok_way_of T) (hr.mono (by decide)) rfl T.way_of.m T.way_of.F.kp T.way_of.b .nil (fun _ => .nil) passX0N (da_cons (de_var (pv 0)) (da_cons (de_var (pv 1)) da_nil))) (de_var (pv 4)) (nomark _))))))))))))) (rd_law_way_right T.x_NoWay.ex)
theorem ok_law_no_way (T : Tx K mg) : FnG P w K mg base 4 T.law_no_way.f T.law_no_way.fd P_law_no_way (cSp K sp_law_no_way) :=
  DFunG.ok2 T.law_no_way.F sc_law_no_way rfl rfl (k := 3) (t := t_law_no_way sp_law_take sp_is_way) (fun cdv A outer s H E hr hgd => 
    (dss_cons (ds_asg (g := (.tp [(.nm 2), (.nm 3), (.nm 4)])) (de_var (pv 1)) (pg_tp rfl (pgs_c (pg_nm (pg_name (i := 2) sc_law_no_way.nd rfl (by first | exact Or.inl rfl | exact Or.inr rfl))) (pgs_c (pg_nm (pg_name (i := 3) sc_law_no_way.nd rfl (by first | exact Or.inl rfl | exact Or.inr rfl))) (pgs_c (pg_nm (pg_name (i := 4) sc_law_no_way.nd rfl (by first | exact Or.inl rfl | exact Or.inr rfl))) pgs_n)))))
      (dss_cons (ds_set (i := 5) sc_law_no_way.nd rfl (by first | exact Or.inl rfl | exact Or.inr rfl) (de_lst (da_cons (de_tup (da_cons (de_var (pv 2)) (da_cons (de_var (pv 3)) da_nil))) (da_cons (de_tup (da_cons (de_var (pv 2)) (da_cons (de_var (pv 3)) (da_cons (de_op dop_sub de_int (de_var (pv 4))) da_nil)))) (da_cons (de_tup (da_cons (de_var (pv 2)) (da_cons (de_var (pv 3)) (da_cons (de_op dop_add (de_var (pv 4)) de_int) da_nil)))) (da_cons (de_lst (da_cons (de_var (pv 2)) (da_cons (de_var (pv 3)) (da_cons (de_var (pv 4)) da_nil)))) (da_cons (de_tup (da_cons (de_var (pv 2)) (da_cons (de_var (pv 3)) (da_cons (de_var (pv 4)) (da_cons de_int da_nil))))) (da_cons (de_tup (da_cons (de_callTy dcall_str (by rfl) T.n_str (by decide +kernel) (da_cons (de_var (pv 2)) da_nil)) (da_cons (de_var (pv 3)) (da_cons (de_var (pv 4)) da_nil)))) (da_cons de_non (da_cons de_dictM da_nil))))))))))
      (dss_cons (ds_set (i := 5) sc_law_no_way.nd rfl (by first | exact Or.inl rfl | exact Or.inr rfl) (de_op dop_add (de_var (pv 5)) (de_lst (da_cons (de_tup (da_cons (de_var (pv 2)) (da_cons (de_var (pv 3)) (da_cons de_bl da_nil)))) (da_cons (de_tup (da_cons (de_tup (da_cons (de_var (pv 2)) (da_cons de_int da_nil))) (da_cons (de_var (pv 3)) (da_cons (de_var (pv 4)) da_nil)))) (da_cons (de_tup (da_cons (de_op dop_add (de_var (pv 2)) (de_var (pv 4))) (da_cons (de_var (pv 3)) (da_cons (de_var (pv 4)) da_nil)))) (da_cons de_int (da_cons de_str (da_cons (de_tup (da_cons de_int (da_cons de_int (da_cons de_int da_nil)))) (da_cons (de_tup (da_cons de_int (da_cons de_int (da_cons de_int da_nil)))) da_nil))))))))))
      (dss_cons (ds_set (i := 5) sc_law_no_way.nd rfl (by first | exact Or.inl rfl | exact Or.inr rfl) (de_op dop_add (de_var (pv 5)) (de_lst (da_cons (de_tup (da_cons de_bl (da_cons de_int (da_cons de_int da_nil)))) (da_cons (de_tup (da_cons de_int (da_cons de_bl (da_cons de_int da_nil)))) (da_cons (de_tup (da_cons de_bl (da_cons de_int (da_cons de_int da_nil)))) (da_cons (de_tup (da_cons (de_var (pv 3)) (da_cons (de_var (pv 2)) (da_cons (de_var (pv 4)) da_nil)))) (da_cons (de_lst (da_cons de_int (da_cons de_int (da_cons de_int da_nil)))) (da_cons (de_tup (da_cons de_int (da_cons de_int (da_cons de_int da_nil)))) da_nil)))))))))
      (dss_cons (ds_set (i := 6) sc_law_no_way.nd rfl (by first | exact Or.inl rfl | exact Or.inr rfl) (de_ix dix_seq (de_var (pv 5)) (de_call (ok_law_take T) (hr.mono (by decide)) rfl T.law_take.m T.law_take.F.kp T.law_take.b .nil (fun _ => .nil) pass0 (da_cons (de_var (pv 0)) (da_cons de_int da_nil))) (fun _ _ => rfl)))
      (dss_cons (ds_set (i := 7) sc_law_no_way.nd rfl (by first | exact Or.inl rfl | exact Or.inr rfl) (de_and (de_callB dcall_isi (by rfl) T.n_isinstance (by decide +kernel) (da_cons (de_var (pv 6)) (da_cons (de_c (pe_bltn (v := .ty "tuple") (by rfl) T.n_tuple (by decide +kernel) rfl) fun _ => .ty .tup) da_nil))) (de_one (de_cmp (dop_eqQ hr.units) (de_callB dcall_len (by rfl) T.n_len (by decide +kernel) (da_cons (de_var (pv 6)) da_nil)) de_int (nomark _)))))
      (dss_cons (ds_set (i := 8) sc_law_no_way.nd rfl (by first | exact Or.inl rfl | exact Or.inr rfl) (de_ifExp (dt_truth (de_var (pv 7))) (de_lc false (own := [("one", 9)]) (g := (.nm 9)) rfl sc_law_no_way.nd (di_seq (de_var (pv 6))) (blkOk_by (N := N_law_no_way) (sc := defScope s_law_no_way) (own := [("one", 9)]) (by decide +kernel)) (fun _ _ _ _ _ => (pg_nm (pg_name (i := 9) sc_law_no_way.nd rfl (by first | exact Or.inl rfl | exact Or.inr rfl)))) (fun _ _ _ _ _ => (dts_one (dt_truth (de_isiT (cs := [.bool, .str, .tup]) (de_var (pv 9)) (pa_tys (pa_tyc (c := .bool) (pe_bltn (v := .ty "bool") (by rfl) T.n_bool (by decide +kernel) rfl) (pa_tyc (c := .str) (pe_bltn (v := .ty "str") (by rfl) T.n_str (by decide +kernel) rfl) (pa_tyc (c := .tup) (pe_bltn (v := .ty "tuple") (by rfl) T.n_tuple (by decide +kernel) rfl) pa_ty0))) (by decide)) (by rfl) T.n_isinstance)))) (fun _ _ _ _ _ => (de_var (pv 9))) (by decide)) (de_lst da_nil)))
      (dss_cons (ds_set (i := 7) sc_law_no_way.nd rfl (by first | exact Or.inl rfl | exact Or.inr rfl) (de_and (de_var (pv 7)) (de_one (de_cmp (dop_eqB hr.units) (de_var (pv 8)) (de_lst da_nil) (nomark _)))))
      (dss_cons (ds_if (dt_truth (de_var (pv 7))) (dss_one (ds_set (i := 7) sc_law_no_way.nd rfl (by first | exact Or.inl rfl | exact Or.inr rfl) (de_and (de_chain dop_lt dop_lt de_int (de_ix dix_seq (de_var (pv 6)) de_int (fun _ _ => rfl)) de_int) (de_one (de_cmp (dop_eqQ hr.units) (de_op dop_add (de_op dop_mul (de_ix dix_seq (de_var (pv 6)) de_int (fun _ _ => rfl)) (de_ix dix_seq (de_var (pv 6)) de_int (fun _ _ => rfl))) (de_op dop_mul (de_ix dix_seq (de_var (pv 6)) de_int (fun _ _ => rfl)) (de_ix dix_seq (de_var (pv 6)) de_int (fun _ _ => rfl)))) (de_op dop_mul (de_ix dix_seq (de_var (pv 6)) de_int (fun _ _ => rfl)) (de_ix dix_seq (de_var (pv 6)) de_int (fun _ _ => rfl))) (nomark _)))))) dss_nil)
      (dss_one (ds_ret (de_cmp (dop_eqQ hr.units) (de_callB (dcall_repr hgd hr.units) (by rfl) T.n_repr (by decide +kernel) (da_cons (de_call (ok_is_way T) (hr.mono (by decide)) rfl T.is_way.m T.is_way.F.kp T.is_way.b .nil (fun _ => .nil) pass0 (da_cons (de_var (pv 6)) da_nil)) da_nil)) (de_callB (dcall_repr hgd hr.units) (by rfl) T.n_repr (by decide +kernel) (da_cons (de_var (pv 7)) da_nil)) (nomark _)))))))))))))) rd_law_no_way
theorem ok_law_pair (T : Tx K mg) : FnOk P w K mg base CX0 1 T.law_pair.f T.law_pair.fd P_law_pair (cSp K sp_law_pair) :=
  DFun.ok1 T.law_pair.F sc_law_pair rfl rfl (k := 0) (t := t_law_pair) (fun cdv A outer s H E hr => 
    (dss_one (ds_ret (de_ifExp (dt_truth (de_callB dcall_isi (by rfl) T.n_isinstance (by decide +kernel) (da_cons (de_var (pv 0)) (da_cons (de_c (pe_bltn (v := .ty "tuple") (by rfl) T.n_tuple (by decide +kernel) rfl) fun _ => .ty .tup) da_nil)))) (de_var (pv 0)) (de_tup (da_cons (de_var (pv 0)) (da_cons de_int da_nil))))))) rd_law_pair
theorem ok_law_product (T : Tx K mg) : FnOk P w K mg base CX0 2 T.law_product.f T.law_product.fd P_law_product (cSp K sp_law_product) :=
  DFun.ok2 T.law_product.F sc_law_product rfl rfl (k := 1) (t := t_law_product sp_law_pair sp_law_number) (fun cdv A outer s H E hr => 
    (dss_cons (ds_asg (g := (.tp [(.nm 2), (.nm 3)])) (de_call (ok_law_pair T) (hr.mono (by decide)) rfl T.law_pair.m T.law_pair.F.kp T.law_pair.b .nil (fun _ => .nil) pass0 (da_cons (de_var (pv 0)) da_nil)) (pg_tp rfl (pgs_c (pg_nm (pg_name (i := 2) sc_law_product.nd rfl (by first | exact Or.inl rfl | exact Or.inr rfl))) (pgs_c (pg_nm (pg_name (i := 3) sc_law_product.nd rfl (by first | exact Or.inl rfl | exact Or.inr rfl))) pgs_n))))
      (dss_cons (ds_asg (g := (.tp [(.nm 4), (.nm 5)])) (de_call (ok_law_pair T) (hr.mono (by decide)) rfl T.law_pair.m T.law_pair.F.kp T.law_pair.b .nil (fun _ => .nil) pass0 (da_cons (de_var (pv 1)) da_nil)) (pg_tp rfl (pgs_c (pg_nm (pg_name (i := 4) sc_law_product.nd rfl (by first | exact Or.inl rfl | exact Or.inr rfl))) (pgs_c (pg_nm (pg_name (i := 5) sc_law_product.nd rfl (by first | exact Or.inl rfl | exact Or.inr rfl))) pgs_n))))
      (dss_one (ds_ret (de_call (ok_law_number T) (hr.mono (by decide)) rfl T.law_number.m T.law_number.F.kp T.law_number.b .nil (fun _ => .nil) pass0 (da_cons (de_op dop_mul (de_var (pv 2)) (de_var (pv 4))) (da_cons (de_op dop_mul (de_var (pv 3)) (de_var (pv 5))) da_nil)))))))) rd_law_product
theorem ok_law_sum (T : Tx K mg) : FnOk P w K mg base CX0 2 T.law_sum.f T.law_sum.fd P_law_sum (cSp K sp_law_sum) :=
  DFun.ok2 T.law_sum.F sc_law_sum rfl rfl (k := 1) (t := t_law_sum sp_law_pair sp_law_number) (fun cdv A outer s H E hr => 
    (dss_cons (ds_asg (g := (.tp [(.nm 2), (.nm 3)])) (de_call (ok_law_pair T) (hr.mono (by decide)) rfl T.law_pair.m T.law_pair.F.kp T.law_pair.b .nil (fun _ => .nil) pass0 (da_cons (de_var (pv 0)) da_nil)) (pg_tp rfl (pgs_c (pg_nm (pg_name (i := 2) sc_law_sum.nd rfl (by first | exact Or.inl rfl | exact Or.inr rfl))) (pgs_c (pg_nm (pg_name (i := 3) sc_law_sum.nd rfl (by first | exact Or.inl rfl | exact Or.inr rfl))) pgs_n))))
      (dss_cons (ds_asg (g := (.tp [(.nm 4), (.nm 5)])) (de_call (ok_law_pair T) (hr.mono (by decide)) rfl T.law_pair.m T.law_pair.F.kp T.law_pair.b .nil (fun _ => .nil) pass0 (da_cons (de_var (pv 1)) da_nil)) (pg_tp rfl (pgs_c (pg_nm (pg_name (i := 4) sc_law_sum.nd rfl (by first | exact Or.inl rfl | exact Or.inr rfl))) (pgs_c (pg_nm (pg_name (i := 5) sc_law_sum.nd rfl (by first | exact Or.inl rfl | exact Or.inr rfl))) pgs_n))))
      (dss_one (ds_ret (de_call (ok_law_number T) (hr.mono (by decide)) rfl T.law_number.m T.law_number.F.kp T.law_number.b .nil (fun _ => .nil) pass0 (da_cons (de_op dop_add (de_op dop_mul (de_var (pv 2)) (de_var (pv 5))) (de_op dop_mul (de_var (pv 4)) (de_var (pv 3)))) (da_cons (de_op dop_mul (de_var (pv 3)) (de_var (pv 5))) da_nil)))))))) rd_law_sum
theorem ok_law_slid (T : Tx K mg) : FnOk P w K mg base CX0 3 T.law_slid.f T.law_slid.fd P_law_slid (cSp K sp_law_slid) :=
  DFun.ok3 T.law_slid.F sc_law_slid rfl rfl (k := 2) (t := t_law_slid sp_law_product sp_law_sum) (fun cdv A outer s H E hr => 
    (dss_cons (ds_set (i := 3) sc_law_slid.nd rfl (by first | exact Or.inl rfl | exact Or.inr rfl) (de_call (ok_law_product T) (hr.mono (by decide)) rfl T.law_product.m T.law_product.F.kp T.law_product.b .nil (fun _ => .nil) pass0 (da_cons (de_var (pv 1)) (da_cons (de_ifExp (dt_cmp dop_gt (de_ix dix_seq (de_var (pv 2)) de_int (fun _ _ => rfl)) de_int (nomark _)) (de_tup (da_cons de_int (da_cons (de_ix dix_seq (de_var (pv 2)) de_int (fun _ _ => rfl)) da_nil))) de_int) da_nil))))
      (dss_one (ds_ret (de_tup (da_cons (de_call (ok_law_sum T) (hr.mono (by decide)) rfl T.law_sum.m T.law_sum.F.kp T.law_sum.b .nil (fun _ => .nil) pass0 (da_cons (de_ix dix_seq (de_var (pv 0)) de_int (fun _ _ => rfl)) (da_cons (de_call (ok_law_product T) (hr.mono (by decide)) rfl T.law_product.m T.law_product.F.kp T.law_product.b .nil (fun _ => .nil) pass0 (da_cons (de_var (pv 3)) (da_cons (de_ix dix_seq (de_var (pv 2)) de_int (fun _ _ => rfl)) da_nil))) da_nil))) (da_cons (de_call (ok_law_sum T) (hr.mono (by decide)) rfl T.law_sum.m T.law_sum.F.kp T.law_sum.b .nil (fun _ => .nil) pass0 (da_cons (de_ix dix_seq (de_var (pv 0)) de_int (fun _ _ => rfl)) (da_cons (de_call (ok_law_product T) (hr.mono (by decide)) rfl T.law_product.m T.law_product.F.kp T.law_product.b .nil (fun _ => .nil) pass0 (da_cons (de_var (pv 3)) (da_cons (de_ix dix_seq (de_var (pv 2)) de_int (fun _ _ => rfl)) da_nil))) da_nil))) da_nil))))))) rd_law_slid
theorem ok_common_part (T : Tx K mg) : FnOk P w K mg base CX0 1 T.common_part.f T.common_part.fd P_common_part (cSp K sp_common_part) :=
  DFun.ok2 T.common_part.F sc_common_part rfl rfl (k := 0) (t := t_common_part) (fun cdv A outer s H E hr => 
    (dss_cons (ds_par (i := 0) (j := 1) rfl sc_common_part.nd rfl rfl (by decide) rfl rfl (da_cons (de_callB dcall_abs (by rfl) T.n_abs (by decide +kernel) (da_cons (de_var (pv 0)) da_nil)) (da_cons (de_callB dcall_abs (by rfl) T.n_abs (by decide +kernel) (da_cons (de_var (pv 1)) da_nil)) da_nil)) (by rfl))
      (dss_cons (ds_while PassesOwn.never (dt_cmp (dop_neQ hr.units) (de_var (pv 1)) de_int (nomark _)) (dss_one (ds_par (i := 0) (j := 1) rfl sc_common_part.nd rfl rfl (by decide) rfl rfl (da_cons (de_var (pv 1)) (da_cons (de_op dop_mod (de_var (pv 0)) (de_var (pv 1))) da_nil)) (by rfl))))
      (dss_one (ds_ret (de_var (pv 0))))))) rd_common_part
theorem ok_is_part (T : Tx K mg) : FnOk P w K mg base CX0 2 T.is_part.f T.is_part.fd P_is_part (cSp K sp_is_part) :=
  DFun.ok1 T.is_part.F sc_is_part rfl rfl (k := 1) (t := t_is_part sp_is_plain sp_common_part) (fun cdv A outer s H E hr => 
    (dss_cons (ds_if (dt_w (dw_or (dt_not (dt_truth (de_callB dcall_isi (by rfl) T.n_isinstance (by decide +kernel) (da_cons (de_var (pv 0)) (da_cons (de_c (pe_bltn (v := .ty "tuple") (by rfl) T.n_tuple (by decide +kernel) rfl) fun _ => .ty .tup) da_nil))))) (dw_or1 (dt_cmp (dop_neQ hr.units) (de_callB dcall_len (by rfl) T.n_len (by decide +kernel) (da_cons (de_var (pv 0)) da_nil)) de_int (nomark _))))) (dss_one (ds_ret de_bl)) dss_nil)
      (dss_cons (ds_asg (g := (.tp [(.nm 1), (.nm 2)])) (de_var (pv 0)) (pg_tp rfl (pgs_c (pg_nm (pg_name (i := 1) sc_is_part.nd rfl (by first | exact Or.inl rfl | exact Or.inr rfl))) (pgs_c (pg_nm (pg_name (i := 2) sc_is_part.nd rfl (by first | exact Or.inl rfl | exact Or.inr rfl))) pgs_n))))
      (dss_one (ds_ret (de_and (de_call (ok_is_plain T) (hr.mono (by decide)) rfl T.is_plain.m T.is_plain.F.kp T.is_plain.b .nil (fun _ => .nil) pass0 (da_cons (de_var (pv 1)) da_nil)) (de_and (de_call (ok_is_plain T) (hr.mono (by decide)) rfl T.is_plain.m T.is_plain.F.kp T.is_plain.b .nil (fun _ => .nil) pass0 (da_cons (de_var (pv 2)) da_nil)) (de_and (de_cmp dop_gt (de_var (pv 2)) de_int (nomark _)) (de_one (de_cmp (dop_eqQ hr.units) (de_call (ok_common_part T) (hr.mono (by decide)) rfl T.common_part.m T.common_part.F.kp T.common_part.b .nil (fun _ => .nil) pass0 (da_cons (de_var (pv 1)) (da_cons (de_var (pv 2)) da_nil))) de_int (nomark _))))))))))) rd_is_part
theorem ok_is_number (T : Tx K mg) : FnOk P w K mg base CX0 3 T.is_number.f T.is_number.fd P_is_number (cSp K sp_is_number) :=
  DFun.ok1 T.is_number.F sc_is_number rfl rfl (k := 2) (t := t_is_number sp_is_plain sp_is_part) (fun cdv A outer s H E hr => 
    (dss_one (ds_ret (de_or (de_call (ok_is_plain T) (hr.mono (by decide)) rfl T.is_plain.m T.is_plain.F.kp T.is_plain.b .nil (fun _ => .nil) pass0 (da_cons (de_var (pv 0)) da_nil)) (de_one (de_call (ok_is_part T) (hr.mono (by decide)) rfl T.is_part.m T.is_part.F.kp T.is_part.b .nil (fun _ => .nil) pass0 (da_cons (de_var (pv 0)) da_nil))))))) rd_is_number
theorem ok_is_place (T : Tx K mg) : FnOk P w K mg base CX0 4 T.is_place.f T.is_place.fd P_is_place (cSp K sp_is_place) :=
  DFun.ok1 T.is_place.F sc_is_place rfl rfl (k := 3) (t := t_is_place sp_is_number) (fun cdv A outer s H E hr => 
    (dss_one (ds_ret (de_and (de_callB dcall_isi (by rfl) T.n_isinstance (by decide +kernel) (da_cons (de_var (pv 0)) (da_cons (de_c (pe_bltn (v := .ty "tuple") (by rfl) T.n_tuple (by decide +kernel) rfl) fun _ => .ty .tup) da_nil))) (de_and (de_cmp (dop_eqQ hr.units) (de_callB dcall_len (by rfl) T.n_len (by decide +kernel) (da_cons (de_var (pv 0)) da_nil)) de_int (nomark _)) (de_and (de_call (ok_is_number T) (hr.mono (by decide)) rfl T.is_number.m T.is_number.F.kp T.is_number.b .nil (fun _ => .nil) pass0 (da_cons (de_ix dix_seq (de_var (pv 0)) de_int (fun _ _ => rfl)) da_nil)) (de_one (de_call (ok_is_number T) (hr.mono (by decide)) rfl T.is_number.m T.is_number.F.kp T.is_number.b .nil (fun _ => .nil) pass0 (da_cons (de_ix dix_seq (de_var (pv 0)) de_int (fun _ _ => rfl)) da_nil))))))))) rd_is_place
theorem ok_need_way (T : Tx K mg) : FnOk P w K mg base CX0 4 T.need_way.f T.need_way.fd P_need_way (cSp K sp_need_way) :=
  DFun.ok1 T.need_way.F sc_need_way rfl rfl (k := 3) (t := t_need_way sp_is_way) (fun cdv A outer s H E hr => 
    (dss_one (ds_if (dt_not (dt_truth (de_call (ok_is_way T) (hr.mono (by decide)) rfl T.is_way.m T.is_way.F.kp T.is_way.b .nil (fun _ => .nil) pass0 (da_cons (de_var (pv 0)) da_nil)))) (dss_one ds_never) dss_nil))) rd_need_way
theorem ok_pair_of (T : Tx K mg) : FnOk P w K mg base CX0 3 T.pair_of.f T.pair_of.fd P_pair_of (cSp K sp_pair_of) :=
  DFun.ok1 T.pair_of.F sc_pair_of rfl rfl (k := 2) (t := t_pair_of sp_is_plain sp_is_part) (fun cdv A outer s H E hr => 
    (dss_cons (ds_if (dt_truth (de_call (ok_is_plain T) (hr.mono (by decide)) rfl T.is_plain.m T.is_plain.F.kp T.is_plain.b .nil (fun _ => .nil) pass0 (da_cons (de_var (pv 0)) da_nil))) (dss_one (ds_ret (de_tup (da_cons (de_var (pv 0)) (da_cons de_int da_nil))))) dss_nil)
      (dss_cons (ds_if (dt_not (dt_truth (de_call (ok_is_part T) (hr.mono (by decide)) rfl T.is_part.m T.is_part.F.kp T.is_part.b .nil (fun _ => .nil) pass0 (da_cons (de_var (pv 0)) da_nil)))) (dss_one ds_never) dss_nil)
      (dss_one (ds_ret (de_var (pv 0))))))) rd_pair_of
theorem ok_reckoned (T : Tx K mg) : FnOk P w K mg base CX0 2 T.reckoned.f T.reckoned.fd P_reckoned (cSp K sp_reckoned) :=
  DFun.ok2 T.reckoned.F sc_reckoned rfl rfl (k := 1) (t := t_reckoned sp_common_part) (fun cdv A outer s H E hr => 
    (dss_cons (ds_set (i := 2) sc_reckoned.nd rfl (by first | exact Or.inl rfl | exact Or.inr rfl) (de_call (ok_common_part T) (hr.mono (by decide)) rfl T.common_part.m T.common_part.F.kp T.common_part.b .nil (fun _ => .nil) pass0 (da_cons (de_var (pv 0)) (da_cons (de_var (pv 1)) da_nil))))
      (dss_cons (ds_if (dt_cmp dop_lt (de_var (pv 1)) de_int (nomark _)) (dss_one (ds_set (i := 2) sc_reckoned.nd rfl (by first | exact Or.inl rfl | exact Or.inr rfl) (de_op dop_sub de_int (de_var (pv 2))))) dss_nil)
      (dss_cons (ds_par (i := 0) (j := 1) rfl sc_reckoned.nd rfl rfl (by decide) rfl rfl (da_cons (de_op dop_fdivN (de_var (pv 0)) (de_var (pv 2))) (da_cons (de_op dop_fdivN (de_var (pv 1)) (de_var (pv 2))) da_nil)) (by rfl))
      (dss_one (ds_ret (de_ifExp (dt_cmp (dop_eqQ hr.units) (de_var (pv 1)) de_int (nomark _)) (de_var (pv 0)) (de_tup (da_cons (de_var (pv 0)) (da_cons (de_var (pv 1)) da_nil)))))))))) rd_reckoned
theorem ok_over (T : Tx K mg) : FnOk P w K mg base CX0 4 T.over.f T.over.fd P_over (cSp K sp_over) :=
  DFun.ok2 T.over.F sc_over rfl rfl (k := 3) (t := t_over sp_pair_of sp_reckoned) (fun cdv A outer s H E hr => 
    (dss_cons (ds_asg (g := (.tp [(.tp [(.nm 2), (.nm 3)]), (.tp [(.nm 4), (.nm 5)])])) (de_tup (da_cons (de_call (ok_pair_of T) (hr.mono (by decide)) rfl T.pair_of.m T.pair_of.F.kp T.pair_of.b .nil (fun _ => .nil) pass0 (da_cons (de_var (pv 0)) da_nil)) (da_cons (de_call (ok_pair_of T) (hr.mono (by decide)) rfl T.pair_of.m T.pair_of.F.kp T.pair_of.b .nil (fun _ => .nil) pass0 (da_cons (de_var (pv 1)) da_nil)) da_nil))) (pg_tp rfl (pgs_c (pg_tp rfl (pgs_c (pg_nm (pg_name (i := 2) sc_over.nd rfl (by first | exact Or.inl rfl | exact Or.inr rfl))) (pgs_c (pg_nm (pg_name (i := 3) sc_over.nd rfl (by first | exact Or.inl rfl | exact Or.inr rfl))) pgs_n))) (pgs_c (pg_tp rfl (pgs_c (pg_nm (pg_name (i := 4) sc_over.nd rfl (by first | exact Or.inl rfl | exact Or.inr rfl))) (pgs_c (pg_nm (pg_name (i := 5) sc_over.nd rfl (by first | exact Or.inl rfl | exact Or.inr rfl))) pgs_n))) pgs_n))))
      (dss_cons (ds_if (dt_cmp (dop_eqQ hr.units) (de_var (pv 4)) de_int (nomark _)) (dss_one ds_never) dss_nil)
      (dss_one (ds_ret (de_call (ok_reckoned T) (hr.mono (by decide)) rfl T.reckoned.m T.reckoned.F.kp T.reckoned.b .nil (fun _ => .nil) pass0 (da_cons (de_op dop_mul (de_var (pv 2)) (de_var (pv 5))) (da_cons (de_op dop_mul (de_var (pv 3)) (de_var (pv 4))) da_nil)))))))) rd_over
theorem ok_plus (T : Tx K mg) : FnOk P w K mg base CX0 4 T.plus.f T.plus.fd P_plus (cSp K sp_plus) :=
  DFun.ok2 T.plus.F sc_plus rfl rfl (k := 3) (t := t_plus sp_pair_of sp_reckoned) (fun cdv A outer s H E hr => 
    (dss_cons (ds_asg (g := (.tp [(.tp [(.nm 2), (.nm 3)]), (.tp [(.nm 4), (.nm 5)])])) (de_tup (da_cons (de_call (ok_pair_of T) (hr.mono (by decide)) rfl T.pair_of.m T.pair_of.F.kp T.pair_of.b .nil (fun _ => .nil) pass0 (da_cons (de_var (pv 0)) da_nil)) (da_cons (de_call (ok_pair_of T) (hr.mono (by decide)) rfl T.pair_of.m T.pair_of.F.kp T.pair_of.b .nil (fun _ => .nil) pass0 (da_cons (de_var (pv 1)) da_nil)) da_nil))) (pg_tp rfl (pgs_c (pg_tp rfl (pgs_c (pg_nm (pg_name (i := 2) sc_plus.nd rfl (by first | exact Or.inl rfl | exact Or.inr rfl))) (pgs_c (pg_nm (pg_name (i := 3) sc_plus.nd rfl (by first | exact Or.inl rfl | exact Or.inr rfl))) pgs_n))) (pgs_c (pg_tp rfl (pgs_c (pg_nm (pg_name (i := 4) sc_plus.nd rfl (by first | exact Or.inl rfl | exact Or.inr rfl))) (pgs_c (pg_nm (pg_name (i := 5) sc_plus.nd rfl (by first | exact Or.inl rfl | exact Or.inr rfl))) pgs_n))) pgs_n))))
      (dss_one (ds_ret (de_call (ok_reckoned T) (hr.mono (by decide)) rfl T.reckoned.m T.reckoned.F.kp T.reckoned.b .nil (fun _ => .nil) pass0 (da_cons (de_op dop_add (de_op dop_mul (de_var (pv 2)) (de_var (pv 5))) (de_op dop_mul (de_var (pv 4)) (de_var (pv 3)))) (da_cons (de_op dop_mul (de_var (pv 3)) (de_var (pv 5))) da_nil))))))) rd_plus
theorem ok_times (T : Tx K mg) : FnOk P w K mg base CX0 4 T.times.f T.times.fd P_times (cSp K sp_times) :=
  DFun.ok2 T.times.F sc_times rfl rfl (k := 3) (t := t_times sp_pair_of sp_reckoned) (fun cdv A outer s H E hr => 
    (dss_cons (ds_asg (g := (.tp [(.tp [(.nm 2), (.nm 3)]), (.tp [(.nm 4), (.nm 5)])])) (de_tup (da_cons (de_call (ok_pair_of T) (hr.mono (by decide)) rfl T.pair_of.m T.pair_of.F.kp T.pair_of.b .nil (fun _ => .nil) pass0 (da_cons (de_var (pv 0)) da_nil)) (da_cons (de_call (ok_pair_of T) (hr.mono (by decide)) rfl T.pair_of.m T.pair_of.F.kp T.pair_of.b .nil (fun _ => .nil) pass0 (da_cons (de_var (pv 1)) da_nil)) da_nil))) (pg_tp rfl (pgs_c (pg_tp rfl (pgs_c (pg_nm (pg_name (i := 2) sc_times.nd rfl (by first | exact Or.inl rfl | exact Or.inr rfl))) (pgs_c (pg_nm (pg_name (i := 3) sc_times.nd rfl (by first | exact Or.inl rfl | exact Or.inr rfl))) pgs_n))) (pgs_c (pg_tp rfl (pgs_c (pg_nm (pg_name (i := 4) sc_times.nd rfl (by first | exact Or.inl rfl | exact Or.inr rfl))) (pgs_c (pg_nm (pg_name (i := 5) sc_times.nd rfl (by first | exact Or.inl rfl | exact Or.inr rfl))) pgs_n))) pgs_n))))
      (dss_one (ds_ret (de_call (ok_reckoned T) (hr.mono (by decide)) rfl T.reckoned.m T.reckoned.F.kp T.reckoned.b .nil (fun _ => .nil) pass0 (da_cons (de_op dop_mul (de_var (pv 2)) (de_var (pv 4))) (da_cons (de_op dop_mul (de_var (pv 3)) (de_var (pv 5))) da_nil))))))) rd_times
theorem ok_slide (T : Tx K mg) : FnOk P w K mg base CX0 5 T.slide.f T.slide.fd P_slide (cSp K sp_slide) :=
  DFun.ok3 T.slide.F sc_slide rfl rfl (k := 4) (t := t_slide sp_is_place sp_is_number sp_need_way sp_over sp_plus sp_times) (fun cdv A outer s H E hr => 
    (dss_cons (ds_if (dt_not (dt_truth (de_call (ok_is_place T) (hr.mono (by decide)) rfl T.is_place.m T.is_place.F.kp T.is_place.b .nil (fun _ => .nil) pass0 (da_cons (de_var (pv 0)) da_nil)))) (dss_one ds_never) dss_nil)
      (dss_cons (ds_if (dt_not (dt_truth (de_call (ok_is_number T) (hr.mono (by decide)) rfl T.is_number.m T.is_number.F.kp T.is_number.b .nil (fun _ => .nil) pass0 (da_cons (de_var (pv 1)) da_nil)))) (dss_one ds_never) dss_nil)
      (dss_cons (ds_expr (de_call (ok_need_way T) (hr.mono (by decide)) rfl T.need_way.m T.need_way.F.kp T.need_way.b .nil (fun _ => .nil) pass0 (da_cons (de_var (pv 2)) da_nil)))
      (dss_cons (ds_asg (g := (.tp [(.nm 3), (.nm 4), (.nm 5)])) (de_var (pv 2)) (pg_tp rfl (pgs_c (pg_nm (pg_name (i := 3) sc_slide.nd rfl (by first | exact Or.inl rfl | exact Or.inr rfl))) (pgs_c (pg_nm (pg_name (i := 4) sc_slide.nd rfl (by first | exact Or.inl rfl | exact Or.inr rfl))) (pgs_c (pg_nm (pg_name (i := 5) sc_slide.nd rfl (by first | exact Or.inl rfl | exact Or.inr rfl))) pgs_n)))))
      (dss_cons (ds_set (i := 6) sc_slide.nd rfl (by first | exact Or.inl rfl | exact Or.inr rfl) (de_call (ok_over T) (hr.mono (by decide)) rfl T.over.m T.over.F.kp T.over.b .nil (fun _ => .nil) pass0 (da_cons (de_var (pv 1)) (da_cons (de_var (pv 5)) da_nil))))
      (dss_one (ds_ret (de_tup (da_cons (de_call (ok_plus T) (hr.mono (by decide)) rfl T.plus.m T.plus.F.kp T.plus.b .nil (fun _ => .nil) pass0 (da_cons (de_ix dix_seq (de_var (pv 0)) de_int (fun _ _ => rfl)) (da_cons (de_call (ok_times T) (hr.mono (by decide)) rfl T.times.m T.times.F.kp T.times.b .nil (fun _ => .nil) pass0 (da_cons (de_var (pv 6)) (da_cons (de_var (pv 3)) da_nil))) da_nil))) (da_cons (de_call (ok_plus T) (hr.mono (by decide)) rfl T.plus.m T.plus.F.kp T.plus.b .nil (fun _ => .nil) pass0 (da_cons (de_ix dix_seq (de_var (pv 0)) de_int (fun _ _ => rfl)) (da_cons (de_call (ok_times T) (hr.mono (by decide)) rfl T.times.m T.times.F.kp T.times.b .nil (fun _ => .nil) pass0 (da_cons (de_var (pv 6)) (da_cons (de_var (pv 4)) da_nil))) da_nil))) da_nil))))))))))) rd_slide
theorem ok_law_is_n (T : Tx K mg) : ∀ n : Nat, FnOk P w K mg base CX0 (n + 1) T.law_is.f T.law_is.fd P_law_is (cSp K (sp_law_is_n n))
  | 0 => DFunD.ok (k := 0) T.law_is.F sc_law_is (fun _ _ _ _ h => (no_law_is h).elim) (fun _ _ _ _ _ _ _ _ _ _ _ h => (no_law_is h).elim)
  | n + 1 => DFun.ok2 T.law_is.F sc_law_is rfl rfl (k := n + 1) (t := t_law_is (sp_law_is_n n)) (fun cdv A outer s H E hr => 
    (dss_cons (ds_if (dt_truth (de_callB dcall_isi (by rfl) T.n_isinstance (by decide +kernel) (da_cons (de_var (pv 1)) (da_cons (de_c (pe_bltn (v := .ty "tuple") (by rfl) T.n_tuple (by decide +kernel) rfl) fun _ => .ty .tup) da_nil)))) (dss_one (ds_ret (de_and (de_callB dcall_isi (by rfl) T.n_isinstance (by decide +kernel) (da_cons (de_var (pv 0)) (da_cons (de_c (pe_bltn (v := .ty "tuple") (by rfl) T.n_tuple (by decide +kernel) rfl) fun _ => .ty .tup) da_nil))) (de_and (de_cmp (dop_eqB hr.units) (de_var (pv 0)) (de_var (pv 1)) (nomark _)) (de_and (de_call (ok_law_is_n T n) hr rfl T.law_is.m T.law_is.F.kp T.law_is.b .nil (fun _ => .nil) pass0 (da_cons (de_ix dix_seq (de_var (pv 0)) de_int (fun _ _ => rfl)) (da_cons (de_ix dix_seq (de_var (pv 1)) de_int (fun _ _ => rfl)) da_nil))) (de_one (de_call (ok_law_is_n T n) hr rfl T.law_is.m T.law_is.F.kp T.law_is.b .nil (fun _ => .nil) pass0 (da_cons (de_ix dix_seq (de_var (pv 0)) de_int (fun _ _ => rfl)) (da_cons (de_ix dix_seq (de_var (pv 1)) de_int (fun _ _ => rfl)) da_nil))))))))) dss_nil)
      (dss_one (ds_ret (de_and (de_callB dcall_isi (by rfl) T.n_isinstance (by decide +kernel) (da_cons (de_var (pv 0)) (da_cons (de_c (pe_bltn (v := .ty "int") (by rfl) T.n_int (by decide +kernel) rfl) fun _ => .ty .int) da_nil))) (de_and (de_not (de_callB dcall_isi (by rfl) T.n_isinstance (by decide +kernel) (da_cons (de_var (pv 0)) (da_cons (de_c (pe_bltn (v := .ty "bool") (by rfl) T.n_bool (by decide +kernel) rfl) fun _ => .ty .bool) da_nil)))) (de_one (de_cmp (dop_eqB hr.units) (de_var (pv 0)) (de_var (pv 1)) (nomark _))))))))) (rd_law_is n)
theorem ok_law_is (T : Tx K mg) : FnOk P w K mg base CX0 4 T.law_is.f T.law_is.fd P_law_is (cSp K sp_law_is) := ok_law_is_n T 3
theorem ok_law_place_is (T : Tx K mg) : FnOk P w K mg base CX0 5 T.law_place_is.f T.law_place_is.fd P_law_place_is (cSp K sp_law_place_is) :=
  DFun.ok2 T.law_place_is.F sc_law_place_is rfl rfl (k := 4) (t := t_law_place_is sp_law_is) (fun cdv A outer s H E hr => 
    (dss_one (ds_ret (de_and (de_callB dcall_isi (by rfl) T.n_isinstance (by decide +kernel) (da_cons (de_var (pv 0)) (da_cons (de_c (pe_bltn (v := .ty "tuple") (by rfl) T.n_tuple (by decide +kernel) rfl) fun _ => .ty .tup) da_nil))) (de_and (de_cmp (dop_eqQ hr.units) (de_callB dcall_len (by rfl) T.n_len (by decide +kernel) (da_cons (de_var (pv 0)) da_nil)) de_int (nomark _)) (de_and (de_call (ok_law_is T) (hr.mono (by decide)) rfl T.law_is.m T.law_is.F.kp T.law_is.b .nil (fun _ => .nil) pass0 (da_cons (de_ix dix_seq (de_var (pv 0)) de_int (fun _ _ => rfl)) (da_cons (de_ix dix_seq (de_var (pv 1)) de_int (fun _ _ => rfl)) da_nil))) (de_one (de_call (ok_law_is T) (hr.mono (by decide)) rfl T.law_is.m T.law_is.F.kp T.law_is.b .nil (fun _ => .nil) pass0 (da_cons (de_ix dix_seq (de_var (pv 0)) de_int (fun _ _ => rfl)) (da_cons (de_ix dix_seq (de_var (pv 1)) de_int (fun _ _ => rfl)) da_nil)))))))))) rd_law_place_is
theorem ok_law_measure (T : Tx K mg) : FnOk P w K mg base CX0 3 T.law_measure.f T.law_measure.fd P_law_measure (cSp K sp_law_measure) :=
  DFun.ok2 T.law_measure.F sc_law_measure rfl rfl (k := 2) (t := t_law_measure sp_law_sum sp_law_product) (fun cdv A outer s H E hr => 
    (dss_cons (ds_asg (g := (.tp [(.nm 2), (.nm 3)])) (de_var (pv 0)) (pg_tp rfl (pgs_c (pg_nm (pg_name (i := 2) sc_law_measure.nd rfl (by first | exact Or.inl rfl | exact Or.inr rfl))) (pgs_c (pg_nm (pg_name (i := 3) sc_law_measure.nd rfl (by first | exact Or.inl rfl | exact Or.inr rfl))) pgs_n))))
      (dss_cons (ds_set (i := 4) sc_law_measure.nd rfl (by first | exact Or.inl rfl | exact Or.inr rfl) (de_call (ok_law_sum T) (hr.mono (by decide)) rfl T.law_sum.m T.law_sum.F.kp T.law_sum.b .nil (fun _ => .nil) pass0 (da_cons (de_call (ok_law_product T) (hr.mono (by decide)) rfl T.law_product.m T.law_product.F.kp T.law_product.b .nil (fun _ => .nil) pass0 (da_cons (de_var (pv 2)) (da_cons (de_ix dix_seq (de_var (pv 1)) de_int (fun _ _ => rfl)) da_nil))) (da_cons (de_call (ok_law_product T) (hr.mono (by decide)) rfl T.law_product.m T.law_product.F.kp T.law_product.b .nil (fun _ => .nil) pass0 (da_cons (de_var (pv 3)) (da_cons (de_ix dix_seq (de_var (pv 1)) de_int (fun _ _ => rfl)) da_nil))) da_nil))))
      (dss_one (ds_ret (de_call (ok_law_product T) (hr.mono (by decide)) rfl T.law_product.m T.law_product.F.kp T.law_product.b .nil (fun _ => .nil) pass0 (da_cons (de_var (pv 4)) (da_cons (de_ifExp (dt_cmp dop_gt (de_ix dix_seq (de_var (pv 1)) de_int (fun _ _ => rfl)) de_int (nomark _)) (de_tup (da_cons de_int (da_cons (de_ix dix_seq (de_var (pv 1)) de_int (fun _ _ => rfl)) da_nil))) de_int) da_nil)))))))) rd_law_measure
theorem ok_measure (T : Tx K mg) : FnOk P w K mg base CX0 5 T.measure.f T.measure.fd P_measure (cSp K sp_measure) :=
  DFun.ok2 T.measure.F sc_measure rfl rfl (k := 4) (t := t_measure sp_is_place sp_need_way sp_over sp_plus sp_times) (fun cdv A outer s H E hr => 
    (dss_cons (ds_if (dt_not (dt_truth (de_call (ok_is_place T) (hr.mono (by decide)) rfl T.is_place.m T.is_place.F.kp T.is_place.b .nil (fun _ => .nil) pass0 (da_cons (de_var (pv 0)) da_nil)))) (dss_one ds_never) dss_nil)
      (dss_cons (ds_expr (de_call (ok_need_way T) (hr.mono (by decide)) rfl T.need_way.m T.need_way.F.kp T.need_way.b .nil (fun _ => .nil) pass0 (da_cons (de_var (pv 1)) da_nil)))
      (dss_cons (ds_asg (g := (.tp [(.nm 2), (.nm 3), (.nm 4)])) (de_var (pv 1)) (pg_tp rfl (pgs_c (pg_nm (pg_name (i := 2) sc_measure.nd rfl (by first | exact Or.inl rfl | exact Or.inr rfl))) (pgs_c (pg_nm (pg_name (i := 3) sc_measure.nd rfl (by first | exact Or.inl rfl | exact Or.inr rfl))) (pgs_c (pg_nm (pg_name (i := 4) sc_measure.nd rfl (by first | exact Or.inl rfl | exact Or.inr rfl))) pgs_n)))))
      (dss_one (ds_ret (de_call (ok_over T) (hr.mono (by decide)) rfl T.over.m T.over.F.kp T.over.b .nil (fun _ => .nil) pass0 (da_cons (de_call (ok_plus T) (hr.mono (by decide)) rfl T.plus.m T.plus.F.kp T.plus.b .nil (fun _ => .nil) pass0 (da_cons (de_call (ok_times T) (hr.mono (by decide)) rfl T.times.m T.times.F.kp T.times.b .nil (fun _ => .nil) pass0 (da_cons (de_ix dix_seq (de_var (pv 0)) de_int (fun _ _ => rfl)) (da_cons (de_var (pv 2)) da_nil))) (da_cons (de_call (ok_times T) (hr.mono (by decide)) rfl T.times.m T.times.F.kp T.times.b .nil (fun _ => .nil) pass0 (da_cons (de_ix dix_seq (de_var (pv 0)) de_int (fun _ _ => rfl)) (da_cons (de_var (pv 3)) da_nil))) da_nil))) (da_cons (de_var (pv 4)) da_nil))))))))) rd_measure
theorem ok_law_right (T : Tx K mg) : FnOk P w K mg base CX0 6 T.law_right.f T.law_right.fd P_law_right (cSp K sp_law_right) :=
  DFun.ok4 T.law_right.F sc_law_right rfl rfl (k := 5) (t := t_law_right sp_law_slid sp_slide sp_law_place_is sp_law_sum sp_law_is sp_law_measure sp_measure) (fun cdv A outer s H E hr => 
    (dss_cons (ds_set (i := 4) sc_law_right.nd rfl (by first | exact Or.inl rfl | exact Or.inr rfl) (de_call (ok_law_slid T) (hr.mono (by decide)) rfl T.law_slid.m T.law_slid.F.kp T.law_slid.b .nil (fun _ => .nil) pass0 (da_cons (de_var (pv 0)) (da_cons (de_var (pv 1)) (da_cons (de_var (pv 2)) da_nil)))))
      (dss_cons (ds_set (i := 5) sc_law_right.nd rfl (by first | exact Or.inl rfl | exact Or.inr rfl) (de_lst (da_cons (de_callK (ks := ["way"]) (mds := []) (ok_slide T) (hr.mono (by decide)) rfl T.slide.m T.slide.F.kp T.slide_kb1 (fun _ => .nil) pass0 (da_cons (de_var (pv 0)) (da_cons (de_var (pv 1)) da_nil)) (dk_cons (de_var (pv 2)) dk_nil)) (da_cons (de_callK (ks := ["way", "by"]) (mds := []) (ok_slide T) (hr.mono (by decide)) rfl T.slide.m T.slide.F.kp T.slide_kb0 (fun _ => .nil) pass0 (da_cons (de_var (pv 0)) da_nil) (dk_cons (de_var (pv 2)) (dk_cons (de_var (pv 1)) dk_nil))) da_nil))))
      (dss_cons (ds_if (dt_w (dw_or (dt_not (dt_truth (de_call (ok_law_place_is T) (hr.mono (by decide)) rfl T.law_place_is.m T.law_place_is.F.kp T.law_place_is.b .nil (fun _ => .nil) pass0 (da_cons (de_ix dix_seq (de_var (pv 5)) de_int (fun _ _ => rfl)) (da_cons (de_var (pv 4)) da_nil))))) (dw_or1 (dt_not (dt_truth (de_call (ok_law_place_is T) (hr.mono (by decide)) rfl T.law_place_is.m T.law_place_is.F.kp T.law_place_is.b .nil (fun _ => .nil) pass0 (da_cons (de_ix dix_seq (de_var (pv 5)) de_int (fun _ _ => rfl)) (da_cons (de_var (pv 4)) da_nil)))))))) (dss_one (ds_ret de_bl)) dss_nil)
      (dss_cons (ds_if (dt_not (dt_truth (de_call (ok_law_place_is T) (hr.mono (by decide)) rfl T.law_place_is.m T.law_place_is.F.kp T.law_place_is.b .nil (fun _ => .nil) pass0 (da_cons (de_callK (ks := []) (mds := [D.tup [D.int 1, D.int 0, D.int 1]]) (ok_slide T) (hr.mono (by decide)) rfl T.slide.m T.slide.F.kp T.slide_kb2 (fun _ => .cons (T.g_EAST.rep _) .nil) pass0 (da_cons (de_var (pv 0)) (da_cons (de_var (pv 1)) da_nil)) dk_nil) (da_cons (de_tup (da_cons (de_call (ok_law_sum T) (hr.mono (by decide)) rfl T.law_sum.m T.law_sum.F.kp T.law_sum.b .nil (fun _ => .nil) pass0 (da_cons (de_ix dix_seq (de_var (pv 0)) de_int (fun _ _ => rfl)) (da_cons (de_var (pv 1)) da_nil))) (da_cons (de_ix dix_seq (de_var (pv 0)) de_int (fun _ _ => rfl)) da_nil))) da_nil))))) (dss_one (ds_ret de_bl)) dss_nil)
      (dss_cons (ds_for (g := (.nm 6)) PassesOwn.never rfl (di_seq (de_lst (da_cons (de_var (pv 0)) (da_cons (de_var (pv 4)) da_nil)))) (pg_nm (pg_name (i := 6) sc_law_right.nd rfl (by first | exact Or.inl rfl | exact Or.inr rfl))) (dss_one (ds_for (g := (.nm 7)) PassesOwn.never rfl (di_seq (de_lst (da_cons (de_var (pv 3)) (da_cons (de_var (pv 2)) (da_cons (de_gtI (x := "EAST") (ns := [1, 0, 1]) T.g_EAST (by rfl)) (da_cons (de_gtI (x := "NORTH") (ns := [0, 1, 1]) T.g_NORTH (by rfl)) da_nil)))))) (pg_nm (pg_name (i := 7) sc_law_right.nd rfl (by first | exact Or.inl rfl | exact Or.inr rfl))) (dss_one (ds_if (dt_not (dt_truth (de_call (ok_law_is T) (hr.mono (by decide)) rfl T.law_is.m T.law_is.F.kp T.law_is.b .nil (fun _ => .nil) pass0 (da_cons (de_call (ok_measure T) (hr.mono (by decide)) rfl T.measure.m T.measure.F.kp T.measure.b .nil (fun _ => .nil) pass0 (da_cons (de_var (pv 6)) (da_cons (de_var (pv 7)) da_nil))) (da_cons (de_call (ok_law_measure T) (hr.mono (by decide)) rfl T.law_measure.m T.law_measure.F.kp T.law_measure.b .nil (fun _ => .nil) pass0 (da_cons (de_var (pv 6)) (da_cons (de_var (pv 7)) da_nil))) da_nil))))) (dss_one (ds_ret de_bl)) dss_nil)))))
      (dss_one (ds_ret (de_call (ok_law_is T) (hr.mono (by decide)) rfl T.law_is.m T.law_is.F.kp T.law_is.b .nil (fun _ => .nil) pass0 (da_cons (de_call (ok_measure T) (hr.mono (by decide)) rfl T.measure.m T.measure.F.kp T.measure.b .nil (fun _ => .nil) pass0 (da_cons (de_ix dix_seq (de_var (pv 5)) de_int (fun _ _ => rfl)) (da_cons (de_var (pv 2)) da_nil))) (da_cons (de_call (ok_law_sum T) (hr.mono (by decide)) rfl T.law_sum.m T.law_sum.F.kp T.law_sum.b .nil (fun _ => .nil) pass0 (da_cons (de_call (ok_law_measure T) (hr.mono (by decide)) rfl T.law_measure.m T.law_measure.F.kp T.law_measure.b .nil (fun _ => .nil) pass0 (da_cons (de_var (pv 0)) (da_cons (de_var (pv 2)) da_nil))) (da_cons (de_var (pv 1)) da_nil))) da_nil))))))))))) rd_law_right
theorem ok_law_asked_one (T : Tx K mg) : FnG P w K mg base 7 T.law_asked_one.f T.law_asked_one.fd P_law_asked_one (cSp K sp_law_asked_one) :=
  DFunG.ok1 T.law_asked_one.F sc_law_asked_one rfl rfl (k := 6) (t := t_law_asked_one K sp_law_box sp_law_cell sp_law_slope sp_law_drawn sp_law_way_right sp_law_take sp_law_far sp_law_no_way sp_law_right) (fun cdv A outer s H E hr hgd => 
    (dss_cons (ds_if (dt_w (dw_or (dt_cmp (dop_neB hr.units) (de_gtI (x := "EAST") (ns := [1, 0, 1]) T.g_EAST (by rfl)) (de_tup (da_cons de_int (da_cons de_int (da_cons de_int da_nil)))) (nomark _)) (dw_or1 (dt_cmp (dop_neB hr.units) (de_gtI (x := "NORTH") (ns := [0, 1, 1]) T.g_NORTH (by rfl)) (de_tup (da_cons de_int (da_cons de_int (da_cons de_int da_nil)))) (nomark _))))) (dss_one (ds_ret de_bl)) dss_nil)
      (dss_cons (ds_for (g := (.nm 1)) PassesOwn.never rfl (di_range1 (by rfl) T.n_range (de_callB (dcall_max2 rfl) (by rfl) T.n_max (by decide +kernel) (da_cons de_int (da_cons (de_callB (dcall_min2 rfl) (by rfl) T.n_min (by decide +kernel) (da_cons de_int (da_cons (de_callB dcall_len (by rfl) T.n_len (by decide +kernel) (da_cons (de_var (pv 0)) da_nil)) da_nil))) da_nil)))) (pg_nm (pg_name (i := 1) sc_law_asked_one.nd rfl (by first | exact Or.inl rfl | exact Or.inr rfl))) (dss_cons (ds_set (i := 2) sc_law_asked_one.nd rfl (by first | exact Or.inl rfl | exact Or.inr rfl) (de_call (ok_law_box T) (hr.mono (by decide)) rfl T.law_box.m T.law_box.F.kp T.law_box.b .nil (fun _ => .nil) pass0 (da_cons (de_call (ok_law_cell T) (hr.mono (by decide)) rfl T.law_cell.m T.law_cell.F.kp T.law_cell.b .nil (fun _ => .nil) pass0 (da_cons (de_var (pv 0)) (da_cons (de_var (pv 1)) da_nil))) da_nil)))
      (dss_cons (ds_par (i := 3) (j := 4) rfl sc_law_asked_one.nd rfl rfl (by decide) rfl rfl (da_cons (de_call (ok_law_slope T) (hr.mono (by decide)) rfl T.law_slope.m T.law_slope.F.kp T.law_slope.b .nil (fun _ => .nil) pass0 (da_cons (de_var (pv 2)) da_nil)) (da_cons (de_call (ok_law_slope T) (hr.mono (by decide)) rfl T.law_slope.m T.law_slope.F.kp T.law_slope.b .nil (fun _ => .nil) pass0 (da_cons (de_var (pv 2)) da_nil)) da_nil)) (by rfl))
      (dss_cons (ds_set (i := 5) sc_law_asked_one.nd rfl (by first | exact Or.inl rfl | exact Or.inr rfl) (de_tup (da_cons (de_call (ok_law_drawn T) (hr.mono (by decide)) rfl T.law_drawn.m T.law_drawn.F.kp T.law_drawn.b .nil (fun _ => .nil) pass0 (da_cons (de_var (pv 2)) da_nil)) (da_cons (de_call (ok_law_drawn T) (hr.mono (by decide)) rfl T.law_drawn.m T.law_drawn.F.kp T.law_drawn.b .nil (fun _ => .nil) pass0 (da_cons (de_var (pv 2)) da_nil)) da_nil))))
      (dss_cons (ds_if (dt_w (dw_or (dt_not (dt_truth (de_callG (ok_law_way_right T) (hr.mono (by decide)) hgd rfl T.law_way_right.m T.law_way_right.F.kp T.law_way_right.b (da_cons (de_ix dix_seq (de_var (pv 3)) de_int (fun _ _ => rfl)) (da_cons (de_ix dix_seq (de_var (pv 3)) de_int (fun _ _ => rfl)) da_nil))))) (dw_or1 (dt_not (dt_truth (de_callG (ok_law_way_right T) (hr.mono (by decide)) hgd rfl T.law_way_right.m T.law_way_right.F.kp T.law_way_right.b (da_cons (de_op dop_add (de_ix dix_seq (de_var (pv 3)) de_int (fun _ _ => rfl)) de_int) (da_cons (de_ix dix_seq (de_var (pv 4)) de_int (fun _ _ => rfl)) da_nil)))))))) (dss_one (ds_ret de_bl)) dss_nil)
      (dss_cons (ds_if (dt_w (dw_or (dt_not (dt_truth (de_callG (ok_law_way_right T) (hr.mono (by decide)) hgd rfl T.law_way_right.m T.law_way_right.F.kp T.law_way_right.b (da_cons (de_call (ok_law_far T) (hr.mono (by decide)) rfl T.law_far.m T.law_far.F.kp T.law_far.b .nil (fun _ => .nil) pass0 (da_cons (de_var (pv 2)) da_nil)) (da_cons (de_call (ok_law_take T) (hr.mono (by decide)) rfl T.law_take.m T.law_take.F.kp T.law_take.b .nil (fun _ => .nil) pass0 (da_cons (de_var (pv 2)) (da_cons de_int da_nil))) da_nil))))) (dw_or1 (dt_not (dt_truth (de_callG (ok_law_no_way T) (hr.mono (by decide)) hgd rfl T.law_no_way.m T.law_no_way.F.kp T.law_no_way.b (da_cons (de_var (pv 2)) (da_cons (de_var (pv 3)) da_nil)))))))) (dss_one (ds_ret de_bl)) dss_nil)
      (dss_one (ds_if (dt_not (dt_truth (de_call (ok_law_right T) (hr.mono (by decide)) rfl T.law_right.m T.law_right.F.kp T.law_right.b .nil (fun _ => .nil) pass0 (da_cons (de_var (pv 5)) (da_cons (de_call (ok_law_drawn T) (hr.mono (by decide)) rfl T.law_drawn.m T.law_drawn.F.kp T.law_drawn.b .nil (fun _ => .nil) pass0 (da_cons (de_var (pv 2)) da_nil)) (da_cons (de_var (pv 3)) (da_cons (de_var (pv 4)) da_nil))))))) (dss_one (ds_ret de_bl)) dss_nil))))))))
      (dss_one (ds_ghost (ds_ret de_bl)))))) rd_law_asked_one
theorem ok_law_cell_two (T : Tx K mg) : FnOk P w K mg base CX0 1 T.law_cell_two.f T.law_cell_two.fd P_law_cell_two (cSp K sp_law_cell_two) :=
  DFun.ok2 T.law_cell_two.F sc_law_cell_two rfl rfl (k := 0) (t := t_law_cell_two) (fun cdv A outer s H E hr => 
    (dss_cons (ds_if (dt_cmp dop_lt (de_var (pv 1)) (de_callB dcall_len (by rfl) T.n_len (by decide +kernel) (da_cons (de_var (pv 0)) da_nil)) (nomark _)) (dss_one (ds_ret (de_ix dix_seq (de_var (pv 0)) (de_var (pv 1)) (fun _ _ => rfl)))) dss_nil)
      (dss_one (ds_ret (de_op dop_add (de_op dop_mul de_int (de_var (pv 1))) de_int))))) rd_law_cell_two
theorem ok_law_take_two (T : Tx K mg) : FnOk P w K mg base CX0 1 T.law_take_two.f T.law_take_two.fd P_law_take_two (cSp K sp_law_take_two) :=
  DFun.ok2 T.law_take_two.F sc_law_take_two rfl rfl (k := 0) (t := t_law_take_two) (fun cdv A outer s H E hr => 
    (dss_cons (ds_if (dt_cmp dop_gt (de_ix dix_seq (de_var (pv 0)) de_int (fun _ _ => rfl)) de_int (nomark _)) (dss_cons (ds_set (i := 2) sc_law_take_two.nd rfl (by first | exact Or.inl rfl | exact Or.inr rfl) (de_op dop_mod (de_ix dix_seq (de_var (pv 0)) de_int (fun _ _ => rfl)) (de_var (pv 1))))
      (dss_cons (ds_sub (de_op dop_fdiv (de_ix dix_seq (de_var (pv 0)) de_int (fun _ _ => rfl)) (de_var (pv 1))) (de_var (pv 0)) de_int)
      (dss_one (ds_ret (de_var (pv 2)))))) dss_nil)
      (dss_cons (ds_sub (de_op dop_add (de_ix dix_seq (de_var (pv 0)) de_int (fun _ _ => rfl)) de_int) (de_var (pv 0)) de_int)
      (dss_cons (ds_set (i := 3) sc_law_take_two.nd rfl (by first | exact Or.inl rfl | exact Or.inr rfl) (de_op dop_mod (de_op dop_pow (de_op dop_add (de_op dop_add (de_ix dix_seq (de_var (pv 0)) de_int (fun _ _ => rfl)) (de_op dop_mul de_int (de_ix dix_seq (de_var (pv 0)) de_int (fun _ _ => rfl)))) de_int) de_int) de_int))
      (dss_cons (ds_set (i := 3) sc_law_take_two.nd rfl (by first | exact Or.inl rfl | exact Or.inr rfl) (de_op dop_mod (de_op dop_pow (de_op dop_add (de_var (pv 3)) (de_op dop_mul de_int (de_ix dix_seq (de_var (pv 0)) de_int (fun _ _ => rfl)))) de_int) de_int))
      (dss_one (ds_ret (de_op dop_mod (de_op dop_fdiv (de_var (pv 3)) de_int) (de_var (pv 1)))))))))) rd_law_take_two
theorem ok_law_slope_two (T : Tx K mg) : FnOk P w K mg base CX0 2 T.law_slope_two.f T.law_slope_two.fd P_law_slope_two (cSp K sp_law_slope_two) :=
  DFun.ok1 T.law_slope_two.F sc_law_slope_two rfl rfl (k := 1) (t := t_law_slope_two sp_law_take_two) (fun cdv A outer s H E hr => 
    (dss_cons (ds_set (i := 1) sc_law_slope_two.nd rfl (by first | exact Or.inl rfl | exact Or.inr rfl) (de_call (ok_law_take_two T) (hr.mono (by decide)) rfl T.law_take_two.m T.law_take_two.F.kp T.law_take_two.b .nil (fun _ => .nil) pass0 (da_cons (de_var (pv 0)) (da_cons de_int da_nil))))
      (dss_cons (ds_if (dt_cmp (dop_eqQ hr.units) (de_var (pv 1)) de_int (nomark _)) (dss_cons (ds_asg (g := (.tp [(.nm 2), (.nm 3)])) (de_ix dix_seq (de_lst (da_cons (de_tup (da_cons de_int (da_cons de_int da_nil))) (da_cons (de_tup (da_cons de_int (da_cons de_int da_nil))) da_nil))) (de_call (ok_law_take_two T) (hr.mono (by decide)) rfl T.law_take_two.m T.law_take_two.F.kp T.law_take_two.b .nil (fun _ => .nil) pass0 (da_cons (de_var (pv 0)) (da_cons de_int da_nil))) (fun _ _ => rfl)) (pg_tp rfl (pgs_c (pg_nm (pg_name (i := 2) sc_law_slope_two.nd rfl (by first | exact Or.inl rfl | exact Or.inr rfl))) (pgs_c (pg_nm (pg_name (i := 3) sc_law_slope_two.nd rfl (by first | exact Or.inl rfl | exact Or.inr rfl))) pgs_n))))
      (dss_cons (ds_set (i := 4) sc_law_slope_two.nd rfl (by first | exact Or.inl rfl | exact Or.inr rfl) (de_ix dix_seq (de_lst (da_cons de_int (da_cons (de_op dop_add de_int (de_call (ok_law_take_two T) (hr.mono (by decide)) rfl T.law_take_two.m T.law_take_two.F.kp T.law_take_two.b .nil (fun _ => .nil) pass0 (da_cons (de_var (pv 0)) (da_cons de_int da_nil)))) da_nil))) (de_call (ok_law_take_two T) (hr.mono (by decide)) rfl T.law_take_two.m T.law_take_two.F.kp T.law_take_two.b .nil (fun _ => .nil) pass0 (da_cons (de_var (pv 0)) (da_cons de_int da_nil))) (fun _ _ => rfl)))
      (dss_one (ds_par3 (i := 2) (j := 3) (l := 5) rfl sc_law_slope_two.nd rfl rfl rfl (by decide) (by decide) (by decide) rfl rfl rfl (da_cons (de_op dop_mul (de_var (pv 2)) (de_var (pv 4))) (da_cons (de_op dop_mul (de_var (pv 3)) (de_var (pv 4))) (da_cons (de_var (pv 4)) da_nil))) (by rfl))))) (dss_cons (ds_par (i := 6) (j := 7) rfl sc_law_slope_two.nd rfl rfl (by decide) rfl rfl (da_cons (de_op dop_add de_int (de_call (ok_law_take_two T) (hr.mono (by decide)) rfl T.law_take_two.m T.law_take_two.F.kp T.law_take_two.b .nil (fun _ => .nil) pass0 (da_cons (de_var (pv 0)) (da_cons de_int da_nil)))) (da_cons (de_op dop_add de_int (de_call (ok_law_take_two T) (hr.mono (by decide)) rfl T.law_take_two.m T.law_take_two.F.kp T.law_take_two.b .nil (fun _ => .nil) pass0 (da_cons (de_var (pv 0)) (da_cons de_int da_nil)))) da_nil)) (by rfl))
      (dss_cons (ds_if (dt_cmp (dop_eqQ hr.units) (de_var (pv 7)) (de_var (pv 6)) (nomark _)) (dss_one (ds_set (i := 7) sc_law_slope_two.nd rfl (by first | exact Or.inl rfl | exact Or.inr rfl) de_int)) dss_nil)
      (dss_cons (ds_set (i := 5) sc_law_slope_two.nd rfl (by first | exact Or.inl rfl | exact Or.inr rfl) (de_op dop_add (de_op dop_mul (de_var (pv 6)) (de_var (pv 6))) (de_op dop_mul (de_var (pv 7)) (de_var (pv 7)))))
      (dss_cons (ds_set (i := 4) sc_law_slope_two.nd rfl (by first | exact Or.inl rfl | exact Or.inr rfl) (de_op dop_add de_int (de_call (ok_law_take_two T) (hr.mono (by decide)) rfl T.law_take_two.m T.law_take_two.F.kp T.law_take_two.b .nil (fun _ => .nil) pass0 (da_cons (de_var (pv 0)) (da_cons (de_op dop_fdiv de_int (de_var (pv 5))) da_nil)))))
      (dss_cons (ds_set (i := 2) sc_law_slope_two.nd rfl (by first | exact Or.inl rfl | exact Or.inr rfl) (de_op dop_mul (de_callB dcall_abs (by rfl) T.n_abs (by decide +kernel) (da_cons (de_op dop_sub (de_op dop_mul (de_var (pv 6)) (de_var (pv 6))) (de_op dop_mul (de_var (pv 7)) (de_var (pv 7)))) da_nil)) (de_var (pv 4))))
      (dss_cons (ds_set (i := 3) sc_law_slope_two.nd rfl (by first | exact Or.inl rfl | exact Or.inr rfl) (de_op dop_mul (de_op dop_mul (de_op dop_mul de_int (de_var (pv 6))) (de_var (pv 7))) (de_var (pv 4))))
      (dss_one (ds_set (i := 5) sc_law_slope_two.nd rfl (by first | exact Or.inl rfl | exact Or.inr rfl) (de_op dop_mul (de_var (pv 5)) (de_var (pv 4))))))))))))
      (dss_cons (ds_if (dt_cmp (dop_eqQ hr.units) (de_call (ok_law_take_two T) (hr.mono (by decide)) rfl T.law_take_two.m T.law_take_two.F.kp T.law_take_two.b .nil (fun _ => .nil) pass0 (da_cons (de_var (pv 0)) (da_cons de_int da_nil))) de_int (nomark _)) (dss_one (ds_par (i := 2) (j := 3) rfl sc_law_slope_two.nd rfl rfl (by decide) rfl rfl (da_cons (de_var (pv 3)) (da_cons (de_var (pv 2)) da_nil)) (by rfl))) dss_nil)
      (dss_one (ds_ret (de_tup (da_cons (de_op dop_mul (de_var (pv 2)) (de_ix dix_seq (de_lst (da_cons de_int (da_cons (de_op dop_sub de_int de_int) da_nil))) (de_call (ok_law_take_two T) (hr.mono (by decide)) rfl T.law_take_two.m T.law_take_two.F.kp T.law_take_two.b .nil (fun _ => .nil) pass0 (da_cons (de_var (pv 0)) (da_cons de_int da_nil))) (fun _ _ => rfl))) (da_cons (de_op dop_mul (de_var (pv 3)) (de_ix dix_seq (de_lst (da_cons de_int (da_cons (de_op dop_sub de_int de_int) da_nil))) (de_call (ok_law_take_two T) (hr.mono (by decide)) rfl T.law_take_two.m T.law_take_two.F.kp T.law_take_two.b .nil (fun _ => .nil) pass0 (da_cons (de_var (pv 0)) (da_cons de_int da_nil))) (fun _ _ => rfl))) (da_cons (de_var (pv 5)) da_nil)))))))))) rd_law_slope_two
theorem ok_law_far_two (T : Tx K mg) : FnOk P w K mg base CX0 2 T.law_far_two.f T.law_far_two.fd P_law_far_two (cSp K sp_law_far_two) :=
  DFun.ok1 T.law_far_two.F sc_law_far_two rfl rfl (k := 1) (t := t_law_far_two sp_law_take_two) (fun cdv A outer s H E hr => 
    (dss_cons (ds_set (i := 1) sc_law_far_two.nd rfl (by first | exact Or.inl rfl | exact Or.inr rfl) de_int)
      (dss_cons (ds_for (g := (.nm 2)) PassesOwn.never rfl (di_range1 (by rfl) T.n_range (de_op dop_add de_int (de_call (ok_law_take_two T) (hr.mono (by decide)) rfl T.law_take_two.m T.law_take_two.F.kp T.law_take_two.b .nil (fun _ => .nil) pass0 (da_cons (de_var (pv 0)) (da_cons de_int da_nil))))) (pg_nm (pg_name (i := 2) sc_law_far_two.nd rfl (by first | exact Or.inl rfl | exact Or.inr rfl))) (dss_one (ds_set (i := 1) sc_law_far_two.nd rfl (by first | exact Or.inl rfl | exact Or.inr rfl) (de_op dop_add (de_op dop_mul de_int (de_var (pv 1))) (de_call (ok_law_take_two T) (hr.mono (by decide)) rfl T.law_take_two.m T.law_take_two.F.kp T.law_take_two.b .nil (fun _ => .nil) pass0 (da_cons (de_var (pv 0)) (da_cons de_int da_nil)))))))
      (dss_one (ds_ret (de_ix dix_seq (de_lst (da_cons (de_var (pv 1)) (da_cons (de_op dop_sub de_int (de_var (pv 1))) (da_cons (de_op dop_sub (de_op dop_mod (de_var (pv 1)) de_int) de_int) da_nil)))) (de_call (ok_law_take_two T) (hr.mono (by decide)) rfl T.law_take_two.m T.law_take_two.F.kp T.law_take_two.b .nil (fun _ => .nil) pass0 (da_cons (de_var (pv 0)) (da_cons de_int da_nil))) (fun _ _ => rfl))))))) rd_law_far_two
theorem ok_law_drawn_two (T : Tx K mg) : FnOk P w K mg base CX0 3 T.law_drawn_two.f T.law_drawn_two.fd P_law_drawn_two (cSp K sp_law_drawn_two) :=
  DFun.ok1 T.law_drawn_two.F sc_law_drawn_two rfl rfl (k := 2) (t := t_law_drawn_two sp_law_far_two sp_law_take_two sp_law_number) (fun cdv A outer s H E hr => 
    (dss_cons (ds_set (i := 1) sc_law_drawn_two.nd rfl (by first | exact Or.inl rfl | exact Or.inr rfl) (de_ix dix_seq (de_lst (da_cons (de_op dop_sub (de_call (ok_law_take_two T) (hr.mono (by decide)) rfl T.law_take_two.m T.law_take_two.F.kp T.law_take_two.b .nil (fun _ => .nil) pass0 (da_cons (de_var (pv 0)) (da_cons de_int da_nil))) de_int) (da_cons (de_call (ok_law_far_two T) (hr.mono (by decide)) rfl T.law_far_two.m T.law_far_two.F.kp T.law_far_two.b .nil (fun _ => .nil) pass0 (da_cons (de_var (pv 0)) da_nil)) da_nil))) (de_call (ok_law_take_two T) (hr.mono (by decide)) rfl T.law_take_two.m T.law_take_two.F.kp T.law_take_two.b .nil (fun _ => .nil) pass0 (da_cons (de_var (pv 0)) (da_cons de_int da_nil))) (fun _ _ => rfl)))
      (dss_cons (ds_set (i := 2) sc_law_drawn_two.nd rfl (by first | exact Or.inl rfl | exact Or.inr rfl) (de_ix dix_seq (de_lst (da_cons de_int (da_cons de_int (da_cons (de_op dop_add de_int (de_call (ok_law_take_two T) (hr.mono (by decide)) rfl T.law_take_two.m T.law_take_two.F.kp T.law_take_two.b .nil (fun _ => .nil) pass0 (da_cons (de_var (pv 0)) (da_cons de_int da_nil)))) (da_cons (de_op dop_add de_int (de_callB dcall_abs (by rfl) T.n_abs (by decide +kernel) (da_cons (de_call (ok_law_far_two T) (hr.mono (by decide)) rfl T.law_far_two.m T.law_far_two.F.kp T.law_far_two.b .nil (fun _ => .nil) pass0 (da_cons (de_var (pv 0)) da_nil)) da_nil))) da_nil))))) (de_call (ok_law_take_two T) (hr.mono (by decide)) rfl T.law_take_two.m T.law_take_two.F.kp T.law_take_two.b .nil (fun _ => .nil) pass0 (da_cons (de_var (pv 0)) (da_cons de_int da_nil))) (fun _ _ => rfl)))
      (dss_one (ds_ret (de_call (ok_law_number T) (hr.mono (by decide)) rfl T.law_number.m T.law_number.F.kp T.law_number.b .nil (fun _ => .nil) pass0 (da_cons (de_var (pv 1)) (da_cons (de_var (pv 2)) da_nil)))))))) rd_law_drawn_two
theorem ok_moved (T : Tx K mg) : FnOk P w K mg base (L2N.CX P w) 6 T.moved.f T.moved.fd P_moved (cSp K (sp_moved K)) :=
  DFunXN.ok4 T.moved.F sc_moved rfl rfl (k := 5) (t := t_moved K sp_is_place sp_is_number sp_need_way sp_slide sp_over sp_times) (fun cdv A outer s H E hr => 
    (dss_cons (ds_if (dt_not (dt_truth (de_call (ok_is_place T) (hr.mono (by decide)) rfl T.is_place.m T.is_place.F.kp T.is_place.b .nil (fun _ => .nil) pass0 (da_cons (de_var (pv 0)) da_nil)))) (dss_one ds_never) dss_nil)
      (dss_cons (ds_if (dt_not (dt_truth (de_call (ok_is_number T) (hr.mono (by decide)) rfl T.is_number.m T.is_number.F.kp T.is_number.b .nil (fun _ => .nil) pass0 (da_cons (de_var (pv 1)) da_nil)))) (dss_one ds_never) dss_nil)
      (dss_cons (ds_expr (de_call (ok_need_way T) (hr.mono (by decide)) rfl T.need_way.m T.need_way.F.kp T.need_way.b .nil (fun _ => .nil) pass0 (da_cons (de_var (pv 2)) da_nil)))
      (dss_cons (ds_expr (de_call (ok_need_way T) (hr.mono (by decide)) rfl T.need_way.m T.need_way.F.kp T.need_way.b .nil (fun _ => .nil) pass0 (da_cons (de_var (pv 3)) da_nil)))
      (dss_cons (ds_set (i := 4) sc_moved.nd rfl (by first | exact Or.inl rfl | exact Or.inr rfl) (de_op dop_add (de_op dop_mul (de_ix dix_seq (de_var (pv 2)) de_int (fun _ _ => rfl)) (de_ix dix_seq (de_var (pv 3)) de_int (fun _ _ => rfl))) (de_op dop_mul (de_ix dix_seq (de_var (pv 2)) de_int (fun _ _ => rfl)) (de_ix dix_seq (de_var (pv 3)) de_int (fun _ _ => rfl)))))
      (dss_cons (ds_if (dt_cmp (dop_eqQ hr.units) (de_var (pv 4)) de_int (nomark _)) (dss_one (ds_raiseN rfl takes_cxN (dm_mk1N T.x_NoWay.o T.x_NoWay.ini T.x_NoWay.ti (ok_i_NoWay T) (hr.mono (by decide)) T.i_NoWay_b (by rfl) T.x_NoWay.m (da_cons (de_tup (da_cons (de_var (pv 2)) (da_cons (de_var (pv 3)) da_nil))) da_nil)))) dss_nil)
      (dss_one (ds_ret (de_callK (ks := ["way"]) (mds := []) (ok_slide T) (hr.mono (by decide)) rfl T.slide.m T.slide.F.kp T.slide_kb1 (fun _ => .nil) pass0 (da_cons (de_var (pv 0)) (da_cons (de_call (ok_over T) (hr.mono (by decide)) rfl T.over.m T.over.F.kp T.over.b .nil (fun _ => .nil) pass0 (da_cons (de_call (ok_times T) (hr.mono (by decide)) rfl T.times.m T.times.F.kp T.times.b .nil (fun _ => .nil) pass0 (da_cons (de_var (pv 1)) (da_cons (de_op dop_mul (de_ix dix_seq (de_var (pv 2)) de_int (fun _ _ => rfl)) (de_ix dix_seq (de_var (pv 3)) de_int (fun _ _ => rfl))) da_nil))) (da_cons (de_var (pv 4)) da_nil))) da_nil)) (dk_cons (de_var (pv 2)) dk_nil))))))))))) rd_moved
theorem ok_law_refused (T : Tx K mg) : FnOk P w K mg base CX0 7 T.law_refused.f T.law_refused.fd P_law_refused (cSp K sp_law_refused) :=
  DFun.ok4 T.law_refused.F sc_law_refused rfl rfl (k := 6) (t := t_law_refused K (sp_moved K)) (fun cdv A outer s H E hr => 
    (dss_cons (ds_tryEqN (i := 4) rfl rfl sc_law_refused.nd rfl rfl ⟨rfl, by decide, .inl T.x_NoWay.m⟩ takes_w0N (fun W1 pn xe t1 t2 => (dss_one (ds_exprX (de_callKXN (ks := ["move", "along"]) (mds := []) t1 (ok_moved T) (hr.mono (by decide)) rfl T.moved.m T.moved.F.kp T.moved_kb2 (fun _ => .nil) (da_cons (de_var (pv 0)) (da_cons (de_var (pv 1)) da_nil)) (dk_cons (de_var (pv 2)) (dk_cons (de_var (pv 3)) dk_nil)))))) T.x_NoWay.xf T.x_NoWay.no (fun a pn => pv 4) (fun a pn => dop_eqB hr.units) (fun a pn => (de_tup (da_cons (de_var (pv 2)) (da_cons (de_var (pv 3)) da_nil)))) rfl)
      (dss_one (ds_ret de_bl)))) (rd_law_refused T.x_NoWay.ex)
theorem ok_law_plain_place (T : Tx K mg) : FnOk P w K mg base CX0 5 T.law_plain_place.f T.law_plain_place.fd P_law_plain_place (cSp K sp_law_plain_place) :=
  DFun.ok1 T.law_plain_place.F sc_law_plain_place rfl rfl (k := 4) (t := t_law_plain_place sp_law_pair sp_law_is sp_law_number) (fun cdv A outer s H E hr => 
    (dss_cons (ds_if (dt_w (dw_or (dt_not (dt_truth (de_callB dcall_isi (by rfl) T.n_isinstance (by decide +kernel) (da_cons (de_var (pv 0)) (da_cons (de_c (pe_bltn (v := .ty "tuple") (by rfl) T.n_tuple (by decide +kernel) rfl) fun _ => .ty .tup) da_nil))))) (dw_or1 (dt_cmp (dop_neQ hr.units) (de_callB dcall_len (by rfl) T.n_len (by decide +kernel) (da_cons (de_var (pv 0)) da_nil)) de_int (nomark _))))) (dss_one (ds_ret de_bl)) dss_nil)
      (dss_cons (ds_for (g := (.nm 1)) PassesOwn.never rfl (di_seq (de_var (pv 0))) (pg_nm (pg_name (i := 1) sc_law_plain_place.nd rfl (by first | exact Or.inl rfl | exact Or.inr rfl))) (dss_cons (ds_asg (g := (.tp [(.nm 2), (.nm 3)])) (de_call (ok_law_pair T) (hr.mono (by decide)) rfl T.law_pair.m T.law_pair.F.kp T.law_pair.b .nil (fun _ => .nil) pass0 (da_cons (de_var (pv 1)) da_nil)) (pg_tp rfl (pgs_c (pg_nm (pg_name (i := 2) sc_law_plain_place.nd rfl (by first | exact Or.inl rfl | exact Or.inr rfl))) (pgs_c (pg_nm (pg_name (i := 3) sc_law_plain_place.nd rfl (by first | exact Or.inl rfl | exact Or.inr rfl))) pgs_n))))
      (dss_one (ds_if (dt_w (dw_or (dt_truth (de_callB dcall_isi (by rfl) T.n_isinstance (by decide +kernel) (da_cons (de_var (pv 2)) (da_cons (de_c (pe_bltn (v := .ty "bool") (by rfl) T.n_bool (by decide +kernel) rfl) fun _ => .ty .bool) da_nil)))) (dw_or (dt_not (dt_truth (de_callB dcall_isi (by rfl) T.n_isinstance (by decide +kernel) (da_cons (de_var (pv 2)) (da_cons (de_c (pe_bltn (v := .ty "int") (by rfl) T.n_int (by decide +kernel) rfl) fun _ => .ty .int) da_nil))))) (dw_or1 (dt_not (dt_truth (de_call (ok_law_is T) (hr.mono (by decide)) rfl T.law_is.m T.law_is.F.kp T.law_is.b .nil (fun _ => .nil) pass0 (da_cons (de_call (ok_law_number T) (hr.mono (by decide)) rfl T.law_number.m T.law_number.F.kp T.law_number.b .nil (fun _ => .nil) pass0 (da_cons (de_var (pv 2)) (da_cons (de_var (pv 3)) da_nil))) (da_cons (de_var (pv 1)) da_nil))))))))) (dss_one (ds_ret de_bl)) dss_nil))))
      (dss_one (ds_ret de_bl))))) rd_law_plain_place
theorem ok_law_measure_two (T : Tx K mg) : FnOk P w K mg base CX0 3 T.law_measure_two.f T.law_measure_two.fd P_law_measure_two (cSp K sp_law_measure_two) :=
  DFun.ok2 T.law_measure_two.F sc_law_measure_two rfl rfl (k := 2) (t := t_law_measure_two sp_law_sum sp_law_product) (fun cdv A outer s H E hr => 
    (dss_cons (ds_set (i := 2) sc_law_measure_two.nd rfl (by first | exact Or.inl rfl | exact Or.inr rfl) (de_call (ok_law_sum T) (hr.mono (by decide)) rfl T.law_sum.m T.law_sum.F.kp T.law_sum.b .nil (fun _ => .nil) pass0 (da_cons (de_call (ok_law_product T) (hr.mono (by decide)) rfl T.law_product.m T.law_product.F.kp T.law_product.b .nil (fun _ => .nil) pass0 (da_cons (de_ix dix_seq (de_var (pv 0)) de_int (fun _ _ => rfl)) (da_cons (de_ix dix_seq (de_var (pv 1)) de_int (fun _ _ => rfl)) da_nil))) (da_cons (de_call (ok_law_product T) (hr.mono (by decide)) rfl T.law_product.m T.law_product.F.kp T.law_product.b .nil (fun _ => .nil) pass0 (da_cons (de_ix dix_seq (de_var (pv 0)) de_int (fun _ _ => rfl)) (da_cons (de_ix dix_seq (de_var (pv 1)) de_int (fun _ _ => rfl)) da_nil))) da_nil))))
      (dss_one (ds_ret (de_call (ok_law_product T) (hr.mono (by decide)) rfl T.law_product.m T.law_product.F.kp T.law_product.b .nil (fun _ => .nil) pass0 (da_cons (de_var (pv 2)) (da_cons (de_ifExp (dt_cmp dop_gt (de_ix dix_seq (de_var (pv 1)) de_int (fun _ _ => rfl)) de_int (nomark _)) (de_tup (da_cons de_int (da_cons (de_ix dix_seq (de_var (pv 1)) de_int (fun _ _ => rfl)) da_nil))) de_int) da_nil))))))) rd_law_measure_two
theorem ok_law_moved_right (T : Tx K mg) : FnOk P w K mg base CX0 6 T.law_moved_right.f T.law_moved_right.fd P_law_moved_right (cSp K sp_law_moved_right) :=
  DFun.ok5 T.law_moved_right.F sc_law_moved_right rfl rfl (k := 5) (t := t_law_moved_right sp_law_plain_place sp_law_is sp_law_sum sp_law_measure_two sp_law_product) (fun cdv A outer s H E hr => 
    (dss_cons (ds_if (dt_not (dt_truth (de_call (ok_law_plain_place T) (hr.mono (by decide)) rfl T.law_plain_place.m T.law_plain_place.F.kp T.law_plain_place.b .nil (fun _ => .nil) pass0 (da_cons (de_var (pv 0)) da_nil)))) (dss_one (ds_ret de_bl)) dss_nil)
      (dss_cons (ds_if (dt_not (dt_truth (de_call (ok_law_is T) (hr.mono (by decide)) rfl T.law_is.m T.law_is.F.kp T.law_is.b .nil (fun _ => .nil) pass0 (da_cons (de_call (ok_law_measure_two T) (hr.mono (by decide)) rfl T.law_measure_two.m T.law_measure_two.F.kp T.law_measure_two.b .nil (fun _ => .nil) pass0 (da_cons (de_var (pv 0)) (da_cons (de_var (pv 4)) da_nil))) (da_cons (de_call (ok_law_sum T) (hr.mono (by decide)) rfl T.law_sum.m T.law_sum.F.kp T.law_sum.b .nil (fun _ => .nil) pass0 (da_cons (de_call (ok_law_measure_two T) (hr.mono (by decide)) rfl T.law_measure_two.m T.law_measure_two.F.kp T.law_measure_two.b .nil (fun _ => .nil) pass0 (da_cons (de_var (pv 1)) (da_cons (de_var (pv 4)) da_nil))) (da_cons (de_var (pv 2)) da_nil))) da_nil))))) (dss_one (ds_ret de_bl)) dss_nil)
      (dss_cons (ds_set (i := 5) sc_law_moved_right.nd rfl (by first | exact Or.inl rfl | exact Or.inr rfl) (de_call (ok_law_sum T) (hr.mono (by decide)) rfl T.law_sum.m T.law_sum.F.kp T.law_sum.b .nil (fun _ => .nil) pass0 (da_cons (de_ix dix_seq (de_var (pv 0)) de_int (fun _ _ => rfl)) (da_cons (de_call (ok_law_product T) (hr.mono (by decide)) rfl T.law_product.m T.law_product.F.kp T.law_product.b .nil (fun _ => .nil) pass0 (da_cons (de_ix dix_seq (de_var (pv 1)) de_int (fun _ _ => rfl)) (da_cons (de_op dop_sub de_int de_int) da_nil))) da_nil))))
      (dss_cons (ds_set (i := 6) sc_law_moved_right.nd rfl (by first | exact Or.inl rfl | exact Or.inr rfl) (de_call (ok_law_sum T) (hr.mono (by decide)) rfl T.law_sum.m T.law_sum.F.kp T.law_sum.b .nil (fun _ => .nil) pass0 (da_cons (de_ix dix_seq (de_var (pv 0)) de_int (fun _ _ => rfl)) (da_cons (de_call (ok_law_product T) (hr.mono (by decide)) rfl T.law_product.m T.law_product.F.kp T.law_product.b .nil (fun _ => .nil) pass0 (da_cons (de_ix dix_seq (de_var (pv 1)) de_int (fun _ _ => rfl)) (da_cons (de_op dop_sub de_int de_int) da_nil))) da_nil))))
      (dss_one (ds_ret (de_call (ok_law_is T) (hr.mono (by decide)) rfl T.law_is.m T.law_is.F.kp T.law_is.b .nil (fun _ => .nil) pass0 (da_cons (de_call (ok_law_product T) (hr.mono (by decide)) rfl T.law_product.m T.law_product.F.kp T.law_product.b .nil (fun _ => .nil) pass0 (da_cons (de_var (pv 5)) (da_cons (de_ix dix_seq (de_var (pv 3)) de_int (fun _ _ => rfl)) da_nil))) (da_cons (de_call (ok_law_product T) (hr.mono (by decide)) rfl T.law_product.m T.law_product.F.kp T.law_product.b .nil (fun _ => .nil) pass0 (da_cons (de_var (pv 6)) (da_cons (de_ix dix_seq (de_var (pv 3)) de_int (fun _ _ => rfl)) da_nil))) da_nil)))))))))) rd_law_moved_right
theorem ok_law_right_two (T : Tx K mg) : FnOk P w K mg base CX0 8 T.law_right_two.f T.law_right_two.fd P_law_right_two (cSp K sp_law_right_two) :=
  DFun.ok4 T.law_right_two.F sc_law_right_two rfl rfl (k := 7) (t := t_law_right_two sp_law_refused (sp_moved K) sp_law_moved_right sp_law_product) (fun cdv A outer s H E hr => 
    (dss_cons (ds_if (dt_cmp (dop_eqQ hr.units) (de_op dop_add (de_op dop_mul (de_ix dix_seq (de_var (pv 2)) de_int (fun _ _ => rfl)) (de_ix dix_seq (de_var (pv 3)) de_int (fun _ _ => rfl))) (de_op dop_mul (de_ix dix_seq (de_var (pv 2)) de_int (fun _ _ => rfl)) (de_ix dix_seq (de_var (pv 3)) de_int (fun _ _ => rfl)))) de_int (nomark _)) (dss_one (ds_ret (de_call (ok_law_refused T) (hr.mono (by decide)) rfl T.law_refused.m T.law_refused.F.kp T.law_refused.b .nil (fun _ => .nil) pass0 (da_cons (de_var (pv 0)) (da_cons (de_var (pv 1)) (da_cons (de_var (pv 2)) (da_cons (de_var (pv 3)) da_nil))))))) dss_nil)
      (dss_cons (ds_set (i := 4) sc_law_right_two.nd rfl (by first | exact Or.inl rfl | exact Or.inr rfl) (de_callK (ks := ["along", "move"]) (mds := []) (ok_moved T) (hr.mono (by decide)) rfl T.moved.m T.moved.F.kp T.moved_kb0 (fun _ => .nil) passX0N (da_cons (de_var (pv 0)) (da_cons (de_var (pv 1)) da_nil)) (dk_cons (de_var (pv 3)) (dk_cons (de_var (pv 2)) dk_nil))))
      (dss_cons (ds_if (dt_not (dt_truth (de_call (ok_law_moved_right T) (hr.mono (by decide)) rfl T.law_moved_right.m T.law_moved_right.F.kp T.law_moved_right.b .nil (fun _ => .nil) pass0 (da_cons (de_var (pv 4)) (da_cons (de_var (pv 0)) (da_cons (de_var (pv 1)) (da_cons (de_var (pv 2)) (da_cons (de_var (pv 3)) da_nil)))))))) (dss_one (ds_ret de_bl)) dss_nil)
      (dss_cons (ds_if (dt_cmp (dop_neB hr.units) (de_callK (ks := ["move", "by", "along"]) (mds := []) (ok_moved T) (hr.mono (by decide)) rfl T.moved.m T.moved.F.kp T.moved_kb1 (fun _ => .nil) passX0N (da_cons (de_var (pv 0)) da_nil) (dk_cons (de_var (pv 2)) (dk_cons (de_var (pv 1)) (dk_cons (de_var (pv 3)) dk_nil)))) (de_var (pv 4)) (nomark _)) (dss_one (ds_ret de_bl)) dss_nil)
      (dss_one (ds_ret (de_cmp (dop_eqB hr.units) (de_callK (ks := ["move", "along"]) (mds := []) (ok_moved T) (hr.mono (by decide)) rfl T.moved.m T.moved.F.kp T.moved_kb2 (fun _ => .nil) passX0N (da_cons (de_var (pv 4)) (da_cons (de_call (ok_law_product T) (hr.mono (by decide)) rfl T.law_product.m T.law_product.F.kp T.law_product.b .nil (fun _ => .nil) pass0 (da_cons (de_var (pv 1)) (da_cons (de_op dop_sub de_int de_int) da_nil))) da_nil)) (dk_cons (de_var (pv 2)) (dk_cons (de_var (pv 3)) dk_nil))) (de_var (pv 0)) (nomark _))))))))) rd_law_right_two
theorem ok_law_left_out (T : Tx K mg) : FnOk P w K mg base CX0 8 T.law_left_out.f T.law_left_out.fd P_law_left_out (cSp K sp_law_left_out) :=
  DFun.ok3 T.law_left_out.F sc_law_left_out rfl rfl (k := 7) (t := t_law_left_out (sp_moved K) sp_law_sum sp_law_refused sp_law_moved_right) (fun cdv A outer s H E hr => 
    (dss_cons (ds_set (i := 3) sc_law_left_out.nd rfl (by first | exact Or.inl rfl | exact Or.inr rfl) (de_tup (da_cons de_int (da_cons de_int (da_cons de_int da_nil)))))
      (dss_cons (ds_if (dt_cmp (dop_neB hr.units) (de_callK (ks := []) (mds := [D.tup [D.int 1, D.int 0, D.int 1], D.tup [D.int 1, D.int 0, D.int 1]]) (ok_moved T) (hr.mono (by decide)) rfl T.moved.m T.moved.F.kp T.moved_kb3 (fun _ => .cons (T.g_EAST.rep _) (.cons (T.g_EAST.rep _) .nil)) passX0N (da_cons (de_var (pv 0)) (da_cons (de_var (pv 1)) da_nil)) dk_nil) (de_tup (da_cons (de_call (ok_law_sum T) (hr.mono (by decide)) rfl T.law_sum.m T.law_sum.F.kp T.law_sum.b .nil (fun _ => .nil) pass0 (da_cons (de_ix dix_seq (de_var (pv 0)) de_int (fun _ _ => rfl)) (da_cons (de_var (pv 1)) da_nil))) (da_cons (de_ix dix_seq (de_var (pv 0)) de_int (fun _ _ => rfl)) da_nil))) (nomark _)) (dss_one (ds_ret de_bl)) dss_nil)
      (dss_cons (ds_if (dt_cmp (dop_eqQ hr.units) (de_ix dix_seq (de_var (pv 2)) de_int (fun _ _ => rfl)) de_int (nomark _)) (dss_one (ds_ret (de_and (de_call (ok_law_refused T) (hr.mono (by decide)) rfl T.law_refused.m T.law_refused.F.kp T.law_refused.b .nil (fun _ => .nil) pass0 (da_cons (de_var (pv 0)) (da_cons (de_var (pv 1)) (da_cons (de_var (pv 2)) (da_cons (de_var (pv 3)) da_nil))))) (de_one (de_call (ok_law_refused T) (hr.mono (by decide)) rfl T.law_refused.m T.law_refused.F.kp T.law_refused.b .nil (fun _ => .nil) pass0 (da_cons (de_var (pv 0)) (da_cons (de_var (pv 1)) (da_cons (de_var (pv 3)) (da_cons (de_var (pv 2)) da_nil))))))))) dss_nil)
      (dss_cons (ds_if (dt_not (dt_truth (de_call (ok_law_moved_right T) (hr.mono (by decide)) rfl T.law_moved_right.m T.law_moved_right.F.kp T.law_moved_right.b .nil (fun _ => .nil) pass0 (da_cons (de_callK (ks := ["move"]) (mds := [D.tup [D.int 1, D.int 0, D.int 1]]) (ok_moved T) (hr.mono (by decide)) rfl T.moved.m T.moved.F.kp T.moved_kb4 (fun _ => .cons (T.g_EAST.rep _) .nil) passX0N (da_cons (de_var (pv 0)) (da_cons (de_var (pv 1)) da_nil)) (dk_cons (de_var (pv 2)) dk_nil)) (da_cons (de_var (pv 0)) (da_cons (de_var (pv 1)) (da_cons (de_var (pv 2)) (da_cons (de_var (pv 3)) da_nil)))))))) (dss_one (ds_ret de_bl)) dss_nil)
      (dss_one (ds_ret (de_call (ok_law_moved_right T) (hr.mono (by decide)) rfl T.law_moved_right.m T.law_moved_right.F.kp T.law_moved_right.b .nil (fun _ => .nil) pass0 (da_cons (de_callK (ks := ["along"]) (mds := [D.tup [D.int 1, D.int 0, D.int 1]]) (ok_moved T) (hr.mono (by decide)) rfl T.moved.m T.moved.F.kp T.moved_kb5 (fun _ => .cons (T.g_EAST.rep _) .nil) passX0N (da_cons (de_var (pv 0)) (da_cons (de_var (pv 1)) da_nil)) (dk_cons (de_var (pv 2)) dk_nil)) (da_cons (de_var (pv 0)) (da_cons (de_var (pv 1)) (da_cons (de_var (pv 3)) (da_cons (de_var (pv 2)) da_nil))))))))))))) rd_law_left_out
theorem ok_law_asked_two (T : Tx K mg) : FnOk P w K mg base CX0 9 T.law_asked_two.f T.law_asked_two.fd P_law_asked_two (cSp K sp_law_asked_two) :=
  DFun.ok1 T.law_asked_two.F sc_law_asked_two rfl rfl (k := 8) (t := t_law_asked_two K sp_law_box sp_law_cell_two sp_law_take_two sp_law_slope_two sp_law_drawn_two sp_law_right_two sp_law_left_out) (fun cdv A outer s H E hr => 
    (dss_cons (ds_for (g := (.nm 1)) PassesOwn.never rfl (di_range1 (by rfl) T.n_range (de_callB (dcall_max2 rfl) (by rfl) T.n_max (by decide +kernel) (da_cons de_int (da_cons (de_callB (dcall_min2 rfl) (by rfl) T.n_min (by decide +kernel) (da_cons de_int (da_cons (de_callB dcall_len (by rfl) T.n_len (by decide +kernel) (da_cons (de_var (pv 0)) da_nil)) da_nil))) da_nil)))) (pg_nm (pg_name (i := 1) sc_law_asked_two.nd rfl (by first | exact Or.inl rfl | exact Or.inr rfl))) (dss_cons (ds_set (i := 2) sc_law_asked_two.nd rfl (by first | exact Or.inl rfl | exact Or.inr rfl) (de_call (ok_law_box T) (hr.mono (by decide)) rfl T.law_box.m T.law_box.F.kp T.law_box.b .nil (fun _ => .nil) pass0 (da_cons (de_call (ok_law_cell_two T) (hr.mono (by decide)) rfl T.law_cell_two.m T.law_cell_two.F.kp T.law_cell_two.b .nil (fun _ => .nil) pass0 (da_cons (de_var (pv 0)) (da_cons (de_var (pv 1)) da_nil))) da_nil)))
      (dss_cons (ds_set (i := 3) sc_law_asked_two.nd rfl (by first | exact Or.inl rfl | exact Or.inr rfl) (de_call (ok_law_take_two T) (hr.mono (by decide)) rfl T.law_take_two.m T.law_take_two.F.kp T.law_take_two.b .nil (fun _ => .nil) pass0 (da_cons (de_var (pv 2)) (da_cons de_int da_nil))))
      (dss_cons (ds_par (i := 4) (j := 5) rfl sc_law_asked_two.nd rfl rfl (by decide) rfl rfl (da_cons (de_call (ok_law_slope_two T) (hr.mono (by decide)) rfl T.law_slope_two.m T.law_slope_two.F.kp T.law_slope_two.b .nil (fun _ => .nil) pass0 (da_cons (de_var (pv 2)) da_nil)) (da_cons (de_call (ok_law_slope_two T) (hr.mono (by decide)) rfl T.law_slope_two.m T.law_slope_two.F.kp T.law_slope_two.b .nil (fun _ => .nil) pass0 (da_cons (de_var (pv 2)) da_nil)) da_nil)) (by rfl))
      (dss_cons (ds_if (dt_cmp (dop_eqQ hr.units) (de_var (pv 3)) de_int (nomark _)) (dss_one (ds_set (i := 5) sc_law_asked_two.nd rfl (by first | exact Or.inl rfl | exact Or.inr rfl) (de_tup (da_cons (de_op dop_sub de_int (de_ix dix_seq (de_var (pv 4)) de_int (fun _ _ => rfl))) (da_cons (de_ix dix_seq (de_var (pv 4)) de_int (fun _ _ => rfl)) (da_cons (de_ix dix_seq (de_var (pv 4)) de_int (fun _ _ => rfl)) da_nil)))))) dss_nil)
      (dss_cons (ds_if (dt_cmp (dop_eqQ hr.units) (de_var (pv 3)) de_int (nomark _)) (dss_one (ds_set (i := 4) sc_law_asked_two.nd rfl (by first | exact Or.inl rfl | exact Or.inr rfl) (de_ix dix_seq (de_lst (da_cons (de_tup (da_cons de_int (da_cons de_int (da_cons de_int da_nil)))) (da_cons (de_tup (da_cons de_int (da_cons de_int (da_cons de_int da_nil)))) (da_cons (de_tup (da_cons (de_op dop_sub de_int de_int) (da_cons de_int (da_cons de_int da_nil)))) da_nil)))) (de_call (ok_law_take_two T) (hr.mono (by decide)) rfl T.law_take_two.m T.law_take_two.F.kp T.law_take_two.b .nil (fun _ => .nil) pass0 (da_cons (de_var (pv 2)) (da_cons de_int da_nil))) (fun _ _ => rfl)))) dss_nil)
      (dss_cons (ds_set (i := 6) sc_law_asked_two.nd rfl (by first | exact Or.inl rfl | exact Or.inr rfl) (de_tup (da_cons (de_call (ok_law_drawn_two T) (hr.mono (by decide)) rfl T.law_drawn_two.m T.law_drawn_two.F.kp T.law_drawn_two.b .nil (fun _ => .nil) pass0 (da_cons (de_var (pv 2)) da_nil)) (da_cons (de_call (ok_law_drawn_two T) (hr.mono (by decide)) rfl T.law_drawn_two.m T.law_drawn_two.F.kp T.law_drawn_two.b .nil (fun _ => .nil) pass0 (da_cons (de_var (pv 2)) da_nil)) da_nil))))
      (dss_cons (ds_set (i := 7) sc_law_asked_two.nd rfl (by first | exact Or.inl rfl | exact Or.inr rfl) (de_ix dix_seq (de_lst (da_cons (de_call (ok_law_drawn_two T) (hr.mono (by decide)) rfl T.law_drawn_two.m T.law_drawn_two.F.kp T.law_drawn_two.b .nil (fun _ => .nil) pass0 (da_cons (de_var (pv 2)) da_nil)) (da_cons de_int da_nil))) (de_callTy dcall_int (by rfl) T.n_int (by decide +kernel) (da_cons (de_cmp (dop_eqQ hr.units) (de_call (ok_law_take_two T) (hr.mono (by decide)) rfl T.law_take_two.m T.law_take_two.F.kp T.law_take_two.b .nil (fun _ => .nil) pass0 (da_cons (de_var (pv 2)) (da_cons de_int da_nil))) de_int (nomark _)) da_nil)) (fun _ _ => rfl)))
      (dss_cons (ds_if (dt_w (dw_or (dt_not (dt_truth (de_call (ok_law_right_two T) (hr.mono (by decide)) rfl T.law_right_two.m T.law_right_two.F.kp T.law_right_two.b .nil (fun _ => .nil) pass0 (da_cons (de_var (pv 6)) (da_cons (de_var (pv 7)) (da_cons (de_var (pv 4)) (da_cons (de_var (pv 5)) da_nil))))))) (dw_or1 (dt_not (dt_truth (de_call (ok_law_left_out T) (hr.mono (by decide)) rfl T.law_left_out.m T.law_left_out.F.kp T.law_left_out.b .nil (fun _ => .nil) pass0 (da_cons (de_var (pv 6)) (da_cons (de_var (pv 7)) (da_cons (de_var (pv 4)) da_nil))))))))) (dss_one (ds_ret de_bl)) dss_nil)
      (dss_one (ds_if (dt_not (dt_truth (de_call (ok_law_right_two T) (hr.mono (by decide)) rfl T.law_right_two.m T.law_right_two.F.kp T.law_right_two.b .nil (fun _ => .nil) pass0 (da_cons (de_tup (da_cons (de_var (pv 7)) (da_cons (de_ix dix_seq (de_var (pv 6)) de_int (fun _ _ => rfl)) da_nil))) (da_cons (de_ix dix_seq (de_var (pv 6)) de_int (fun _ _ => rfl)) (da_cons (de_var (pv 5)) (da_cons (de_var (pv 4)) da_nil))))))) (dss_one (ds_ret de_bl)) dss_nil)))))))))))
      (dss_one (ds_ghost (ds_ret de_bl))))) rd_law_asked_two
theorem ok_law (T : Tx K mg) {f : Addr} {fd : FuncData} (F : FunD K "law" "law" (defArgs s_law) (defBody s_law) (defScope s_law) [] [] f fd) : FnG P w K mg base 10 f fd P_law (cSp K sp_law) :=
  DFunG.ok1 F sc_law rfl rfl (k := 9) (t := t_law sp_law_asked_one sp_law_asked_two) (fun cdv A outer s H E hr hgd => 
    (dss_one (ds_ret (de_and (de_callG (ok_law_asked_one T) (hr.mono (by decide)) hgd rfl T.law_asked_one.m T.law_asked_one.F.kp T.law_asked_one.b (da_cons (de_var (pv 0)) da_nil)) (de_one (de_call (ok_law_asked_two T) (hr.mono (by decide)) rfl T.law_asked_two.m T.law_asked_two.F.kp T.law_asked_two.b .nil (fun _ => .nil) pass0 (da_cons (de_var (pv 0)) da_nil))))))) rd_law
end
def dd_law_box : He.DefD := ⟨("_law_box", none), "_law_box", "_law_box", defArgs s_law_box, defBody s_law_box, defScope s_law_box, [], []⟩
def dd_law_cell : He.DefD := ⟨("_law_cell", none), "_law_cell", "_law_cell", defArgs s_law_cell, defBody s_law_cell, defScope s_law_cell, [], []⟩
def dd_law_take : He.DefD := ⟨("_law_take", none), "_law_take", "_law_take", defArgs s_law_take, defBody s_law_take, defScope s_law_take, [], []⟩
def dd_law_slope : He.DefD := ⟨("_law_slope", none), "_law_slope", "_law_slope", defArgs s_law_slope, defBody s_law_slope, defScope s_law_slope, [], []⟩
def dd_law_far : He.DefD := ⟨("_law_far", none), "_law_far", "_law_far", defArgs s_law_far, defBody s_law_far, defScope s_law_far, [], []⟩
def dd_law_number : He.DefD := ⟨("_law_number", none), "_law_number", "_law_number", defArgs s_law_number, defBody s_law_number, defScope s_law_number, [], []⟩
def dd_law_drawn : He.DefD := ⟨("_law_drawn", none), "_law_drawn", "_law_drawn", defArgs s_law_drawn, defBody s_law_drawn, defScope s_law_drawn, [], []⟩
def dd_law_long : He.DefD := ⟨("_law_long", none), "_law_long", "_law_long", defArgs s_law_long, defBody s_law_long, defScope s_law_long, [], []⟩
def dd_is_plain : He.DefD := ⟨("is_plain", none), "is_plain", "is_plain", defArgs s_is_plain, defBody s_is_plain, defScope s_is_plain, [], []⟩
def dd_is_whole : He.DefD := ⟨("is_whole", none), "is_whole", "is_whole", defArgs s_is_whole, defBody s_is_whole, defScope s_is_whole, [], []⟩
def dd_is_way : He.DefD := ⟨("is_way", none), "is_way", "is_way", defArgs s_is_way, defBody s_is_way, defScope s_is_way, [], []⟩
def dd_way_of : He.DefD := ⟨("way_of", none), "way_of", "way_of", defArgs s_way_of, defBody s_way_of, defScope s_way_of, [], []⟩
def dd_law_way_right : He.DefD := ⟨("_law_way_right", none), "_law_way_right", "_law_way_right", defArgs s_law_way_right, defBody s_law_way_right, defScope s_law_way_right, [], []⟩
def dd_law_no_way : He.DefD := ⟨("_law_no_way", none), "_law_no_way", "_law_no_way", defArgs s_law_no_way, defBody s_law_no_way, defScope s_law_no_way, [], []⟩
def dd_law_pair : He.DefD := ⟨("_law_pair", none), "_law_pair", "_law_pair", defArgs s_law_pair, defBody s_law_pair, defScope s_law_pair, [], []⟩
def dd_law_product : He.DefD := ⟨("_law_product", none), "_law_product", "_law_product", defArgs s_law_product, defBody s_law_product, defScope s_law_product, [], []⟩
def dd_law_sum : He.DefD := ⟨("_law_sum", none), "_law_sum", "_law_sum", defArgs s_law_sum, defBody s_law_sum, defScope s_law_sum, [], []⟩
def dd_law_slid : He.DefD := ⟨("_law_slid", none), "_law_slid", "_law_slid", defArgs s_law_slid, defBody s_law_slid, defScope s_law_slid, [], []⟩
def dd_common_part : He.DefD := ⟨("common_part", none), "common_part", "common_part", defArgs s_common_part, defBody s_common_part, defScope s_common_part, [], []⟩
def dd_is_part : He.DefD := ⟨("is_part", none), "is_part", "is_part", defArgs s_is_part, defBody s_is_part, defScope s_is_part, [], []⟩
def dd_is_number : He.DefD := ⟨("is_number", none), "is_number", "is_number", defArgs s_is_number, defBody s_is_number, defScope s_is_number, [], []⟩
def dd_is_place : He.DefD := ⟨("is_place", none), "is_place", "is_place", defArgs s_is_place, defBody s_is_place, defScope s_is_place, [], []⟩
def dd_need_way : He.DefD := ⟨("need_way", none), "need_way", "need_way", defArgs s_need_way, defBody s_need_way, defScope s_need_way, [], []⟩
def dd_pair_of : He.DefD := ⟨("pair_of", none), "pair_of", "pair_of", defArgs s_pair_of, defBody s_pair_of, defScope s_pair_of, [], []⟩
def dd_reckoned : He.DefD := ⟨("reckoned", none), "reckoned", "reckoned", defArgs s_reckoned, defBody s_reckoned, defScope s_reckoned, [], []⟩
def dd_over : He.DefD := ⟨("over", none), "over", "over", defArgs s_over, defBody s_over, defScope s_over, [], []⟩
def dd_plus : He.DefD := ⟨("plus", none), "plus", "plus", defArgs s_plus, defBody s_plus, defScope s_plus, [], []⟩
def dd_times : He.DefD := ⟨("times", none), "times", "times", defArgs s_times, defBody s_times, defScope s_times, [], []⟩
def dd_slide : He.DefD := ⟨("slide", none), "slide", "slide", defArgs s_slide, defBody s_slide, defScope s_slide, [], [("way", .glo "EAST")]⟩
def dd_law_is : He.DefD := ⟨("_law_is", none), "_law_is", "_law_is", defArgs s_law_is, defBody s_law_is, defScope s_law_is, [], []⟩
def dd_law_place_is : He.DefD := ⟨("_law_place_is", none), "_law_place_is", "_law_place_is", defArgs s_law_place_is, defBody s_law_place_is, defScope s_law_place_is, [], []⟩
def dd_law_measure : He.DefD := ⟨("_law_measure", none), "_law_measure", "_law_measure", defArgs s_law_measure, defBody s_law_measure, defScope s_law_measure, [], []⟩
def dd_measure : He.DefD := ⟨("measure", none), "measure", "measure", defArgs s_measure, defBody s_measure, defScope s_measure, [], []⟩
def dd_law_right : He.DefD := ⟨("_law_right", none), "_law_right", "_law_right", defArgs s_law_right, defBody s_law_right, defScope s_law_right, [], []⟩
def dd_law_asked_one : He.DefD := ⟨("_law_asked_one", none), "_law_asked_one", "_law_asked_one", defArgs s_law_asked_one, defBody s_law_asked_one, defScope s_law_asked_one, [], []⟩
def dd_law_cell_two : He.DefD := ⟨("_law_cell_two", none), "_law_cell_two", "_law_cell_two", defArgs s_law_cell_two, defBody s_law_cell_two, defScope s_law_cell_two, [], []⟩
def dd_law_take_two : He.DefD := ⟨("_law_take_two", none), "_law_take_two", "_law_take_two", defArgs s_law_take_two, defBody s_law_take_two, defScope s_law_take_two, [], []⟩
def dd_law_slope_two : He.DefD := ⟨("_law_slope_two", none), "_law_slope_two", "_law_slope_two", defArgs s_law_slope_two, defBody s_law_slope_two, defScope s_law_slope_two, [], []⟩
def dd_law_far_two : He.DefD := ⟨("_law_far_two", none), "_law_far_two", "_law_far_two", defArgs s_law_far_two, defBody s_law_far_two, defScope s_law_far_two, [], []⟩
def dd_law_drawn_two : He.DefD := ⟨("_law_drawn_two", none), "_law_drawn_two", "_law_drawn_two", defArgs s_law_drawn_two, defBody s_law_drawn_two, defScope s_law_drawn_two, [], []⟩
def dd_moved : He.DefD := ⟨("moved", none), "moved", "moved", defArgs s_moved, defBody s_moved, defScope s_moved, [], [("move", .glo "EAST"), ("along", .glo "EAST")]⟩
def dd_law_refused : He.DefD := ⟨("_law_refused", none), "_law_refused", "_law_refused", defArgs s_law_refused, defBody s_law_refused, defScope s_law_refused, [], []⟩
def dd_law_plain_place : He.DefD := ⟨("_law_plain_place", none), "_law_plain_place", "_law_plain_place", defArgs s_law_plain_place, defBody s_law_plain_place, defScope s_law_plain_place, [], []⟩
def dd_law_measure_two : He.DefD := ⟨("_law_measure_two", none), "_law_measure_two", "_law_measure_two", defArgs s_law_measure_two, defBody s_law_measure_two, defScope s_law_measure_two, [], []⟩
def dd_law_moved_right : He.DefD := ⟨("_law_moved_right", none), "_law_moved_right", "_law_moved_right", defArgs s_law_moved_right, defBody s_law_moved_right, defScope s_law_moved_right, [], []⟩
def dd_law_right_two : He.DefD := ⟨("_law_right_two", none), "_law_right_two", "_law_right_two", defArgs s_law_right_two, defBody s_law_right_two, defScope s_law_right_two, [], []⟩
def dd_law_left_out : He.DefD := ⟨("_law_left_out", none), "_law_left_out", "_law_left_out", defArgs s_law_left_out, defBody s_law_left_out, defScope s_law_left_out, [], []⟩
def dd_law_asked_two : He.DefD := ⟨("_law_asked_two", none), "_law_asked_two", "_law_asked_two", defArgs s_law_asked_two, defBody s_law_asked_two, defScope s_law_asked_two, [], []⟩
def dd_law : He.DefD := ⟨("law", none), "law", "law", defArgs s_law, defBody s_law, defScope s_law, [], []⟩
def ddi_NoWay : He.DefD := ⟨("NoWay", some "__init__"), "__init__", "NoWay.__init__", defArgs si_NoWay, defBody si_NoWay, defScope si_NoWay, [], []⟩
def fnL : List He.DefD := [dd_law_box, dd_law_cell, dd_law_take, dd_law_slope, dd_law_far, dd_law_number, dd_law_drawn, dd_law_long, dd_is_plain, dd_is_whole, dd_is_way, dd_way_of, dd_law_way_right, dd_law_no_way, dd_law_pair, dd_law_product, dd_law_sum, dd_law_slid, dd_common_part, dd_is_part, dd_is_number, dd_is_place, dd_need_way, dd_pair_of, dd_reckoned, dd_over, dd_plus, dd_times, dd_slide, dd_law_is, dd_law_place_is, dd_law_measure, dd_measure, dd_law_right, dd_law_asked_one, dd_law_cell_two, dd_law_take_two, dd_law_slope_two, dd_law_far_two, dd_law_drawn_two, dd_moved, dd_law_refused, dd_law_plain_place, dd_law_measure_two, dd_law_moved_right, dd_law_right_two, dd_law_left_out, dd_law_asked_two, dd_law, ddi_NoWay]
def exB (K : PySem.W.Frag) : Bool := xc1B K "NoWay" "FontError" "found" && (He.tupB K "EAST" [.int 1, .int 0, .int 1] && (He.tupB K "NORTH" [.int 0, .int 1, .int 1]))
def fa0 : List He.Fa := [.glo "_law_box", .glo "_law_cell", .glo "_law_take", .glo "_law_slope", .glo "_law_far", .glo "_law_number", .glo "_law_drawn", .glo "_law_long", .glo "is_plain", .glo "is_whole", .glo "is_way", .glo "way_of", .glo "_law_way_right", .glo "_law_no_way", .glo "_law_pair", .glo "_law_product", .glo "_law_sum", .glo "_law_slid", .glo "common_part", .glo "is_part", .glo "is_number", .glo "is_place", .glo "need_way", .glo "pair_of", .glo "reckoned", .glo "over", .glo "plus", .glo "times", .glo "slide", .glo "_law_is"]
def fa1 : List He.Fa := [.glo "_law_place_is", .glo "_law_measure", .glo "measure", .glo "_law_right", .glo "_law_asked_one", .glo "_law_cell_two", .glo "_law_take_two", .glo "_law_slope_two", .glo "_law_far_two", .glo "_law_drawn_two", .glo "moved", .glo "_law_refused", .glo "_law_plain_place", .glo "_law_measure_two", .glo "_law_moved_right", .glo "_law_right_two", .glo "_law_left_out", .glo "_law_asked_two", .glo "law", .free "abs", .free "bool", .free "int", .free "isinstance", .free "len", .free "max", .free "min", .free "range", .free "repr", .free "str", .free "tuple"]
def fa2 : List He.Fa := [.int "MOST_LONG" 1000, .glo "EAST", .glo "NORTH"]
def faL : List He.Fa := fa0 ++ fa1 ++ fa2
def ot0 : List Str := ["FontError", "NoNumber", "NoPlace", "NoWay", "NoBase", "is_plain", "is_whole", "common_part", "is_part", "is_number", "reckoned", "pair_of", "plus", "times", "over", "EAST", "NORTH", "MOST_LONG", "is_way", "is_place", "way_of", "need_way", "measure", "slide", "moved", "_law_cell", "_law_box", "_law_take", "_law_far", "_law_number"]
def ot1 : List Str := ["_law_pair", "_law_is", "_law_drawn", "_law_sum", "_law_product", "_law_slope", "_law_long", "_law_way_right", "_law_no_way", "_law_measure", "_law_slid", "_law_place_is", "_law_right", "_law_asked_one", "_law_cell_two", "_law_take_two", "_law_far_two", "_law_drawn_two", "_law_slope_two", "_law_measure_two", "_law_plain_place", "_law_moved_right", "_law_refused", "_law_right_two", "_law_left_out", "_law_asked_two"]
def others : List Str := ot0 ++ ot1
abbrev R : PySem.W.OpenRow := PySem.W.OpenLaw.row PySem.Challenge.rw_hintscribe_k05_ways_measures_places_move
def tsL : List He.Tab := []
abbrev hk : PySem.W.Hook := hookF 5 faL fnL tsL exB
def ob (s : PySem.W.SharedT) : AlF := obsFG 5 faL fnL tsL exB (HandSHeadRun.getT s)
theorem ob_eq (s : PySem.W.SharedT) : ob s = hk.obs s.abs := obsFG_eq (HandSHeadRun.getT_eq s)
theorem run (w : World) : HandSHeadRun.RunEq R (PySem.W.view R.prog [60]) hk ob 6000 others w := by
  intro os
  kernel_rfl
theorem facts {P : Program} {w : World} {K : PySem.W.Frag} {h : Heap} {mg : Str → Option Value} {f : Addr} (X : K.In h) (G : h.Ns mainGlobals mg) (hfa : mg ("law" : Str) = some (.ref f)) (c : SaysF faL fnL tsL exB w K) :
    ∃ fd : FuncData, (∀ (s : Shared) (v : Value), BindsTo s fd ⟨[v], []⟩ [("script", v)]) ∧ ∀ base : Heap, K.In base → base.Ns mainGlobals mg → FnG P w K mg base 10 f fd P_law (cSp K sp_law) := by
  have cx := c.more
  have c := c.d
  have cx : exB K = true := cx
  unfold exB at cx
  obtain ⟨cx_NoWay, cx⟩ := He.ba cx
  obtain ⟨cx_EAST, cx⟩ := He.ba cx
  have cx_NORTH := cx
  obtain ⟨fd_law_box, F_law_box⟩ := c.def_ 0 (d := dd_law_box) rfl
  obtain ⟨fd_law_cell, F_law_cell⟩ := c.def_ 1 (d := dd_law_cell) rfl
  obtain ⟨fd_law_take, F_law_take⟩ := c.def_ 2 (d := dd_law_take) rfl
  obtain ⟨fd_law_slope, F_law_slope⟩ := c.def_ 3 (d := dd_law_slope) rfl
  obtain ⟨fd_law_far, F_law_far⟩ := c.def_ 4 (d := dd_law_far) rfl
  obtain ⟨fd_law_number, F_law_number⟩ := c.def_ 5 (d := dd_law_number) rfl
  obtain ⟨fd_law_drawn, F_law_drawn⟩ := c.def_ 6 (d := dd_law_drawn) rfl
  obtain ⟨fd_law_long, F_law_long⟩ := c.def_ 7 (d := dd_law_long) rfl
  obtain ⟨fd_is_plain, F_is_plain⟩ := c.def_ 8 (d := dd_is_plain) rfl
  obtain ⟨fd_is_whole, F_is_whole⟩ := c.def_ 9 (d := dd_is_whole) rfl
  obtain ⟨fd_is_way, F_is_way⟩ := c.def_ 10 (d := dd_is_way) rfl
  obtain ⟨fd_way_of, F_way_of⟩ := c.def_ 11 (d := dd_way_of) rfl
  obtain ⟨fd_law_way_right, F_law_way_right⟩ := c.def_ 12 (d := dd_law_way_right) rfl
  obtain ⟨fd_law_no_way, F_law_no_way⟩ := c.def_ 13 (d := dd_law_no_way) rfl
  obtain ⟨fd_law_pair, F_law_pair⟩ := c.def_ 14 (d := dd_law_pair) rfl
  obtain ⟨fd_law_product, F_law_product⟩ := c.def_ 15 (d := dd_law_product) rfl
  obtain ⟨fd_law_sum, F_law_sum⟩ := c.def_ 16 (d := dd_law_sum) rfl
  obtain ⟨fd_law_slid, F_law_slid⟩ := c.def_ 17 (d := dd_law_slid) rfl
  obtain ⟨fd_common_part, F_common_part⟩ := c.def_ 18 (d := dd_common_part) rfl
  obtain ⟨fd_is_part, F_is_part⟩ := c.def_ 19 (d := dd_is_part) rfl
  obtain ⟨fd_is_number, F_is_number⟩ := c.def_ 20 (d := dd_is_number) rfl
  obtain ⟨fd_is_place, F_is_place⟩ := c.def_ 21 (d := dd_is_place) rfl
  obtain ⟨fd_need_way, F_need_way⟩ := c.def_ 22 (d := dd_need_way) rfl
  obtain ⟨fd_pair_of, F_pair_of⟩ := c.def_ 23 (d := dd_pair_of) rfl
  obtain ⟨fd_reckoned, F_reckoned⟩ := c.def_ 24 (d := dd_reckoned) rfl
  obtain ⟨fd_over, F_over⟩ := c.def_ 25 (d := dd_over) rfl
  obtain ⟨fd_plus, F_plus⟩ := c.def_ 26 (d := dd_plus) rfl
  obtain ⟨fd_times, F_times⟩ := c.def_ 27 (d := dd_times) rfl
  obtain ⟨fd_slide, F_slide⟩ := c.def_ 28 (d := dd_slide) rfl
  obtain ⟨fd_law_is, F_law_is⟩ := c.def_ 29 (d := dd_law_is) rfl
  obtain ⟨fd_law_place_is, F_law_place_is⟩ := c.def_ 30 (d := dd_law_place_is) rfl
  obtain ⟨fd_law_measure, F_law_measure⟩ := c.def_ 31 (d := dd_law_measure) rfl
  obtain ⟨fd_measure, F_measure⟩ := c.def_ 32 (d := dd_measure) rfl
  obtain ⟨fd_law_right, F_law_right⟩ := c.def_ 33 (d := dd_law_right) rfl
  obtain ⟨fd_law_asked_one, F_law_asked_one⟩ := c.def_ 34 (d := dd_law_asked_one) rfl
  obtain ⟨fd_law_cell_two, F_law_cell_two⟩ := c.def_ 35 (d := dd_law_cell_two) rfl
  obtain ⟨fd_law_take_two, F_law_take_two⟩ := c.def_ 36 (d := dd_law_take_two) rfl
  obtain ⟨fd_law_slope_two, F_law_slope_two⟩ := c.def_ 37 (d := dd_law_slope_two) rfl
  obtain ⟨fd_law_far_two, F_law_far_two⟩ := c.def_ 38 (d := dd_law_far_two) rfl
  obtain ⟨fd_law_drawn_two, F_law_drawn_two⟩ := c.def_ 39 (d := dd_law_drawn_two) rfl
  obtain ⟨fd_moved, F_moved⟩ := c.def_ 40 (d := dd_moved) rfl
  obtain ⟨fd_law_refused, F_law_refused⟩ := c.def_ 41 (d := dd_law_refused) rfl
  obtain ⟨fd_law_plain_place, F_law_plain_place⟩ := c.def_ 42 (d := dd_law_plain_place) rfl
  obtain ⟨fd_law_measure_two, F_law_measure_two⟩ := c.def_ 43 (d := dd_law_measure_two) rfl
  obtain ⟨fd_law_moved_right, F_law_moved_right⟩ := c.def_ 44 (d := dd_law_moved_right) rfl
  obtain ⟨fd_law_right_two, F_law_right_two⟩ := c.def_ 45 (d := dd_law_right_two) rfl
  obtain ⟨fd_law_left_out, F_law_left_out⟩ := c.def_ 46 (d := dd_law_left_out) rfl
  obtain ⟨fd_law_asked_two, F_law_asked_two⟩ := c.def_ 47 (d := dd_law_asked_two) rfl
  obtain ⟨fd_law, F_law⟩ := c.def_ 48 (d := dd_law) rfl
  obtain ⟨fdi_NoWay, Fi_NoWay⟩ := c.def_ 49 (d := ddi_NoWay) rfl
  have e := hfa.symm.trans (He.glo_ok X G (c.fact 48 (f := .glo "law") rfl))
  cases e
  obtain ⟨tk_MOST_LONG, ct_MOST_LONG⟩ := He.int_ok X G (c.fact 60 (f := .int "MOST_LONG" 1000) rfl)
  let T : Tx K mg := ⟨
    ⟨_, fd_law_box, F_law_box, He.glo_ok X G (c.fact 0 (f := .glo "_law_box") rfl), FunD.bindsN F_law_box (fun _ _ _ _ _ _ us hl => match us, hl with | [_], _ => rfl)⟩,
    ⟨_, fd_law_cell, F_law_cell, He.glo_ok X G (c.fact 1 (f := .glo "_law_cell") rfl), FunD.bindsN F_law_cell (fun _ _ _ _ _ _ us hl => match us, hl with | [_, _], _ => rfl)⟩,
    ⟨_, fd_law_take, F_law_take, He.glo_ok X G (c.fact 2 (f := .glo "_law_take") rfl), FunD.bindsN F_law_take (fun _ _ _ _ _ _ us hl => match us, hl with | [_, _], _ => rfl)⟩,
    ⟨_, fd_law_slope, F_law_slope, He.glo_ok X G (c.fact 3 (f := .glo "_law_slope") rfl), FunD.bindsN F_law_slope (fun _ _ _ _ _ _ us hl => match us, hl with | [_], _ => rfl)⟩,
    ⟨_, fd_law_far, F_law_far, He.glo_ok X G (c.fact 4 (f := .glo "_law_far") rfl), FunD.bindsN F_law_far (fun _ _ _ _ _ _ us hl => match us, hl with | [_], _ => rfl)⟩,
    ⟨_, fd_law_number, F_law_number, He.glo_ok X G (c.fact 5 (f := .glo "_law_number") rfl), FunD.bindsN F_law_number (fun _ _ _ _ _ _ us hl => match us, hl with | [_, _], _ => rfl)⟩,
    ⟨_, fd_law_drawn, F_law_drawn, He.glo_ok X G (c.fact 6 (f := .glo "_law_drawn") rfl), FunD.bindsN F_law_drawn (fun _ _ _ _ _ _ us hl => match us, hl with | [_], _ => rfl)⟩,
    ⟨_, fd_law_long, F_law_long, He.glo_ok X G (c.fact 7 (f := .glo "_law_long") rfl), FunD.bindsN F_law_long (fun _ _ _ _ _ _ us hl => match us, hl with | [_, _], _ => rfl)⟩,
    ⟨_, fd_is_plain, F_is_plain, He.glo_ok X G (c.fact 8 (f := .glo "is_plain") rfl), FunD.bindsN F_is_plain (fun _ _ _ _ _ _ us hl => match us, hl with | [_], _ => rfl)⟩,
    ⟨_, fd_is_whole, F_is_whole, He.glo_ok X G (c.fact 9 (f := .glo "is_whole") rfl), FunD.bindsN F_is_whole (fun _ _ _ _ _ _ us hl => match us, hl with | [_, _, _], _ => rfl)⟩,
    ⟨_, fd_is_way, F_is_way, He.glo_ok X G (c.fact 10 (f := .glo "is_way") rfl), FunD.bindsN F_is_way (fun _ _ _ _ _ _ us hl => match us, hl with | [_], _ => rfl)⟩,
    ⟨_, fd_way_of, F_way_of, He.glo_ok X G (c.fact 11 (f := .glo "way_of") rfl), FunD.bindsN F_way_of (fun _ _ _ _ _ _ us hl => match us, hl with | [_, _], _ => rfl)⟩,
    ⟨_, fd_law_way_right, F_law_way_right, He.glo_ok X G (c.fact 12 (f := .glo "_law_way_right") rfl), FunD.bindsN F_law_way_right (fun _ _ _ _ _ _ us hl => match us, hl with | [_, _], _ => rfl)⟩,
    ⟨_, fd_law_no_way, F_law_no_way, He.glo_ok X G (c.fact 13 (f := .glo "_law_no_way") rfl), FunD.bindsN F_law_no_way (fun _ _ _ _ _ _ us hl => match us, hl with | [_, _], _ => rfl)⟩,
    ⟨_, fd_law_pair, F_law_pair, He.glo_ok X G (c.fact 14 (f := .glo "_law_pair") rfl), FunD.bindsN F_law_pair (fun _ _ _ _ _ _ us hl => match us, hl with | [_], _ => rfl)⟩,
    ⟨_, fd_law_product, F_law_product, He.glo_ok X G (c.fact 15 (f := .glo "_law_product") rfl), FunD.bindsN F_law_product (fun _ _ _ _ _ _ us hl => match us, hl with | [_, _], _ => rfl)⟩,
    ⟨_, fd_law_sum, F_law_sum, He.glo_ok X G (c.fact 16 (f := .glo "_law_sum") rfl), FunD.bindsN F_law_sum (fun _ _ _ _ _ _ us hl => match us, hl with | [_, _], _ => rfl)⟩,
    ⟨_, fd_law_slid, F_law_slid, He.glo_ok X G (c.fact 17 (f := .glo "_law_slid") rfl), FunD.bindsN F_law_slid (fun _ _ _ _ _ _ us hl => match us, hl with | [_, _, _], _ => rfl)⟩,
    ⟨_, fd_common_part, F_common_part, He.glo_ok X G (c.fact 18 (f := .glo "common_part") rfl), FunD.bindsN F_common_part (fun _ _ _ _ _ _ us hl => match us, hl with | [_, _], _ => rfl)⟩,
    ⟨_, fd_is_part, F_is_part, He.glo_ok X G (c.fact 19 (f := .glo "is_part") rfl), FunD.bindsN F_is_part (fun _ _ _ _ _ _ us hl => match us, hl with | [_], _ => rfl)⟩,
    ⟨_, fd_is_number, F_is_number, He.glo_ok X G (c.fact 20 (f := .glo "is_number") rfl), FunD.bindsN F_is_number (fun _ _ _ _ _ _ us hl => match us, hl with | [_], _ => rfl)⟩,
    ⟨_, fd_is_place, F_is_place, He.glo_ok X G (c.fact 21 (f := .glo "is_place") rfl), FunD.bindsN F_is_place (fun _ _ _ _ _ _ us hl => match us, hl with | [_], _ => rfl)⟩,
    ⟨_, fd_need_way, F_need_way, He.glo_ok X G (c.fact 22 (f := .glo "need_way") rfl), FunD.bindsN F_need_way (fun _ _ _ _ _ _ us hl => match us, hl with | [_], _ => rfl)⟩,
    ⟨_, fd_pair_of, F_pair_of, He.glo_ok X G (c.fact 23 (f := .glo "pair_of") rfl), FunD.bindsN F_pair_of (fun _ _ _ _ _ _ us hl => match us, hl with | [_], _ => rfl)⟩,
    ⟨_, fd_reckoned, F_reckoned, He.glo_ok X G (c.fact 24 (f := .glo "reckoned") rfl), FunD.bindsN F_reckoned (fun _ _ _ _ _ _ us hl => match us, hl with | [_, _], _ => rfl)⟩,
    ⟨_, fd_over, F_over, He.glo_ok X G (c.fact 25 (f := .glo "over") rfl), FunD.bindsN F_over (fun _ _ _ _ _ _ us hl => match us, hl with | [_, _], _ => rfl)⟩,
    ⟨_, fd_plus, F_plus, He.glo_ok X G (c.fact 26 (f := .glo "plus") rfl), FunD.bindsN F_plus (fun _ _ _ _ _ _ us hl => match us, hl with | [_, _], _ => rfl)⟩,
    ⟨_, fd_times, F_times, He.glo_ok X G (c.fact 27 (f := .glo "times") rfl), FunD.bindsN F_times (fun _ _ _ _ _ _ us hl => match us, hl with | [_, _], _ => rfl)⟩,
    ⟨_, fd_slide, F_slide, He.glo_ok X G (c.fact 28 (f := .glo "slide") rfl)⟩,
    kbk_all F_slide [0, 2, 1] (fun _ _ _ _ _ _ us ws h1 h2 => match us, ws, h1, h2 with | [_], [_, _], _, _ => rfl),
    kbk_all F_slide [0, 1, 2] (fun _ _ _ _ _ _ us ws h1 h2 => match us, ws, h1, h2 with | [_, _], [_], _, _ => rfl),
    kbk_of F_slide [0, 1, 2] [("way", .ref (He.ga K "EAST"))] (by simp) (fun q hq => (show ∀ q : Str × L2.V, q ∈ ([("way", .ref (He.ga K "EAST"))] : List (Str × L2.V)) → q ∈ ([("way", .ref (He.ga K "EAST"))] : List (Str × L2.V)) from by intro q hq; first | exact hq | (simp only [List.mem_cons, List.not_mem_nil, or_false] at hq ⊢; grind)) q hq) (fun _ _ _ _ _ _ us ws mv h1 h2 h3 => match us, ws, mv, h1, h2, h3 with | [_, _], [], [_], _, _, _ => ⟨_, _, _, _, _, _, rfl, rfl, rfl⟩),
    ⟨_, fd_law_is, F_law_is, He.glo_ok X G (c.fact 29 (f := .glo "_law_is") rfl), FunD.bindsN F_law_is (fun _ _ _ _ _ _ us hl => match us, hl with | [_, _], _ => rfl)⟩,
    ⟨_, fd_law_place_is, F_law_place_is, He.glo_ok X G (c.fact 30 (f := .glo "_law_place_is") rfl), FunD.bindsN F_law_place_is (fun _ _ _ _ _ _ us hl => match us, hl with | [_, _], _ => rfl)⟩,
    ⟨_, fd_law_measure, F_law_measure, He.glo_ok X G (c.fact 31 (f := .glo "_law_measure") rfl), FunD.bindsN F_law_measure (fun _ _ _ _ _ _ us hl => match us, hl with | [_, _], _ => rfl)⟩,
    ⟨_, fd_measure, F_measure, He.glo_ok X G (c.fact 32 (f := .glo "measure") rfl), FunD.bindsN F_measure (fun _ _ _ _ _ _ us hl => match us, hl with | [_, _], _ => rfl)⟩,
    ⟨_, fd_law_right, F_law_right, He.glo_ok X G (c.fact 33 (f := .glo "_law_right") rfl), FunD.bindsN F_law_right (fun _ _ _ _ _ _ us hl => match us, hl with | [_, _, _, _], _ => rfl)⟩,
    ⟨_, fd_law_asked_one, F_law_asked_one, He.glo_ok X G (c.fact 34 (f := .glo "_law_asked_one") rfl), FunD.bindsN F_law_asked_one (fun _ _ _ _ _ _ us hl => match us, hl with | [_], _ => rfl)⟩,
    ⟨_, fd_law_cell_two, F_law_cell_two, He.glo_ok X G (c.fact 35 (f := .glo "_law_cell_two") rfl), FunD.bindsN F_law_cell_two (fun _ _ _ _ _ _ us hl => match us, hl with | [_, _], _ => rfl)⟩,
    ⟨_, fd_law_take_two, F_law_take_two, He.glo_ok X G (c.fact 36 (f := .glo "_law_take_two") rfl), FunD.bindsN F_law_take_two (fun _ _ _ _ _ _ us hl => match us, hl with | [_, _], _ => rfl)⟩,
    ⟨_, fd_law_slope_two, F_law_slope_two, He.glo_ok X G (c.fact 37 (f := .glo "_law_slope_two") rfl), FunD.bindsN F_law_slope_two (fun _ _ _ _ _ _ us hl => match us, hl with | [_], _ => rfl)⟩,
    ⟨_, fd_law_far_two, F_law_far_two, He.glo_ok X G (c.fact 38 (f := .glo "_law_far_two") rfl), FunD.bindsN F_law_far_two (fun _ _ _ _ _ _ us hl => match us, hl with | [_], _ => rfl)⟩,
    ⟨_, fd_law_drawn_two, F_law_drawn_two, He.glo_ok X G (c.fact 39 (f := .glo "_law_drawn_two") rfl), FunD.bindsN F_law_drawn_two (fun _ _ _ _ _ _ us hl => match us, hl with | [_], _ => rfl)⟩,
    ⟨_, fd_moved, F_moved, He.glo_ok X G (c.fact 40 (f := .glo "moved") rfl)⟩,
    kbk_all F_moved [0, 1, 3, 2] (fun _ _ _ _ _ _ us ws h1 h2 => match us, ws, h1, h2 with | [_, _], [_, _], _, _ => rfl),
    kbk_all F_moved [0, 2, 1, 3] (fun _ _ _ _ _ _ us ws h1 h2 => match us, ws, h1, h2 with | [_], [_, _, _], _, _ => rfl),
    kbk_all F_moved [0, 1, 2, 3] (fun _ _ _ _ _ _ us ws h1 h2 => match us, ws, h1, h2 with | [_, _], [_, _], _, _ => rfl),
    kbk_of F_moved [0, 1, 2, 3] [("move", .ref (He.ga K "EAST")), ("along", .ref (He.ga K "EAST"))] (by simp) (fun q hq => (show ∀ q : Str × L2.V, q ∈ ([("move", .ref (He.ga K "EAST")), ("along", .ref (He.ga K "EAST"))] : List (Str × L2.V)) → q ∈ ([("move", .ref (He.ga K "EAST")), ("along", .ref (He.ga K "EAST"))] : List (Str × L2.V)) from by intro q hq; first | exact hq | (simp only [List.mem_cons, List.not_mem_nil, or_false] at hq ⊢; grind)) q hq) (fun _ _ _ _ _ _ us ws mv h1 h2 h3 => match us, ws, mv, h1, h2, h3 with | [_, _], [], [_, _], _, _, _ => ⟨_, _, _, _, _, _, rfl, rfl, ⟨_, _, _, _, _, _, rfl, rfl, rfl⟩⟩),
    kbk_of F_moved [0, 1, 2, 3] [("along", .ref (He.ga K "EAST"))] (by simp) (fun q hq => (show ∀ q : Str × L2.V, q ∈ ([("along", .ref (He.ga K "EAST"))] : List (Str × L2.V)) → q ∈ ([("move", .ref (He.ga K "EAST")), ("along", .ref (He.ga K "EAST"))] : List (Str × L2.V)) from by intro q hq; first | exact hq | (simp only [List.mem_cons, List.not_mem_nil, or_false] at hq ⊢; grind)) q hq) (fun _ _ _ _ _ _ us ws mv h1 h2 h3 => match us, ws, mv, h1, h2, h3 with | [_, _], [_], [_], _, _, _ => ⟨_, _, _, _, _, _, rfl, rfl, rfl⟩),
    kbk_of F_moved [0, 1, 3, 2] [("move", .ref (He.ga K "EAST"))] (by simp) (fun q hq => (show ∀ q : Str × L2.V, q ∈ ([("move", .ref (He.ga K "EAST"))] : List (Str × L2.V)) → q ∈ ([("move", .ref (He.ga K "EAST")), ("along", .ref (He.ga K "EAST"))] : List (Str × L2.V)) from by intro q hq; first | exact hq | (simp only [List.mem_cons, List.not_mem_nil, or_false] at hq ⊢; grind)) q hq) (fun _ _ _ _ _ _ us ws mv h1 h2 h3 => match us, ws, mv, h1, h2, h3 with | [_, _], [_], [_], _, _, _ => ⟨_, _, _, _, _, _, rfl, rfl, rfl⟩),
    ⟨_, fd_law_refused, F_law_refused, He.glo_ok X G (c.fact 41 (f := .glo "_law_refused") rfl), FunD.bindsN F_law_refused (fun _ _ _ _ _ _ us hl => match us, hl with | [_, _, _, _], _ => rfl)⟩,
    ⟨_, fd_law_plain_place, F_law_plain_place, He.glo_ok X G (c.fact 42 (f := .glo "_law_plain_place") rfl), FunD.bindsN F_law_plain_place (fun _ _ _ _ _ _ us hl => match us, hl with | [_], _ => rfl)⟩,
    ⟨_, fd_law_measure_two, F_law_measure_two, He.glo_ok X G (c.fact 43 (f := .glo "_law_measure_two") rfl), FunD.bindsN F_law_measure_two (fun _ _ _ _ _ _ us hl => match us, hl with | [_, _], _ => rfl)⟩,
    ⟨_, fd_law_moved_right, F_law_moved_right, He.glo_ok X G (c.fact 44 (f := .glo "_law_moved_right") rfl), FunD.bindsN F_law_moved_right (fun _ _ _ _ _ _ us hl => match us, hl with | [_, _, _, _, _], _ => rfl)⟩,
    ⟨_, fd_law_right_two, F_law_right_two, He.glo_ok X G (c.fact 45 (f := .glo "_law_right_two") rfl), FunD.bindsN F_law_right_two (fun _ _ _ _ _ _ us hl => match us, hl with | [_, _, _, _], _ => rfl)⟩,
    ⟨_, fd_law_left_out, F_law_left_out, He.glo_ok X G (c.fact 46 (f := .glo "_law_left_out") rfl), FunD.bindsN F_law_left_out (fun _ _ _ _ _ _ us hl => match us, hl with | [_, _, _], _ => rfl)⟩,
    ⟨_, fd_law_asked_two, F_law_asked_two, He.glo_ok X G (c.fact 47 (f := .glo "_law_asked_two") rfl), FunD.bindsN F_law_asked_two (fun _ _ _ _ _ _ us hl => match us, hl with | [_], _ => rfl)⟩,
    He.free_ok X G (c.fact 49 (f := .free "abs") rfl),
    He.free_ok X G (c.fact 50 (f := .free "bool") rfl),
    He.free_ok X G (c.fact 51 (f := .free "int") rfl),
    He.free_ok X G (c.fact 52 (f := .free "isinstance") rfl),
    He.free_ok X G (c.fact 53 (f := .free "len") rfl),
    He.free_ok X G (c.fact 54 (f := .free "max") rfl),
    He.free_ok X G (c.fact 55 (f := .free "min") rfl),
    He.free_ok X G (c.fact 56 (f := .free "range") rfl),
    He.free_ok X G (c.fact 57 (f := .free "repr") rfl),
    He.free_ok X G (c.fact 58 (f := .free "str") rfl),
    He.free_ok X G (c.fact 59 (f := .free "tuple") rfl),
    tk_MOST_LONG,
    ct_MOST_LONG,
    GTupI.of (He.glo_ok X G (c.fact 61 (f := .glo "EAST") rfl)) cx_EAST rfl,
    GTupI.of (He.glo_ok X G (c.fact 62 (f := .glo "NORTH") rfl)) cx_NORTH rfl,
    xc1B_ok X G cx_NoWay,
    fdi_NoWay,
    Fi_NoWay,
    FunD.bindsN Fi_NoWay (fun _ _ _ _ _ _ us hl => match us, hl with | [_, _], _ => rfl)⟩
  exact ⟨fd_law, fun s v => FunD.bindsA (ps := P_law) F_law (fun _ _ _ _ _ _ us hl => match us, hl with | [_], _ => rfl) s [v] rfl, fun base _ _ => ok_law T F_law⟩
end K05
open PySem PySem.W PySem.Calls PyProof.Rows
set_option maxRecDepth 100000 in
set_option maxHeartbeats 0 in
theorem PySem.Challenge.cw_hintscribe_k05_ways_measures_places_move_holds : PySem.Challenge.rw_hintscribe_k05_ways_measures_places_move.Holds := by
  w_on; o_law
  refine HandSHeadRun.head_any (r := OpenLaw.row PySem.Challenge.rw_hintscribe_k05_ways_measures_places_move) (q := view (OpenLaw.row PySem.Challenge.rw_hintscribe_k05_ways_measures_places_move).prog [60]) (H := K05.hk) (ob := K05.ob) (M := 6000) (loose := K05.others) (d := HandSHeadRun.topDef (OpenLaw.row PySem.Challenge.rw_hintscribe_k05_ways_measures_places_move).prog 60) (kwd := []) K05.ob_eq
    (by kernel_rfl) (fun s => by kernel_rfl) K05.run (by kernel_rfl) (by kernel_rfl) (by kernel_rfl) (by rfl) (by first | assumption | decide +kernel) (by decide +kernel) ⟨rfl, rfl, rfl, rfl, rfl, by decide +kernel⟩ ?hw ?hc
  case hw => w_witness2
  case hc =>
    refine DL.walk_lawG (l := PySem.Challenge.rw_hintscribe_k05_ways_measures_places_move) (n := 63) (k := 10) (x := "script") rfl (by decide) (by kernel_rfl) ⟨rfl, by decide, by decide⟩ ?F
    intro w mg fa h Y G hmg0
    obtain ⟨K, KX, c⟩ := Y
    have hmg : mg ("law" : PySem.Str) = some (.ref fa) := by
      have e : (HandSHeadRun.topDef (OpenLaw.row PySem.Challenge.rw_hintscribe_k05_ways_measures_places_move).prog 60).name = ("law" : PySem.Str) := by kernel_rfl
      rw [← e]
      exact hmg0
    obtain ⟨fd, hb, hF⟩ := K05.facts (P := (PySem.Challenge.rw_hintscribe_k05_ways_measures_places_move).prog) (w := w) KX G hmg c
    exact ⟨K, fd, KX, hb, hF⟩
#print axioms PySem.Challenge.cw_hintscribe_k05_ways_measures_places_move_holds
