import PyProof.Rows.All
import Wide.All
import OpenK.AllK
import Wide.FinOn
import HandS.ForMost
import HandS.ForExc
import HandS.Wide
import HandS.Defaults
import HandS.IsInst
import HandS.Flow
import HandS.Conv
import HandS.EndBits
import HandS.Head0
import HandS.Head1
import HandS.Head2
import HandS.HeadEnd
import HandS.HeadHook1
import HandS.HeadHook2
import HandS.ExcInit
import HandS.ExcIs
import HandS.SortInts
import HandS.Style
import KE.GoesMore
import HandS.Exc
import HandS.ExcOwn
import HandS.ExcField
import HandS.ClsMeth
import HandS.Dict
import HandS.Iter
import HandS.RevRange
import HandS.SortKw
import KE.DataCmp
import KE.DatumOrd
import HandS.SortRule
import HandS.Comp
import HandS.Zip
import KE.KUnpackStar
import HandS.CallLocal
import HandS.More
import HandS.Small
import HandS.HeadHook3
import PyProof.ReprRoads
import HandS.ExcCtx
import HandS.HotCalls
import HandS.Flt
import KE.KExcInit
import PyProof.ExcBaseAll.ValueError
import PyProof.ExcBaseAll.LookupError
import PyProof.ExcBaseAll.ZeroDivisionError
import PyProof.Rows.FactsExc_KeyError
import KE.KEqDict
import KE.KxText
import PySem.Challenge.RW_hintscribe_k04_refusals_by_names
set_option Elab.async false
set_option linter.all false
set_option maxRecDepth 100000
set_option maxHeartbeats 1000000
/-! DL, part 1: values whose tuples (and lists that nobody changes any more) are trees, over the hand layer. -/
namespace DL
open PySem PySem.Spec L2

/-- the built-in classes that programs name -/
inductive Tg where
  | int | bool | str | tup | lst | dct | non | exc
  deriving DecidableEq
def Tg.name : Tg → String
  | .int => "int" | .bool => "bool" | .str => "str" | .tup => "tuple" | .lst => "list" | .dct => "dict" | .non => "NoneType" | .exc => "ellipsis"
/-- a value: tuples, and lists that stay as they are, are trees (scr: a list that is read alone, the script) -/
inductive D where
  | non | bl (b : Bool) | int (i : Int) | str (x : Str) | ty (t : Tg)
  | tup (ds : List D) | lst (ds : List D) | scr (ds : List D)
  | ref (a : Addr)
  | dct (ks : List Key) (ds : List D)
  | dcT (ks : List (List Key)) (ds : List D)

/-- what may change, at an address -/
inductive GO where
  | lst (ds : List D)
  | dK (kvs : List (Key × D))
  | dT (kvs : List (List Key × D))
  | ins (C : Addr) (fs : List (Str × D))
  | exo (C : Addr) (fs : List (Str × D))
  | exn (C : Addr)

abbrev GHp := Addr → Option GO
def gupd (G : GHp) (a : Addr) (o : GO) : GHp := fun b => if b = a then some o else G b
theorem gupd_same {G : GHp} {a : Addr} {o : GO} : gupd G a o a = some o := by unfold gupd; rw [if_pos rfl]
theorem gupd_ne {G : GHp} {a b : Addr} {o : GO} (h : b ≠ a) : gupd G a o b = G b := by unfold gupd; rw [if_neg h]
theorem gupd_gupd {G : GHp} {a : Addr} {o u : GO} : gupd (gupd G a o) a u = gupd G a u := by
  funext b; unfold gupd; split <;> rfl
theorem gupd_self {G : GHp} {a : Addr} {o : GO} (h : G a = some o) : gupd G a o = G := by
  funext b; unfold gupd; split
  · next e => rw [e, h]
  · rfl

/-- the part of the abstract heap that stays as it is: neither tracked by G nor hidden -/
def U (H : Hp) (G : GHp) (Z : Addr → Bool) : Hp := fun a => if (G a).isSome || Z a then none else H a
theorem U_some {H : Hp} {G : GHp} {Z : Addr → Bool} {a : Addr} {o : HO} (h : U H G Z a = some o) : G a = none ∧ Z a = false ∧ H a = some o := by
  unfold U at h
  split at h
  · cases h
  · next e =>
    simp only [Bool.or_eq_true, not_or, Bool.not_eq_true] at e
    refine ⟨?_, e.2, h⟩
    cases q : G a with
    | none => rfl
    | some x => rw [q] at e; simp at e
theorem U_of {H : Hp} {G : GHp} {Z : Addr → Bool} {a : Addr} {o : HO} (h1 : G a = none) (h2 : Z a = false) (h3 : H a = some o) : U H G Z a = some o := by
  unfold U
  rw [h1, h2]
  exact h3

/-- a tuple that is told, or one of the module's, of three items -/
def TupAt (K : PySem.W.Frag) (W : Hp) (a : Addr) (xs : List V) : Prop := W a = some (.tup xs) ∨ (xs.length = 3 ∧ ∀ H, SqT K H a xs)
theorem TupAt.mono {K : PySem.W.Frag} {W W' : Hp} (k : ∀ a o, W a = some o → W' a = some o) {a : Addr} {xs : List V} (h : TupAt K W a xs) : TupAt K W' a xs := h.imp (k _ _) fun q => q
theorem TupAt.sq {K : PySem.W.Frag} {W W' : Hp} (k : ∀ a o, W a = some o → W' a = some o) {a : Addr} {xs : List V} (h : TupAt K W a xs) : SqT K W' a xs := h.elim (fun h => SqT.of (k _ _ h)) fun q => q.2 _
mutual
/-- the value v is (the tree) d, in a heap that stays -/
inductive Rep (K : PySem.W.Frag) (W : Hp) : D → V → Prop
  | non : Rep K W .non .non
  | bl (b : Bool) : Rep K W (.bl b) (.bl b)
  | int (i : Int) : Rep K W (.int i) (.int i)
  | str (x : Str) : Rep K W (.str x) (.str x)
  | ty (t : Tg) : Rep K W (.ty t) (.ty t.name)
  | ref (a : Addr) : Rep K W (.ref a) (.ref a)
  | tup {a : Addr} {xs : List V} {ds : List D} : TupAt K W a xs → Reps K W ds xs → Rep K W (.tup ds) (.ref a)
  | lst {a : Addr} {xs : List V} {ds : List D} : W a = some (.lst xs) → Reps K W ds xs → Rep K W (.lst ds) (.ref a)
  | scr {a : Addr} {xs : List V} {ds : List D} : SqL K W a xs → Reps K W ds xs → Rep K W (.scr ds) (.ref a)
  | dct {a : Addr} {o : Obj} {xs : List (Key × V)} {ks : List Key} {ds : List D} : W a = some (.frz o (.dK xs)) → xs.map (·.1) = ks → Reps K W ds (xs.map (·.2)) → Rep K W (.dct ks ds) (.ref a)
  | dcT {a : Addr} {o : Obj} {xs : List (List Key × V)} {ks : List (List Key)} {ds : List D} : W a = some (.frz o (.dT xs)) → xs.map (·.1) = ks → Reps K W ds (xs.map (·.2)) → Rep K W (.dcT ks ds) (.ref a)
inductive Reps (K : PySem.W.Frag) (W : Hp) : List D → List V → Prop
  | nil : Reps K W [] []
  | cons {d : D} {v : V} {ds : List D} {vs : List V} : Rep K W d v → Reps K W ds vs → Reps K W (d :: ds) (v :: vs)
end

theorem Rd.mono {W W' : Hp} (k : ∀ a o, W a = some o → W' a = some o) {a : Addr} {u : HO} (h : Rd W a u) : Rd W' a u := by
  rcases h with h | ⟨o, h⟩
  · exact .inl (k _ _ h)
  · exact .inr ⟨o, k _ _ h⟩
theorem SqT.mono {K : PySem.W.Frag} {W W' : Hp} (k : ∀ a o, W a = some o → W' a = some o) {a : Addr} {xs : List V} (h : SqT K W a xs) : SqT K W' a xs := by
  rcases h with h | h
  · exact .inl (Rd.mono k h)
  · exact .inr h
theorem SqL.mono {K : PySem.W.Frag} {W W' : Hp} (k : ∀ a o, W a = some o → W' a = some o) {a : Addr} {xs : List V} (h : SqL K W a xs) : SqL K W' a xs := by
  rcases h with h | h
  · exact .inl (Rd.mono k h)
  · exact .inr h

section
variable {K : PySem.W.Frag} {W W' : Hp}
mutual
theorem Rep.mono (k : ∀ a o, W a = some o → W' a = some o) : ∀ {d : D} {v : V}, Rep K W d v → Rep K W' d v
  | _, _, .non => .non
  | _, _, .bl b => .bl b
  | _, _, .int i => .int i
  | _, _, .str x => .str x
  | _, _, .ty n => .ty n
  | _, _, .ref a => .ref a
  | _, _, .tup h r => .tup (TupAt.mono k h) (Reps.mono k r)
  | _, _, .lst h r => .lst (k _ _ h) (Reps.mono k r)
  | _, _, .scr h r => .scr (SqL.mono k h) (Reps.mono k r)
  | _, _, .dct h e r => .dct (k _ _ h) e (Reps.mono k r)
  | _, _, .dcT h e r => .dcT (k _ _ h) e (Reps.mono k r)
theorem Reps.mono (k : ∀ a o, W a = some o → W' a = some o) : ∀ {ds : List D} {vs : List V}, Reps K W ds vs → Reps K W' ds vs
  | _, _, .nil => .nil
  | _, _, .cons h r => .cons (Rep.mono k h) (Reps.mono k r)
end
theorem Reps.length : ∀ {ds : List D} {vs : List V}, Reps K W ds vs → ds.length = vs.length
  | _, _, .nil => rfl
  | _, _, .cons _ r => by simp [Reps.length r]
theorem Reps.append : ∀ {ds es : List D} {vs us : List V}, Reps K W ds vs → Reps K W es us → Reps K W (ds ++ es) (vs ++ us)
  | _, _, _, _, .nil, q => q
  | _, _, _, _, .cons h r, q => .cons h (Reps.append r q)
theorem Reps.take : ∀ {ds : List D} {vs : List V} (n : Nat), Reps K W ds vs → Reps K W (ds.take n) (vs.take n)
  | _, _, 0, _ => by simp only [List.take_zero]; exact .nil
  | _, _, n + 1, .nil => .nil
  | _, _, n + 1, .cons h r => .cons h (Reps.take n r)
theorem Reps.drop : ∀ {ds : List D} {vs : List V} (n : Nat), Reps K W ds vs → Reps K W (ds.drop n) (vs.drop n)
  | _, _, 0, r => r
  | _, _, n + 1, .nil => .nil
  | _, _, n + 1, .cons h r => Reps.drop n r
theorem Reps.get : ∀ {ds : List D} {vs : List V} {i : Nat} {d : D}, Reps K W ds vs → ds[i]? = some d → ∃ v, vs[i]? = some v ∧ Rep K W d v
  | _, _, 0, d, .cons h r, e => by
    simp at e; subst e; exact ⟨_, rfl, h⟩
  | _, _, i + 1, d, .cons h r, e => by
    obtain ⟨v, h1, h2⟩ := Reps.get (i := i) (d := d) r (by simpa using e)
    exact ⟨v, by simpa using h1, h2⟩
theorem Reps.get' : ∀ {ds : List D} {vs : List V} {i : Nat} {v : V}, Reps K W ds vs → vs[i]? = some v → ∃ d, ds[i]? = some d ∧ Rep K W d v
  | _, _, 0, d, .cons h r, e => by
    simp at e; subst e; exact ⟨_, rfl, h⟩
  | _, _, i + 1, d, .cons h r, e => by
    obtain ⟨v, h1, h2⟩ := Reps.get' (i := i) (v := d) r (by simpa using e)
    exact ⟨v, by simpa using h1, h2⟩
theorem Reps.set {d : D} {v : V} (h : Rep K W d v) : ∀ {ds : List D} {vs : List V} (i : Nat), Reps K W ds vs → Reps K W (ds.set i d) (vs.set i v)
  | _, _, _, .nil => .nil
  | _, _, 0, .cons _ r => .cons h r
  | _, _, i + 1, .cons q r => .cons q (Reps.set h i r)
theorem Reps.reverse : ∀ {ds : List D} {vs : List V}, Reps K W ds vs → Reps K W ds.reverse vs.reverse
  | _, _, .nil => .nil
  | _, _, .cons h r => by
    rw [List.reverse_cons, List.reverse_cons]
    exact Reps.append (Reps.reverse r) (.cons h .nil)
theorem Reps.ints : ∀ {ns : List Int} {vs : List V}, Reps K W (ns.map D.int) vs → vs = ns.map V.int
  | [], _, .nil => rfl
  | _ :: _, _, .cons h r => by
    cases h
    rw [List.map_cons, Reps.ints r]
theorem Reps.of_ints : ∀ (ns : List Int), Reps K W (ns.map D.int) (ns.map V.int)
  | [] => .nil
  | n :: r => .cons (.int n) (Reps.of_ints r)
theorem Reps.strs : ∀ {ns : List Str} {vs : List V}, Reps K W (ns.map D.str) vs → vs = ns.map V.str
  | [], _, .nil => rfl
  | _ :: _, _, .cons h r => by
    cases h
    rw [List.map_cons, Reps.strs r]
theorem Reps.bls : ∀ {ns : List Bool} {vs : List V}, Reps K W (ns.map D.bl) vs → vs = ns.map V.bl
  | [], _, .nil => rfl
  | _ :: _, _, .cons h r => by
    cases h
    rw [List.map_cons, Reps.bls r]
end

/-- slots: what is told holds -/
inductive RepO (K : PySem.W.Frag) (W : Hp) : Option D → Option V → Prop
  | no (o : Option V) : RepO K W none o
  | so {d : D} {v : V} : Rep K W d v → RepO K W (some d) (some v)
abbrev DSt := List (Option D)
def RepSt (K : PySem.W.Frag) (W : Hp) (δ : DSt) (σ : St) : Prop := Paired (RepO K W) δ σ
section
variable {K : PySem.W.Frag} {W W' : Hp}
theorem RepO.mono (k : ∀ a o, W a = some o → W' a = some o) {d : Option D} {v : Option V} (h : RepO K W d v) : RepO K W' d v := by
  cases h with
  | no => exact .no _
  | so h => exact .so (h.mono k)
theorem RepSt.mono (k : ∀ a o, W a = some o → W' a = some o) {δ : DSt} {σ : St} (h : RepSt K W δ σ) : RepSt K W' δ σ :=
  Paired.mapP h fun _ _ q => q.mono k
theorem RepSt.get {δ : DSt} {σ : St} (h : RepSt K W δ σ) : ∀ {i : Nat} {d : D}, δ[i]? = some (some d) → ∃ v, σ[i]? = some (some v) ∧ Rep K W d v := by
  induction h with
  | nil => intro i d e; simp at e
  | cons q t ih =>
    intro i d e
    cases i with
    | zero =>
      simp at e; subst e
      cases q with
      | so q => exact ⟨_, rfl, q⟩
    | succ i =>
      obtain ⟨v, h1, h2⟩ := ih (i := i) (d := d) (by simpa using e)
      exact ⟨v, by simpa using h1, h2⟩
theorem RepSt.set {δ : DSt} {σ : St} (h : RepSt K W δ σ) {d : D} {v : V} (q : Rep K W d v) : ∀ (i : Nat), RepSt K W (δ.set i (some d)) (σ.set i (some v)) := by
  induction h with
  | nil => intro i; exact .nil
  | cons r t ih =>
    intro i
    cases i with
    | zero => exact .cons (.so q) t
    | succ i => exact .cons r (ih i)
theorem RepSt.forget {δ : DSt} {σ : St} (h : RepSt K W δ σ) : ∀ (i : Nat) (o : Option V), RepSt K W (δ.set i none) (σ.set i o) := by
  induction h with
  | nil => intro i o; exact .nil
  | cons r t ih =>
    intro i o
    cases i with
    | zero => exact .cons (.no o) t
    | succ i => exact .cons r (ih i o)
theorem RepSt.length {δ : DSt} {σ : St} (h : RepSt K W δ σ) : δ.length = σ.length := Paired.length h
theorem RepSt.somes : ∀ {ds : List D} {vs : List V}, Reps K W ds vs → RepSt K W (ds.map some) (vs.map some)
  | _, _, .nil => .nil
  | _, _, .cons h r => .cons (.so h) (RepSt.somes r)
theorem RepSt.nones : ∀ (n : Nat), RepSt K W (List.replicate n none) (List.replicate n none)
  | 0 => .nil
  | n + 1 => .cons (.no _) (RepSt.nones n)
theorem RepSt.app {δ δ' : DSt} {σ σ' : St} (h : RepSt K W δ σ) (q : RepSt K W δ' σ') : RepSt K W (δ ++ δ') (σ ++ σ') := by
  induction h with
  | nil => exact q
  | cons r t ih => exact .cons r ih
end

/-- what an own exception class tells, so that isinstance asks its instances for built-in types -/
structure ExoF (K : PySem.W.Frag) (C : Addr) : Prop where
  c : ExcC K C
  n : ∀ t : Tg, PySem.W.kitOne K (.ref C) (.type t.name) = some false
/-- the tracked things are as G tells -/
def GOk (K : PySem.W.Frag) (H W : Hp) (a : Addr) : GO → Prop
  | .lst ds => ∃ xs, H a = some (.lst xs) ∧ Reps K W ds xs
  | .dK kvs => ∃ xs, H a = some (.dK xs) ∧ xs.map (·.1) = kvs.map (·.1) ∧ Reps K W (kvs.map (·.2)) (xs.map (·.2))
  | .dT kvs => ∃ xs, H a = some (.dT xs) ∧ xs.map (·.1) = kvs.map (·.1) ∧ Reps K W (kvs.map (·.2)) (xs.map (·.2))
  | .ins C fs => ∃ dx xs, H a = some (.ins C dx xs) ∧ xs.map (·.1) = fs.map (·.1) ∧ Reps K W (fs.map (·.2)) (xs.map (·.2))
  | .exo C fs => ExoF K C ∧ ∃ dx xs, H a = some (L2.exo a C (some dx)) ∧ W dx = some (L2.exd dx xs) ∧ xs.map (·.1) = fs.map (·.1) ∧ Reps K W (fs.map (·.2)) (xs.map (·.2))
  | .exn C => ExoF K C ∧ H a = some (L2.exo a C none)
theorem GOk.mono {K : PySem.W.Frag} {H H' W W' : Hp} {a : Addr} {o : GO} (k : ∀ a o, W a = some o → W' a = some o) (e : H' a = H a) (h : GOk K H W a o) : GOk K H' W' a o := by
  cases o with
  | lst ds => obtain ⟨xs, h1, h2⟩ := h; exact ⟨xs, e.trans h1, h2.mono k⟩
  | dK kvs => obtain ⟨xs, h1, h2, h3⟩ := h; exact ⟨xs, e.trans h1, h2, h3.mono k⟩
  | dT kvs => obtain ⟨xs, h1, h2, h3⟩ := h; exact ⟨xs, e.trans h1, h2, h3.mono k⟩
  | ins C fs => obtain ⟨dx, xs, h1, h2, h3⟩ := h; exact ⟨dx, xs, e.trans h1, h2, h3.mono k⟩
  | exo C fs => obtain ⟨h0, dx, xs, h1, h2, h3, h4⟩ := h; exact ⟨h0, dx, xs, e.trans h1, k _ _ h2, h3, h4.mono k⟩
  | exn C => exact ⟨h.1, e.trans h.2⟩
theorem GOk.there {K : PySem.W.Frag} {H W : Hp} {a : Addr} {o : GO} (h : GOk K H W a o) : H a ≠ none := by
  cases o with
  | lst ds => obtain ⟨xs, h1, h2⟩ := h; rw [h1]; simp
  | dK kvs => obtain ⟨xs, h1, h2⟩ := h; rw [h1]; simp
  | dT kvs => obtain ⟨xs, h1, h2⟩ := h; rw [h1]; simp
  | ins C fs => obtain ⟨dx, xs, h1, h2⟩ := h; rw [h1]; simp
  | exo C fs => obtain ⟨h0, dx, xs, h1, h2⟩ := h; rw [h1]; simp
  | exn C => rw [h.2]; simp
structure Ok (K : PySem.W.Frag) (H : Hp) (G : GHp) (Z : Addr → Bool) : Prop where
  ok : ∀ a o, G a = some o → Z a = false ∧ GOk K H (U H G Z) a o
  hid : ∀ a, Z a = true → ∃ xs, H a = some (.lst xs)
/-- what stays, stays; what is hidden, too -/
structure Kp (H : Hp) (G : GHp) (Z : Addr → Bool) (H' : Hp) (G' : GHp) : Prop where
  keep : ∀ a o, U H G Z a = some o → U H' G' Z a = some o
  hid : ∀ a o, Z a = true → H a = some o → H' a = some o
theorem Kp.refl {H : Hp} {G : GHp} {Z : Addr → Bool} : Kp H G Z H G := ⟨fun _ _ h => h, fun _ _ _ h => h⟩
theorem Kp.trans {H H1 H2 : Hp} {G G1 G2 : GHp} {Z : Addr → Bool} (a : Kp H G Z H1 G1) (b : Kp H1 G1 Z H2 G2) : Kp H G Z H2 G2 :=
  ⟨fun x o h => b.keep x o (a.keep x o h), fun x o z h => b.hid x o z (a.hid x o z h)⟩

section
variable {K : PySem.W.Frag} {H H' : Hp} {G : GHp} {Z : Addr → Bool} {p : Addr} {o : HO}
theorem Ok.free (ok : Ok K H G Z) (h : H p = none) : G p = none ∧ Z p = false := by
  constructor
  · cases e : G p with
    | none => rfl
    | some x => exact absurd h (ok.ok p x e).2.there
  · cases e : Z p with
    | false => rfl
    | true =>
      obtain ⟨xs, hx⟩ := ok.hid p e
      rw [h] at hx; cases hx
/-- a new thing that G doesn't track -/
theorem Kp.laid (h : H p = none) : Kp H G Z (upd H p o) G := by
  refine ⟨fun a u e => ?_, fun a u z e => ?_⟩
  · obtain ⟨h1, h2, h3⟩ := U_some e
    exact U_of h1 h2 (by rw [upd_ne (ne_of_none h3 h)]; exact h3)
  · rw [upd_ne (ne_of_none e h)]; exact e
theorem Ok.laid (ok : Ok K H G Z) (h : H p = none) : Ok K (upd H p o) G Z := by
  refine ⟨fun a u e => ?_, fun a z => ?_⟩
  · obtain ⟨z, g⟩ := ok.ok a u e
    have hne : a ≠ p := fun q => g.there (by rw [q]; exact h)
    exact ⟨z, g.mono (Kp.laid h).keep (upd_ne hne)⟩
  · by_cases hq : a = p
    · subst hq; obtain ⟨xs, hx⟩ := ok.hid _ z; rw [h] at hx; cases hx
    · rw [upd_ne hq]; exact ok.hid a z
theorem U_laid (ok : Ok K H G Z) (h : H p = none) : U (upd H p o) G Z p = some o := U_of (ok.free h).1 (ok.free h).2 upd_same
/-- a new thing that G tracks -/
theorem Kp.laidG {go : GO} (h : H p = none) (hg : G p = none) : Kp H G Z (upd H p o) (gupd G p go) := by
  refine ⟨fun a u e => ?_, fun a u z e => ?_⟩
  · obtain ⟨h1, h2, h3⟩ := U_some e
    have hne := ne_of_none h3 h
    exact U_of (by rw [gupd_ne hne]; exact h1) h2 (by rw [upd_ne hne]; exact h3)
  · rw [upd_ne (ne_of_none e h)]; exact e
theorem Ok.laidG {go : GO} (ok : Ok K H G Z) (h : H p = none) (g : GOk K (upd H p o) (U (upd H p o) (gupd G p go) Z) p go) : Ok K (upd H p o) (gupd G p go) Z := by
  refine ⟨fun a u e => ?_, fun a z => ?_⟩
  · by_cases hq : a = p
    · subst hq
      rw [gupd_same] at e; cases e
      exact ⟨(ok.free h).2, g⟩
    · rw [gupd_ne hq] at e
      obtain ⟨z, g'⟩ := ok.ok a u e
      exact ⟨z, g'.mono (Kp.laidG h (ok.free h).1).keep (upd_ne hq)⟩
  · by_cases hq : a = p
    · subst hq; obtain ⟨xs, hx⟩ := ok.hid _ z; rw [h] at hx; cases hx
    · rw [upd_ne hq]; exact ok.hid a z
/-- a tracked thing is written -/
theorem Kp.wrote {go go' : GO} (hg : G p = some go) (hz : Z p = false) : Kp H G Z (upd H p o) (gupd G p go') := by
  refine ⟨fun a u e => ?_, fun a u z e => ?_⟩
  · obtain ⟨h1, h2, h3⟩ := U_some e
    have hne : a ≠ p := fun q => by rw [q, hg] at h1; cases h1
    exact U_of (by rw [gupd_ne hne]; exact h1) h2 (by rw [upd_ne hne]; exact h3)
  · have hne : a ≠ p := fun q => by rw [q, hz] at z; cases z
    rw [upd_ne hne]; exact e
theorem Ok.wrote {go go' : GO} (ok : Ok K H G Z) (hg : G p = some go) (g : GOk K (upd H p o) (U (upd H p o) (gupd G p go') Z) p go') : Ok K (upd H p o) (gupd G p go') Z := by
  have hz := (ok.ok p go hg).1
  refine ⟨fun a u e => ?_, fun a z => ?_⟩
  · by_cases hq : a = p
    · subst hq
      rw [gupd_same] at e; cases e
      exact ⟨hz, g⟩
    · rw [gupd_ne hq] at e
      obtain ⟨z, g'⟩ := ok.ok a u e
      exact ⟨z, g'.mono (Kp.wrote hg hz).keep (upd_ne hq)⟩
  · by_cases hq : a = p
    · subst hq; rw [hz] at z; cases z
    · rw [upd_ne hq]; exact ok.hid a z
end

/-! ### readings -/
abbrev DK := D → GHp → Prop
abbrev DTE := DSt → GHp → DK → Prop
abbrev DTT := DSt → GHp → (Bool → GHp → Prop) → Prop
abbrev DTA := DSt → GHp → (List D → GHp → Prop) → Prop
/-- where an exception goes: its class, its fields (if its class has an own dict), the slots -/
abbrev DXS := Value → Option (List (Str × D)) → DSt → GHp → Prop
structure DEnds where
  nx : DSt → GHp → Prop
  rt : DK
  bk : DSt → GHp → Prop := fun _ _ => False
  ct : DSt → GHp → Prop := fun _ _ => False
  ex : DXS := fun _ _ _ _ => False
abbrev DTS := DEnds → DSt → GHp → Prop

def cE (K : PySem.W.Frag) (t : DTE) : TE := fun σ H Q => ∃ (δ : DSt) (G : GHp) (Z : Addr → Bool) (Q0 : DK), Ok K H G Z ∧ RepSt K (U H G Z) δ σ ∧ t δ G Q0 ∧
  ∀ d G' v H', Q0 d G' → Kp H G Z H' G' → Ok K H' G' Z → Rep K (U H' G' Z) d v → Q v H'
def cT (K : PySem.W.Frag) (t : DTT) : TT := fun σ H Q => ∃ (δ : DSt) (G : GHp) (Z : Addr → Bool) (Q0 : Bool → GHp → Prop), Ok K H G Z ∧ RepSt K (U H G Z) δ σ ∧ t δ G Q0 ∧
  ∀ b G' H', Q0 b G' → Kp H G Z H' G' → Ok K H' G' Z → Q b H'
def cA (K : PySem.W.Frag) (t : DTA) : TA := fun σ H Q => ∃ (δ : DSt) (G : GHp) (Z : Addr → Bool) (Q0 : List D → GHp → Prop), Ok K H G Z ∧ RepSt K (U H G Z) δ σ ∧ t δ G Q0 ∧
  ∀ ds G' vs H', Q0 ds G' → Kp H G Z H' G' → Ok K H' G' Z → Reps K (U H' G' Z) ds vs → Q vs H'
/-- the ends answer one another, from (H, G) on -/
structure ELk (K : PySem.W.Frag) (W : WX) (Z : Addr → Bool) (D0 : DEnds) (E : Ends) (H : Hp) (G : GHp) : Prop where
  nx : ∀ δ' G' σ' H', D0.nx δ' G' → Kp H G Z H' G' → Ok K H' G' Z → RepSt K (U H' G' Z) δ' σ' → E.nx σ' H'
  bk : ∀ δ' G' σ' H', D0.bk δ' G' → Kp H G Z H' G' → Ok K H' G' Z → RepSt K (U H' G' Z) δ' σ' → E.bk σ' H'
  ct : ∀ δ' G' σ' H', D0.ct δ' G' → Kp H G Z H' G' → Ok K H' G' Z → RepSt K (U H' G' Z) δ' σ' → E.ct σ' H'
  rt : ∀ d G' v H', D0.rt d G' → Kp H G Z H' G' → Ok K H' G' Z → Rep K (U H' G' Z) d v → E.rt v H'
  exb : ∀ c δ' G' σ' H', D0.ex c none δ' G' → Kp H G Z H' G' → Ok K H' G' Z → RepSt K (U H' G' Z) δ' σ' → W c none σ' H'
  exo : ∀ c fs δ' G' σ' H' dx xs, D0.ex c (some fs) δ' G' → Kp H G Z H' G' → Ok K H' G' Z → RepSt K (U H' G' Z) δ' σ' → U H' G' Z dx = some (.xd xs) → xs.map (·.1) = fs.map (·.1) → Reps K (U H' G' Z) (fs.map (·.2)) (xs.map (·.2)) → W c (some dx) σ' H'
theorem ELk.after {K : PySem.W.Frag} {W : WX} {Z : Addr → Bool} {D0 : DEnds} {E : Ends} {H H1 : Hp} {G G1 : GHp} (e : ELk K W Z D0 E H G) (k : Kp H G Z H1 G1) : ELk K W Z D0 E H1 G1 :=
  ⟨fun δ' G' σ' H' h q => e.nx δ' G' σ' H' h (k.trans q), fun δ' G' σ' H' h q => e.bk δ' G' σ' H' h (k.trans q), fun δ' G' σ' H' h q => e.ct δ' G' σ' H' h (k.trans q), fun d G' v H' h q => e.rt d G' v H' h (k.trans q),
    fun c δ' G' σ' H' h q => e.exb c δ' G' σ' H' h (k.trans q), fun c fs δ' G' σ' H' dx xs h q => e.exo c fs δ' G' σ' H' dx xs h (k.trans q)⟩
def cS (K : PySem.W.Frag) (W : WX) (t : DTS) : TS := fun E σ H => ∃ (δ : DSt) (G : GHp) (Z : Addr → Bool) (D0 : DEnds), Ok K H G Z ∧ RepSt K (U H G Z) δ σ ∧ t D0 δ G ∧ ELk K W Z D0 E H G

def DE (X : Cx) (e : Expr) (t : DTE) : Prop := PE X e (cE X.K t)
def DT (X : Cx) (e : Expr) (t : DTT) : Prop := PT X e (cT X.K t)
def DW (X : Cx) (e : Expr) (t : DTT) : Prop := PW X e (cT X.K t)
def DA (X : Cx) (es : List Expr) (t : DTA) : Prop := PA X es (cA X.K t)
def DS (X : Cx) (W : WX) (st : Stmt) (t : DTS) : Prop := PS X st (cS X.K W t)
def DSs (X : Cx) (W : WX) (st : List Stmt) (t : DTS) : Prop := PSs X st (cS X.K W t)
/-- no exception -/
abbrev W0 : WX := fun _ _ _ _ => False

theorem PE.mono {X : Cx} {e : Expr} {t u : TE} (h : PE X e t) (k : ∀ σ H Q, u σ H Q → t σ H Q) : PE X e u :=
  ⟨fun pins s σ H Q I q => h.run pins s σ H Q I (k σ H Q q)⟩
theorem PT.mono {X : Cx} {e : Expr} {t u : TT} (h : PT X e t) (k : ∀ σ H Q, u σ H Q → t σ H Q) : PT X e u :=
  ⟨fun pins s σ H Q I q => h.run pins s σ H Q I (k σ H Q q)⟩
theorem PW.mono {X : Cx} {e : Expr} {t u : TT} (h : PW X e t) (k : ∀ σ H Q, u σ H Q → t σ H Q) : PW X e u :=
  ⟨fun wh pins s σ H Q I q => h.run wh pins s σ H Q I (k σ H Q q)⟩
theorem PA.mono {X : Cx} {e : List Expr} {t u : TA} (h : PA X e t) (k : ∀ σ H Q, u σ H Q → t σ H Q) : PA X e u :=
  ⟨fun pos pins s σ H Q I q => h.run pos pins s σ H Q I (k σ H Q q)⟩
theorem PS.mono {X : Cx} {e : Stmt} {t u : TS} (h : PS X e t) (k : ∀ D σ H, u D σ H → t D σ H) : PS X e u :=
  ⟨fun pins s σ H D I q => h.run pins s σ H D I (k D σ H q)⟩
theorem PSs.mono {X : Cx} {e : List Stmt} {t u : TS} (h : PSs X e t) (k : ∀ D σ H, u D σ H → t D σ H) : PSs X e u :=
  ⟨fun pins s σ H D I q => h.run pins s σ H D I (k D σ H q)⟩

/-- two ways by a Bool -/
def dIte (b : Bool) (P Q : Prop) : Prop := (b = true → P) ∧ (b = false → Q)
theorem dIte_cases {b : Bool} {P Q : Prop} (h : dIte b P Q) : if b = true then P else Q := by
  cases b with
  | true => rw [if_pos rfl]; exact h.1 rfl
  | false => rw [if_neg (by simp)]; exact h.2 rfl
theorem dIte_t {P Q : Prop} (h : dIte true P Q) : P := h.1 rfl
theorem dIte_f {P Q : Prop} (h : dIte false P Q) : Q := h.2 rfl
theorem dIte_true {P Q : Prop} (h : P) : dIte true P Q := ⟨fun _ => h, fun e => nomatch e⟩
theorem dIte_false {P Q : Prop} (h : Q) : dIte false P Q := ⟨fun e => (nomatch e), fun _ => h⟩

/-! ### names and constants -/
def dVar (i : Nat) : DTE := fun δ G Q => match δ[i]? with
  | some (some d) => Q d G
  | _ => False
def dC (d : D) : DTE := fun _ G Q => Q d G
section
variable {X : Cx} {a b c e : Expr} {ta tb tc te : DTE} {pos : Pos}
theorem de_var {i : Nat} {x : Str} (h : PE X (.Name x pos) (tVar i)) : DE X (.Name x pos) (dVar i) :=
  PE.mono h fun σ H Q ⟨δ, G, Z, Q0, ok, rs, h, k⟩ => by
    unfold dVar at h
    split at h
    · next d e =>
      obtain ⟨v, e1, r⟩ := rs.get e
      exact ⟨v, e1, k d G v H h .refl ok r⟩
    · exact h.elim
theorem de_c {v : V} {d : D} (h : PE X e (tC v)) (r : ∀ W, Rep X.K W d v) : DE X e (dC d) :=
  PE.mono h fun σ H Q ⟨δ, G, Z, Q0, ok, rs, h, k⟩ => k d G v H h .refl ok (r _)
theorem de_int {i j pos} : DE X (.Constant (.int i) j pos) (dC (.int i)) := de_c pe_int fun _ => .int i
theorem de_bl {b j pos} : DE X (.Constant (.bool b) j pos) (dC (.bl b)) := de_c pe_bl fun _ => .bl b
theorem de_non {j pos} : DE X (.Constant .none j pos) (dC .non) := de_c pe_non fun _ => .non
theorem de_str {x j pos} : DE X (.Constant (.str x) j pos) (dC (.str x)) := de_c pe_str fun _ => .str x

/-! ### operators -/
abbrev DR2 := D → D → GHp → DK → Prop
def cR2 (K : PySem.W.Frag) (r : DR2) : R2 := fun v u H Q => ∃ (x y : D) (G : GHp) (Z : Addr → Bool) (Q0 : DK), Ok K H G Z ∧ Rep K (U H G Z) x v ∧ Rep K (U H G Z) y u ∧ r x y G Q0 ∧
  ∀ d G' v' H', Q0 d G' → Kp H G Z H' G' → Ok K H' G' Z → Rep K (U H' G' Z) d v' → Q v' H'
def dOp (r : DR2) (ta tb : DTE) : DTE := fun δ G Q => ta δ G fun x G1 => tb δ G1 fun y G2 => r x y G2 Q
theorem op_split {σ : St} {H : Hp} {Q : VK} {r : DR2} {K : PySem.W.Frag} (h : cE K (dOp r ta tb) σ H Q) : tOp (cR2 K r) (cE K ta) (cE K tb) σ H Q := by
  obtain ⟨δ, G, Z, Q0, ok, rs, h, k⟩ := h
  exact ⟨δ, G, Z, _, ok, rs, h, fun x G1 v H1 h1 k1 ok1 r1 => ⟨δ, G1, Z, _, ok1, rs.mono k1.keep, h1, fun y G2 u H2 h2 k2 ok2 r2 =>
    ⟨x, y, G2, Z, Q0, ok2, r1.mono k2.keep, r2, h2, fun d G' v' H' q k3 ok3 r3 => k d G' v' H' q (k1.trans (k2.trans k3)) ok3 r3⟩⟩⟩
def DOp (X : Cx) (f : Value → Value → Sem Value) (r : DR2) : Prop := OpR X f (cR2 X.K r)
theorem de_op {op : Operator} {r : DR2} (ho : DOp X (binaryOp op) r) (ha : DE X a ta) (hb : DE X b tb) : DE X (.BinOp a op b pos) (dOp r ta tb) :=
  PE.mono (pe_op ho ha hb) fun _ _ _ h => op_split h
theorem de_cmp {op : CmpOp} {r : DR2} (ho : DOp X (compareOp op) r) (ha : DE X a ta) (hb : DE X b tb) (hm : behindInMarks op b = false) : DE X (.Compare a [op] [b] pos) (dOp r ta tb) :=
  PE.mono (pe_cmpR ho ha hb hm) fun _ _ _ h => op_split h
abbrev DR1 := D → GHp → DK → Prop
def cR1 (K : PySem.W.Frag) (r : DR1) : V → Hp → VK → Prop := fun v H Q => ∃ (x : D) (G : GHp) (Z : Addr → Bool) (Q0 : DK), Ok K H G Z ∧ Rep K (U H G Z) x v ∧ r x G Q0 ∧
  ∀ d G' v' H', Q0 d G' → Kp H G Z H' G' → Ok K H' G' Z → Rep K (U H' G' Z) d v' → Q v' H'
def dUn (r : DR1) (ta : DTE) : DTE := fun δ G Q => ta δ G fun x G1 => r x G1 Q
theorem un_split {σ : St} {H : Hp} {Q : VK} {r : DR1} {K : PySem.W.Frag} (h : cE K (dUn r ta) σ H Q) : tUn (cR1 K r) (cE K ta) σ H Q := by
  obtain ⟨δ, G, Z, Q0, ok, rs, h, k⟩ := h
  exact ⟨δ, G, Z, _, ok, rs, h, fun x G1 v H1 h1 k1 ok1 r1 => ⟨x, G1, Z, Q0, ok1, r1, h1, fun d G' v' H' q k3 ok3 r3 => k d G' v' H' q (k1.trans k3) ok3 r3⟩⟩
def DUn (X : Cx) (f : Value → Sem Value) (r : DR1) : Prop := UnR X f (cR1 X.K r)
theorem de_un {op : UnaryOp} {r : DR1} (ho : DUn X (unaryOp op) r) (ha : DE X a ta) : DE X (.UnaryOp op a pos) (dUn r ta) :=
  PE.mono (pe_un ho ha) fun _ _ _ h => un_split h
def dChain (r r' : DR2) (ta tb tc : DTE) : DTE := fun δ G Q => ta δ G fun x G1 => tb δ G1 fun y G2 => r x y G2 fun z G3 => match z with
  | .bl k => dIte k (tc δ G3 fun w G4 => r' y w G4 Q) (Q (.bl false) G3)
  | _ => False
theorem chain_split {σ : St} {H : Hp} {Q : VK} {r r' : DR2} {K : PySem.W.Frag} (h : cE K (dChain r r' ta tb tc) σ H Q) : tChain (cR2 K r) (cR2 K r') (cE K ta) (cE K tb) (cE K tc) σ H Q := by
  obtain ⟨δ, G, Z, Q0, ok, rs, h, k⟩ := h
  exact
    ⟨δ, G, Z, _, ok, rs, h, fun x G1 v H1 h1 k1 ok1 r1 => ⟨δ, G1, Z, _, ok1, rs.mono k1.keep, h1, fun y G2 u H2 h2 k2 ok2 r2 =>
      ⟨x, y, G2, Z, _, ok2, r1.mono k2.keep, r2, h2, fun d G3 v' H3 q k3 ok3 r3 => by
        cases d with
        | bl b =>
          cases r3
          refine ⟨b, rfl, ?_⟩
          have q := dIte_cases q
          cases b with
          | true =>
            rw [if_pos rfl] at q ⊢
            exact ⟨δ, G3, Z, _, ok3, rs.mono (k1.trans (k2.trans k3)).keep, q, fun w G4 w' H4 q4 k4 ok4 r4 => ⟨y, w, G4, Z, Q0, ok4, r2.mono (k3.trans k4).keep, r4, q4, fun d G' v' H' q k5 ok5 r5 =>
              k d G' v' H' q (k1.trans (k2.trans (k3.trans (k4.trans k5)))) ok5 r5⟩⟩
          | false =>
            rw [if_neg (by simp)] at q ⊢
            exact k _ _ _ _ q (k1.trans (k2.trans k3)) ok3 (.bl false)
        | _ => exact q.elim⟩⟩⟩
theorem de_chain {op op' : CmpOp} {r r' : DR2} (ho : DOp X (compareOp op) r) (ho' : DOp X (compareOp op') r') (ha : DE X a ta) (hb : DE X b tb) (hc : DE X c tc)
    (hm : lastMarks [op, op'] [b, c] = false := by with_unfolding_all rfl) : DE X (.Compare a [op, op'] [b, c] pos) (dChain r r' ta tb tc) :=
  PE.mono (pe_chain ho ho' ha hb hc hm) fun σ H Q h => chain_split h

/-! ### argument lists, displays -/
def dNil : DTA := fun _ G Q => Q [] G
def dCons (ta : DTE) (tr : DTA) : DTA := fun δ G Q => ta δ G fun x G1 => tr δ G1 fun xs G2 => Q (x :: xs) G2
theorem da_nil : DA X [] dNil := PA.mono pa_nil fun σ H Q ⟨δ, G, Z, Q0, ok, rs, h, k⟩ => k _ _ _ _ h .refl ok .nil
theorem da_cons {es : List Expr} {t : DTA} (ha : DE X e te) (hr : DA X es t) (hs : starEach (e :: es) X.env = (false, eval e X.env) :: starEach es X.env := by rfl) : DA X (e :: es) (dCons te t) :=
  PA.mono (pa_cons ha hr hs) fun σ H Q ⟨δ, G, Z, Q0, ok, rs, h, k⟩ =>
    ⟨δ, G, Z, _, ok, rs, h, fun x G1 v H1 h1 k1 ok1 r1 => ⟨δ, G1, Z, _, ok1, rs.mono k1.keep, h1, fun xs G2 us H2 h2 k2 ok2 r2 => k _ _ _ _ h2 (k1.trans k2) ok2 (.cons (r1.mono k2.keep) r2)⟩⟩
/-- (a, b, ..) -/
def dTup (t : DTA) : DTE := fun δ G Q => t δ G fun ds G1 => ds.length ≤ sizeLine ∧ Q (.tup ds) G1
theorem de_tup {es : List Expr} {t : DTA} {x1} (h : DA X es t) : DE X (.Tuple es x1 pos) (dTup t) :=
  PE.mono (pe_tup h) fun σ H Q ⟨δ, G, Z, Q0, ok, rs, h, k⟩ =>
    ⟨δ, G, Z, _, ok, rs, h, fun ds G1 vs H1 h1 k1 ok1 r1 => ⟨by rw [← r1.length]; exact h1.1, fun p hp =>
      k _ _ _ _ h1.2 (k1.trans (Kp.laid hp)) (ok1.laid hp) (.tup (.inl (U_laid ok1 hp)) (r1.mono (Kp.laid hp).keep))⟩⟩
/-- [a, b, ..], not to be changed -/
def dLst (t : DTA) : DTE := fun δ G Q => t δ G fun ds G1 => ds.length ≤ sizeLine ∧ Q (.lst ds) G1
theorem de_lst {es : List Expr} {t : DTA} (h : DA X es t) : DE X (.List es pos) (dLst t) :=
  PE.mono (pe_lst h) fun σ H Q ⟨δ, G, Z, Q0, ok, rs, h, k⟩ =>
    ⟨δ, G, Z, _, ok, rs, h, fun ds G1 vs H1 h1 k1 ok1 r1 => ⟨by rw [← r1.length]; exact h1.1, fun p hp =>
      k _ _ _ _ h1.2 (k1.trans (Kp.laid hp)) (ok1.laid hp) (.lst (U_laid ok1 hp) (r1.mono (Kp.laid hp).keep))⟩⟩
/-- [a, b, ..], to be changed: at an address of its own -/
def dLstM (t : DTA) : DTE := fun δ G Q => t δ G fun ds G1 => ds.length ≤ sizeLine ∧ ∀ p, G1 p = none → Q (.ref p) (gupd G1 p (.lst ds))
theorem de_lstM {es : List Expr} {t : DTA} (h : DA X es t) : DE X (.List es pos) (dLstM t) :=
  PE.mono (pe_lst h) fun σ H Q ⟨δ, G, Z, Q0, ok, rs, h, k⟩ =>
    ⟨δ, G, Z, _, ok, rs, h, fun ds G1 vs H1 h1 k1 ok1 r1 => ⟨by rw [← r1.length]; exact h1.1, fun p hp => by
      have hg := (ok1.free hp).1
      have kk : Kp H1 G1 Z (upd H1 p (.lst vs)) (gupd G1 p (.lst ds)) := Kp.laidG hp hg
      exact k _ _ _ _ (h1.2 p hg) (k1.trans kk) (ok1.laidG hp ⟨vs, upd_same, r1.mono kk.keep⟩) (.ref p)⟩⟩
end
end DL
set_option Elab.async false
set_option linter.all false
set_option maxRecDepth 100000
set_option maxHeartbeats 1000000
/-! DL, part 2: tests, statements, targets, loops, comprehensions, calls. -/
namespace DL
open PySem PySem.Spec L2

/-! ### tests -/
/-- a value's truth -/
def dTru (x : D) (G : GHp) (Q : Bool → GHp → Prop) : Prop := match x with
  | .bl b => Q b G
  | .non => Q false G
  | .int i => Q (i != 0) G
  | .str y => y.length ≤ sizeLine ∧ Q ((y.length : Int) != 0) G
  | .tup ds => Q (!ds.isEmpty) G
  | .lst ds => Q (!ds.isEmpty) G
  | .scr ds => Q (!ds.isEmpty) G
  | .ref a => match G a with
    | some (.lst ds) => Q (!ds.isEmpty) G
    | some (.dK kvs) => Q (!kvs.isEmpty) G
    | _ => False
  | .ty _ => False
  | .dct _ _ => False
  | .dcT _ _ => False
theorem Reps.isEmpty {K : PySem.W.Frag} {W : Hp} {ds : List D} {vs : List V} (r : Reps K W ds vs) : vs.isEmpty = ds.isEmpty := by cases r <;> rfl
theorem U_le {H : Hp} {G : GHp} {Z : Addr → Bool} : ∀ a o, U H G Z a = some o → H a = some o := fun a o h => (U_some h).2.2
theorem isEmpty_keys {κ α β : Type} {l : List (κ × α)} {m : List (κ × β)} (h : l.map (·.1) = m.map (·.1)) : l.isEmpty = m.isEmpty := by
  have := congrArg List.length h
  simp only [List.length_map] at this
  cases l <;> cases m <;> simp at this <;> rfl
theorem tru_of {K : PySem.W.Frag} {H : Hp} {G : GHp} {Z : Addr → Bool} {x : D} {v : V} {Q0 : Bool → GHp → Prop} (ok : Ok K H G Z) (r : Rep K (U H G Z) x v) (h : dTru x G Q0) : ∃ k, TruV K v H k ∧ Q0 k G := by
  cases r with
  | non => exact ⟨false, rfl, h⟩
  | bl b => exact ⟨b, rfl, h⟩
  | int i => exact ⟨_, rfl, h⟩
  | str y => exact ⟨_, ⟨h.1, rfl⟩, h.2⟩
  | ty n => exact h.elim
  | dct _ _ _ => exact h.elim
  | dcT _ _ _ => exact h.elim
  | tup q rs => exact ⟨_, .inr (.inl ⟨_, TupAt.sq U_le q, by rw [rs.isEmpty]⟩), h⟩
  | lst q rs => exact ⟨_, .inl ⟨_, SqL.of (U_le _ _ q), by rw [rs.isEmpty]⟩, h⟩
  | scr q rs => exact ⟨_, .inl ⟨_, SqL.mono U_le q, by rw [rs.isEmpty]⟩, h⟩
  | ref a =>
    unfold dTru at h
    split at h <;> try (first | cases ‹D.ref a = _› | skip)
    all_goals try (exact h.elim)
    split at h
    · next ds e =>
      obtain ⟨_, xs, h1, h2⟩ := ok.ok a _ e
      exact ⟨_, .inl ⟨xs, SqL.of h1, by rw [h2.isEmpty]⟩, h⟩
    · next kvs e =>
      obtain ⟨_, xs, h1, h2, h3⟩ := ok.ok a _ e
      exact ⟨_, .inr (.inr ⟨xs, h1, by rw [isEmpty_keys h2]⟩), h⟩
    · exact h.elim
def dTest (te : DTE) : DTT := fun δ G Q => te δ G fun x G1 => dTru x G1 Q
section
variable {X : Cx} {a b c e : Expr} {ta tb tc te : DTE} {tA tB tC : DTT} {pos : Pos} {rest : List Expr}
/-- an expression as a test, by its truth -/
theorem dt_truth (ha : DE X a ta) (he : ∀ whole, isTrue a X.env whole = (do let v ← whole; standAt a.pos; holding [v] (truthy v)) := by intro _; rfl) : DT X a (dTest ta) :=
  PT.mono (pt_truth ha he) fun σ H Q ⟨δ, G, Z, Q0, ok, rs, h, k⟩ =>
    ⟨δ, G, Z, _, ok, rs, h, fun x G1 v H1 h1 k1 ok1 r1 => by
      obtain ⟨b, tv, q⟩ := tru_of ok1 r1 h1
      exact ⟨b, tv, k _ _ _ q k1 ok1⟩⟩
/-- a comparison as a test -/
def dTestB (te : DTE) : DTT := fun δ G Q => te δ G fun x G1 => match x with
  | .bl k => Q k G1
  | _ => False
theorem test_split {K : PySem.W.Frag} {te : DTE} {t : TE} {σ : St} {H : Hp} {Q : Bool → Hp → Prop} (hs : ∀ Q, cE K te σ H Q → t σ H Q) (h : cT K (dTestB te) σ H Q) : tTest t σ H Q := by
  obtain ⟨δ, G, Z, Q0, ok, rs, h, k⟩ := h
  refine hs _ ⟨δ, G, Z, _, ok, rs, h, fun d G1 v H1 h1 k1 ok1 r1 => ?_⟩
  cases r1 with
  | bl b => exact ⟨b, rfl, k _ _ _ h1 k1 ok1⟩
  | _ => exact False.elim h1
theorem dt_cmp {op : CmpOp} {r : DR2} (ho : DOp X (compareOp op) r) (ha : DE X a ta) (hb : DE X b tb) (hm : behindInMarks op b = false) : DT X (.Compare a [op] [b] pos) (dTestB (dOp r ta tb)) :=
  PT.mono (pt_cmpR ho ha hb hm) fun σ H Q h => test_split (fun _ h => op_split h) h
theorem dt_chain {op op' : CmpOp} {r r' : DR2} (ho : DOp X (compareOp op) r) (ho' : DOp X (compareOp op') r') (ha : DE X a ta) (hb : DE X b tb) (hc : DE X c tc)
    (hm : lastMarks [op, op'] [b, c] = false := by with_unfolding_all rfl) : DT X (.Compare a [op, op'] [b, c] pos) (dTestB (dChain r r' ta tb tc)) :=
  PT.mono (pt_chain ho ho' ha hb hc hm) fun σ H Q h => test_split (fun _ h => chain_split h) h
def dAnd (t u : DTT) : DTT := fun δ G Q => t δ G fun c G1 => dIte c (u δ G1 Q) (Q false G1)
def dOr (t u : DTT) : DTT := fun δ G Q => t δ G fun c G1 => dIte c (Q true G1) (u δ G1 Q)
def dNot (t : DTT) : DTT := fun δ G Q => t δ G fun c G1 => Q (!c) G1
theorem dw_and1 (ha : DT X a tA) : DW X (.BoolOp .And [a] pos) tA := pw_and1 ha
theorem dw_or1 (ha : DT X a tA) : DW X (.BoolOp .Or [a] pos) tA := pw_or1 ha
theorem dw_and (ha : DT X a tA) (hb : DW X (.BoolOp .And (b :: rest) pos) tB) : DW X (.BoolOp .And (a :: b :: rest) pos) (dAnd tA tB) :=
  PW.mono (pw_and ha hb) fun σ H Q ⟨δ, G, Z, Q0, ok, rs, h, k⟩ =>
    ⟨δ, G, Z, _, ok, rs, h, fun c G1 H1 h1 k1 ok1 => by
      cases c with
      | true =>
        have h1 := dIte_t h1
        refine iteT ?_
        exact ⟨δ, G1, Z, Q0, ok1, rs.mono k1.keep, h1, fun b G' H' q k2 ok2 => k _ _ _ q (k1.trans k2) ok2⟩
      | false =>
        have h1 := dIte_f h1
        refine iteF ?_
        exact k _ _ _ h1 k1 ok1⟩
theorem dw_or (ha : DT X a tA) (hb : DW X (.BoolOp .Or (b :: rest) pos) tB) : DW X (.BoolOp .Or (a :: b :: rest) pos) (dOr tA tB) :=
  PW.mono (pw_or ha hb) fun σ H Q ⟨δ, G, Z, Q0, ok, rs, h, k⟩ =>
    ⟨δ, G, Z, _, ok, rs, h, fun c G1 H1 h1 k1 ok1 => by
      cases c with
      | true =>
        have h1 := dIte_t h1
        refine iteT ?_
        exact k _ _ _ h1 k1 ok1
      | false =>
        have h1 := dIte_f h1
        refine iteF ?_
        exact ⟨δ, G1, Z, Q0, ok1, rs.mono k1.keep, h1, fun b G' H' q k2 ok2 => k _ _ _ q (k1.trans k2) ok2⟩⟩
theorem dt_w (h : DW X e tA) : DT X e tA := PW.pt h
theorem dt_not (ha : DT X a tA) : DT X (.UnaryOp .Not a pos) (dNot tA) :=
  PT.mono (pt_not ha) fun σ H Q ⟨δ, G, Z, Q0, ok, rs, h, k⟩ =>
    ⟨δ, G, Z, _, ok, rs, h, fun c G1 H1 h1 k1 ok1 => k _ _ _ h1 k1 ok1⟩
/-! and, or, not as values, by truth -/
def dAndV (ta tb : DTE) : DTE := fun δ G Q => ta δ G fun x G1 => dTru x G1 fun c G2 => dIte c (tb δ G2 Q) (Q x G2)
def dOrV (ta tb : DTE) : DTE := fun δ G Q => ta δ G fun x G1 => dTru x G1 fun c G2 => dIte c (Q x G2) (tb δ G2 Q)
def dNotV (ta : DTE) : DTE := fun δ G Q => ta δ G fun x G1 => dTru x G1 fun c G2 => Q (.bl (!c)) G2
theorem de_one {op} (h : DE X a ta) : DE X (.BoolOp op [a] pos) ta := pe_one h
theorem de_and (ha : DE X a ta) (hb : DE X (.BoolOp .And (b :: rest) pos) tb) : DE X (.BoolOp .And (a :: b :: rest) pos) (dAndV ta tb) :=
  PE.mono (pe_andT ha hb) fun σ H Q ⟨δ, G, Z, Q0, ok, rs, h, k⟩ =>
    ⟨δ, G, Z, _, ok, rs, h, fun x G1 v H1 h1 k1 ok1 r1 => by
      obtain ⟨c, tv, q⟩ := tru_of ok1 r1 h1
      refine ⟨c, tv, ?_⟩
      cases c with
      | true =>
        have q := dIte_t q
        refine iteT ?_
        exact ⟨δ, G1, Z, Q0, ok1, rs.mono k1.keep, q, fun b G' v' H' q k2 ok2 r2 => k _ _ _ _ q (k1.trans k2) ok2 r2⟩
      | false =>
        have q := dIte_f q
        refine iteF ?_
        exact k _ _ _ _ q k1 ok1 r1⟩
theorem de_or (ha : DE X a ta) (hb : DE X (.BoolOp .Or (b :: rest) pos) tb) : DE X (.BoolOp .Or (a :: b :: rest) pos) (dOrV ta tb) :=
  PE.mono (pe_orT ha hb) fun σ H Q ⟨δ, G, Z, Q0, ok, rs, h, k⟩ =>
    ⟨δ, G, Z, _, ok, rs, h, fun x G1 v H1 h1 k1 ok1 r1 => by
      obtain ⟨c, tv, q⟩ := tru_of ok1 r1 h1
      refine ⟨c, tv, ?_⟩
      cases c with
      | true =>
        have q := dIte_t q
        refine iteT ?_
        exact k _ _ _ _ q k1 ok1 r1
      | false =>
        have q := dIte_f q
        refine iteF ?_
        exact ⟨δ, G1, Z, Q0, ok1, rs.mono k1.keep, q, fun b G' v' H' q k2 ok2 r2 => k _ _ _ _ q (k1.trans k2) ok2 r2⟩⟩
theorem de_not (ha : DE X a ta) : DE X (.UnaryOp .Not a pos) (dNotV ta) :=
  PE.mono (pe_notT ha) fun σ H Q ⟨δ, G, Z, Q0, ok, rs, h, k⟩ =>
    ⟨δ, G, Z, _, ok, rs, h, fun x G1 v H1 h1 k1 ok1 r1 => by
      obtain ⟨c, tv, q⟩ := tru_of ok1 r1 h1
      exact ⟨c, tv, k _ _ _ _ q k1 ok1 (.bl _)⟩⟩
/-- a if t else b -/
def dIfE (t : DTT) (ta tb : DTE) : DTE := fun δ G Q => t δ G fun c G1 => dIte c (ta δ G1 Q) (tb δ G1 Q)
theorem de_ifExp (hc : DT X c tC) (ha : DE X a ta) (hb : DE X b tb) : DE X (.IfExp c a b pos) (dIfE tC ta tb) :=
  PE.mono (pe_ifExp hc ha hb) fun σ H Q ⟨δ, G, Z, Q0, ok, rs, h, k⟩ =>
    ⟨δ, G, Z, _, ok, rs, h, fun c G1 H1 h1 k1 ok1 => by
      cases c with
      | true =>
        have h1 := dIte_t h1
        refine iteT ?_
        exact ⟨δ, G1, Z, Q0, ok1, rs.mono k1.keep, h1, fun b G' v' H' q k2 ok2 r2 => k _ _ _ _ q (k1.trans k2) ok2 r2⟩
      | false =>
        have h1 := dIte_f h1
        refine iteF ?_
        exact ⟨δ, G1, Z, Q0, ok1, rs.mono k1.keep, h1, fun b G' v' H' q k2 ok2 r2 => k _ _ _ _ q (k1.trans k2) ok2 r2⟩⟩
end

/-! ### blocks and statements -/
section
variable {X : Cx} {st : Stmt} {rest : List Stmt} {t u : DTS} {e : Expr} {te : DTE} {tc : DTT} {pos : Pos}
def dNext : DTS := fun D δ G => D.nx δ G
def dSeq (t u : DTS) : DTS := fun D δ G => t { D with nx := u D } δ G
theorem dss_nil : DSs X W [] dNext := PSs.mono pss_nil fun E σ H ⟨δ, G, Z, D0, ok, rs, h, l⟩ => l.nx _ _ _ _ h .refl ok rs
theorem dss_cons (h1 : DS X W st t) (h2 : DSs X W rest u) : DSs X W (st :: rest) (dSeq t u) :=
  PSs.mono (pss_cons h1 h2) fun E σ H ⟨δ, G, Z, D0, ok, rs, h, l⟩ =>
    ⟨δ, G, Z, _, ok, rs, h, ⟨fun δ' G' σ' H' q k1 ok1 rs1 => ⟨δ', G', Z, D0, ok1, rs1, q, l.after k1⟩, l.bk, l.ct, l.rt, l.exb, l.exo⟩⟩
theorem dss_one (h1 : DS X W st t) : DSs X W [st] t := pss_one h1
theorem ds_pass : DS X W (.Pass pos) dNext := PS.mono ps_pass fun E σ H ⟨δ, G, Z, D0, ok, rs, h, l⟩ => l.nx _ _ _ _ h .refl ok rs
def dBreak : DTS := fun D δ G => D.bk δ G
def dCont : DTS := fun D δ G => D.ct δ G
theorem ds_break : DS X W (.Break pos) dBreak := PS.mono ps_break fun E σ H ⟨δ, G, Z, D0, ok, rs, h, l⟩ => l.bk _ _ _ _ h .refl ok rs
theorem ds_continue : DS X W (.Continue pos) dCont := PS.mono ps_continue fun E σ H ⟨δ, G, Z, D0, ok, rs, h, l⟩ => l.ct _ _ _ _ h .refl ok rs
def dDrop (te : DTE) : DTS := fun D δ G => te δ G fun _ G1 => D.nx δ G1
theorem ds_expr (he : DE X e te) (hs : swapsWith e none pos.line X.env = pure false := by rfl) : DS X W (.Expr e pos) (dDrop te) :=
  PS.mono (ps_expr he hs) fun E σ H ⟨δ, G, Z, D0, ok, rs, h, l⟩ =>
    ⟨δ, G, Z, _, ok, rs, h, fun d G' v H' q k1 ok1 r1 => l.nx _ _ _ _ q k1 ok1 (rs.mono k1.keep)⟩
def dRet (te : DTE) : DTS := fun D δ G => te δ G D.rt
theorem ds_ret (he : DE X e te) : DS X W (.Return (some e) pos) (dRet te) :=
  PS.mono (ps_ret he) fun E σ H ⟨δ, G, Z, D0, ok, rs, h, l⟩ => ⟨δ, G, Z, _, ok, rs, h, fun d G' v H' q k1 ok1 r1 => l.rt _ _ _ _ q k1 ok1 r1⟩
def dRetN : DTS := fun D _ G => D.rt .non G
theorem ds_retN : DS X W (.Return none pos) dRetN := PS.mono ps_retN fun E σ H ⟨δ, G, Z, D0, ok, rs, h, l⟩ => l.rt _ _ _ _ h .refl ok .non
def dIf (c : DTT) (t u : DTS) : DTS := fun D δ G => c δ G fun b G1 => dIte b (t D δ G1) (u D δ G1)
theorem ds_if {c : Expr} {a b : List Stmt} (hc : DT X c tc) (ha : DSs X W a t) (hb : DSs X W b u) : DS X W (.If c a b pos) (dIf tc t u) :=
  PS.mono (ps_if hc ha hb) fun E σ H ⟨δ, G, Z, D0, ok, rs, h, l⟩ =>
    ⟨δ, G, Z, _, ok, rs, h, fun c G1 H1 h1 k1 ok1 => by
      cases c with
      | true =>
        have h1 := dIte_t h1
        refine iteT ?_
        exact ⟨δ, G1, Z, D0, ok1, rs.mono k1.keep, h1, l.after k1⟩
      | false =>
        have h1 := dIte_f h1
        refine iteF ?_
        exact ⟨δ, G1, Z, D0, ok1, rs.mono k1.keep, h1, l.after k1⟩⟩
def dNever : DTS := fun _ _ _ => False
theorem ds_never : DS X W st dNever := PS.mono ps_never fun E σ H ⟨δ, G, Z, D0, ok, rs, h, l⟩ => h
theorem dss_never {sts : List Stmt} : DSs X W sts dNever := PSs.mono pss_never fun E σ H ⟨δ, G, Z, D0, ok, rs, h, l⟩ => h
/-- what is told may be told otherwise (a list that nobody changes any more becomes a tree; things are forgotten) -/
def View (K : PySem.W.Frag) (δ : DSt) (G : GHp) (δ' : DSt) (G' : GHp) : Prop := ∀ H Z σ, Ok K H G Z → RepSt K (U H G Z) δ σ → Kp H G Z H G' ∧ Ok K H G' Z ∧ RepSt K (U H G' Z) δ' σ
def dGhost (K : PySem.W.Frag) (t : DTS) : DTS := fun D δ G => ∃ δ' G', View K δ G δ' G' ∧ t D δ' G'
theorem ds_ghost (h : DS X W st t) : DS X W st (dGhost X.K t) :=
  PS.mono h fun E σ H ⟨δ, G, Z, D0, ok, rs, ⟨δ', G', vw, h⟩, l⟩ => by
    obtain ⟨k1, ok1, rs1⟩ := vw H Z σ ok rs
    exact ⟨δ', G', Z, D0, ok1, rs1, h, l.after k1⟩
theorem dss_ghost {sts : List Stmt} (h : DSs X W sts t) : DSs X W sts (dGhost X.K t) :=
  PSs.mono h fun E σ H ⟨δ, G, Z, D0, ok, rs, ⟨δ', G', vw, h⟩, l⟩ => by
    obtain ⟨k1, ok1, rs1⟩ := vw H Z σ ok rs
    exact ⟨δ', G', Z, D0, ok1, rs1, h, l.after k1⟩
end

/-! ### targets: names, tuples of targets -/
inductive Tgt where
  | nm (i : Nat)
  | tp (ts : List Tgt)
mutual
def Tgt.tg (K : PySem.W.Frag) : Tgt → TG
  | .nm i => gName i
  | .tp ts => gTup K (Tgt.len ts) (Tgt.tgs K ts)
def Tgt.tgs (K : PySem.W.Frag) : List Tgt → TGs
  | [] => gNil
  | t :: r => gCons (Tgt.tg K t) (Tgt.tgs K r)
def Tgt.len : List Tgt → Nat
  | [] => 0
  | _ :: r => Tgt.len r + 1
end
mutual
def Tgt.set : Tgt → D → DSt → Option DSt
  | .nm i, d, δ => some (δ.set i (some d))
  | .tp ts, .tup ds, δ => Tgt.sets ts ds δ
  | .tp _, _, _ => none
def Tgt.sets : List Tgt → List D → DSt → Option DSt
  | [], [], δ => some δ
  | t :: ts, d :: ds, δ => match Tgt.set t d δ with
    | some δ' => Tgt.sets ts ds δ'
    | none => none
  | _, _, _ => none
end
mutual
def Tgt.slots : Tgt → List Nat
  | .nm i => [i]
  | .tp ts => Tgt.slotsL ts
def Tgt.slotsL : List Tgt → List Nat
  | [] => []
  | t :: r => Tgt.slots t ++ Tgt.slotsL r
end
theorem Tgt.len_eq : ∀ ts : List Tgt, Tgt.len ts = ts.length
  | [] => rfl
  | _ :: r => by rw [Tgt.len, Tgt.len_eq r]; rfl
theorem wipe_set {σ : St} {vs : List Nat} {i : Nat} {o : Option V} (h : i ∈ vs) : wipe (σ.set i o) vs = wipe σ vs := by
  induction vs with
  | nil => simp at h
  | cons v r ih =>
    rw [wipe, wipe]
    by_cases hv : i = v
    · subst hv
      by_cases hr : i ∈ r
      · rw [ih hr]
      · have : ∀ r : List Nat, i ∉ r → wipe (σ.set i o) r = (wipe σ r).set i o := by
          intro r
          induction r with
          | nil => intro _; rfl
          | cons w r ih =>
            intro hn
            simp only [List.mem_cons, not_or] at hn
            rw [wipe, wipe, ih hn.2, List.set_comm _ _ hn.1]
        rw [this r hr, List.set_set]
    · have hr : i ∈ r := by simpa [hv] using h
      rw [ih hr]
section
variable {K : PySem.W.Frag} {W : Hp}
mutual
theorem Tgt.run {H : Hp} (le : ∀ a o, W a = some o → H a = some o) : ∀ (t : Tgt) {d : D} {v : V} {δ δ' : DSt} {σ : St} {Q : St → Hp → Prop}, Rep K W d v → RepSt K W δ σ → t.set d δ = some δ' →
    (∀ σ', RepSt K W δ' σ' → (∀ vs : List Nat, (∀ i ∈ t.slots, i ∈ vs) → wipe σ' vs = wipe σ vs) → Q σ' H) → t.tg K v σ H Q
  | .nm i, d, v, δ, δ', σ, Q, r, rs, e, k => by
    simp only [Tgt.set, Option.some.injEq] at e
    subst e
    exact k _ (rs.set r i) fun vs h => wipe_set (h i (by simp [Tgt.slots]))
  | .tp ts, d, v, δ, δ', σ, Q, r, rs, e, k => by
    cases r with
    | tup q rr =>
      simp only [Tgt.set] at e
      refine ⟨_, _, rfl, TupAt.sq le q, ?_, Tgt.runs le ts rr rs e fun σ' rs' hw => k σ' rs' fun vs h => hw vs fun i hi => h i (by simpa [Tgt.slots] using hi)⟩
      rw [← rr.length]
      exact Tgt.sets_len ts e
    | _ => simp [Tgt.set] at e
theorem Tgt.runs {H : Hp} (le : ∀ a o, W a = some o → H a = some o) : ∀ (ts : List Tgt) {ds : List D} {vs : List V} {δ δ' : DSt} {σ : St} {Q : St → Hp → Prop}, Reps K W ds vs → RepSt K W δ σ → Tgt.sets ts ds δ = some δ' →
    (∀ σ', RepSt K W δ' σ' → (∀ vs : List Nat, (∀ i ∈ Tgt.slotsL ts, i ∈ vs) → wipe σ' vs = wipe σ vs) → Q σ' H) → Tgt.tgs K ts vs σ H Q
  | [], ds, vs, δ, δ', σ, Q, r, rs, e, k => by
    cases r with
    | nil =>
      simp only [Tgt.sets, Option.some.injEq] at e
      subst e
      exact ⟨rfl, k σ rs fun _ _ => rfl⟩
    | cons _ _ => simp [Tgt.sets] at e
  | t :: ts, ds, vs, δ, δ', σ, Q, r, rs, e, k => by
    cases r with
    | nil => simp [Tgt.sets] at e
    | cons h r =>
      simp only [Tgt.sets] at e
      split at e
      · next δ1 e1 =>
        refine ⟨_, _, rfl, Tgt.run le t h rs e1 fun σ1 rs1 w1 => Tgt.runs le ts r rs1 e fun σ2 rs2 w2 => k σ2 rs2 fun vs hv => ?_⟩
        rw [w2 vs fun i hi => hv i (by simp [Tgt.slotsL, hi]), w1 vs fun i hi => hv i (by simp [Tgt.slotsL, hi])]
      · cases e
theorem Tgt.sets_len : ∀ (ts : List Tgt) {ds : List D} {δ δ' : DSt}, Tgt.sets ts ds δ = some δ' → ds.length = Tgt.len ts
  | [], ds, δ, δ', e => by
    cases ds with
    | nil => rfl
    | cons _ _ => simp [Tgt.sets] at e
  | t :: ts, ds, δ, δ', e => by
    cases ds with
    | nil => simp [Tgt.sets] at e
    | cons d ds =>
      simp only [Tgt.sets] at e
      split at e
      · rw [List.length_cons, Tgt.sets_len ts e]; rfl
      · cases e
end
end
section
variable {X : Cx} {e tg : Expr} {te : DTE} {pos : Pos}
/-- target = e -/
def dAsg (te : DTE) (g : Tgt) : DTS := fun D δ G => te δ G fun d G1 => match g.set d δ with
  | some δ' => D.nx δ' G1
  | none => False
theorem asg_split {K : PySem.W.Frag} {g : Tgt} {E : Ends} {σ : St} {H : Hp} {W : WX} (h : cS K W (dAsg te g) E σ H) : tAsg (cE K te) (g.tg K) E σ H := by
  obtain ⟨δ, G, Z, D0, ok, rs, h, l⟩ := h
  refine ⟨δ, G, Z, _, ok, rs, h, fun d G1 v H1 h1 k1 ok1 r1 => ?_⟩
  have h1 : (match g.set d δ with | some δ' => D0.nx δ' G1 | none => False) := h1
  split at h1
  · next δ' e =>
    exact g.run U_le r1 (rs.mono k1.keep) e fun σ' rs' _ => l.nx _ _ _ _ h1 k1 ok1 rs'
  · exact h1.elim
theorem ds_asg {g : Tgt} (he : DE X e te) (hg : PG X tg (g.tg X.K)) (hs : swapsWithSole [tg] e pos.line X.env = pure false := by rfl) (hw : swappedStores [tg] e X.env = pure none := by rfl)
    (h1 : (assignEach [tg] X.env).map (·.2) = [assign tg X.env] := by rfl) : DS X W (.Assign [tg] e pos) (dAsg te g) :=
  PS.mono (ps_asg he hg hs hw h1) fun E σ H h => asg_split h
/-- name = e -/
theorem ds_set {i : Nat} {x : Str} {pos' : Pos} (hN : X.N.Nodup) (hi : X.N[i]? = some x) (hx : Loc X.env.scope x) (he : DE X e te) (hs : swapsWith e (some (.Name x pos')) pos.line X.env = pure false := by rfl) (hf : X.fn x = true ∨ X.env.scope.names.lookup x = some .local := by first | exact .inl rfl | exact .inr rfl | assumption) :
    DS X W (.Assign [.Name x pos'] e pos) (dAsg te (.nm i)) :=
  PS.mono (ps_set hN hi hx he hs hf) fun E σ H h => asg_split (g := .nm i) h
/-- a, b = x, y: both sides written, stored from the right -/
def dPar (i j : Nat) (ta : DTA) : DTS := fun D δ G => ta δ G fun ds G1 => match ds with
  | [v, w] => D.nx ((δ.set i (some v)).set j (some w)) G1
  | _ => False
theorem ds_par {i j : Nat} {x y : Str} {a b : Expr} {ta : DTA} {px py pt : Pos} {kt k2 pt2} (hc : X.calm = true) (hN : X.N.Nodup) (hi : X.N[i]? = some x) (hj : X.N[j]? = some y) (hij : i ≠ j)
    (hx : X.env.scope.names.lookup x = some .local) (hy : X.env.scope.names.lookup y = some .local) (ha : DA X [a, b] ta)
    (hw : swappedStores [.Tuple [.Name x px, .Name y py] kt pt] (.Tuple [a, b] k2 pt2) X.env = pure (some [x, y]))
    (hs : swapsWithSole [.Tuple [.Name x px, .Name y py] kt pt] (.Tuple [a, b] k2 pt2) pos.line X.env = pure false := by rfl) :
    DS X W (.Assign [.Tuple [.Name x px, .Name y py] kt pt] (.Tuple [a, b] k2 pt2) pos) (dPar i j ta) :=
  PS.mono (ps_par hc hN hi hj hij hx hy ha hw hs) fun E σ H ⟨δ, G, Z, D0, ok, rs, h, l⟩ =>
    ⟨δ, G, Z, _, ok, rs, h, fun ds G1 vs H1 h1 k1 ok1 r1 => by
      rcases r1 with _ | ⟨ra, r1⟩
      · exact False.elim h1
      rcases r1 with _ | ⟨rb, r1⟩
      · exact False.elim h1
      rcases r1 with _ | ⟨rc, r1⟩
      · exact ⟨_, _, rfl, l.nx _ _ _ _ h1 k1 ok1 (((rs.mono k1.keep).set ra i).set rb j)⟩
      · exact False.elim h1⟩
theorem pg_nm {i : Nat} {x : Str} (h : PG X (.Name x pos) (gName i)) : PG X (.Name x pos) ((Tgt.nm i).tg X.K) := h
theorem pgs_n : PGs X [] (Tgt.tgs X.K []) := pgs_nil
theorem pgs_c {es : List Expr} {t : Tgt} {ts : List Tgt} (h1 : PG X e (t.tg X.K)) (h2 : PGs X es (Tgt.tgs X.K ts))
    (hs : (assignEach (e :: es) X.env).map (·.2) = assign e X.env :: (assignEach es X.env).map (·.2) := by rfl) : PGs X (e :: es) (Tgt.tgs X.K (t :: ts)) := pgs_cons h1 h2 hs
theorem pg_tp {es : List Expr} {k : Nat} {ts : List Tgt} (hc : X.calm = true) (h : PGs X es (Tgt.tgs X.K ts))
    (hn : (assignEach es X.env).length = Tgt.len ts := by rfl) (hst : (assignEach es X.env).findIdx? (·.1) = none := by rfl) : PG X (.Tuple es k pos) ((Tgt.tp ts).tg X.K) := pg_tup hc h hn hst
end

/-! ### while -/
/-- n turns at most -/
def dWhN (c : DTT) (tb : DTS) : Nat → DTS
  | 0 => fun _ _ _ => False
  | n + 1 => fun D δ G => c δ G fun b G1 => dIte b (tb { D with nx := dWhN c tb n D, ct := dWhN c tb n D, bk := D.nx } δ G1) (D.nx δ G1)
def dWhile (c : DTT) (tb : DTS) : DTS := fun D δ G => ∃ n, dWhN c tb n D δ G
section
variable {X : Cx} {pos : Pos}
theorem ds_while {c : Expr} {body : List Stmt} {tc : DTT} {tb : DTS} (hp : PassesOwn (model X.prog X.w) X.A X.env X.xe) (hc : DT X c tc) (hb : DSs X W body tb) : DS X W (.While c body [] pos) (dWhile tc tb) :=
  PS.mono (ps_while hp hc hb) fun E σ H ⟨δ, G, Z, D0, ok, rs, ⟨n, h⟩, l⟩ => by
    refine ⟨fun m σ' H' => ∃ δ' G', Kp H G Z H' G' ∧ Ok X.K H' G' Z ∧ RepSt X.K (U H' G' Z) δ' σ' ∧ dWhN tc tb m D0 δ' G', ⟨n, δ, G, .refl, ok, rs, h⟩, ?_⟩
    rintro m σ1 H1 ⟨δ1, G1, k1, ok1, rs1, h1⟩
    cases m with
    | zero => exact h1.elim
    | succ m =>
      refine ⟨δ1, G1, Z, _, ok1, rs1, h1, fun b G2 H2 q k2 ok2 => ?_⟩
      have k12 := k1.trans k2
      cases b with
      | false =>
        have q := dIte_f q
        refine iteF ?_
        exact l.nx _ _ _ _ q k12 ok2 (rs1.mono k2.keep)
      | true =>
        have q := dIte_t q
        refine iteT ?_
        refine ⟨fun σ' H' => ∃ δ' G', Kp H G Z H' G' ∧ Ok X.K H' G' Z ∧ RepSt X.K (U H' G' Z) δ' σ' ∧ dWhN tc tb m D0 δ' G', fun σ' H' hh => ⟨m, Nat.lt_succ_self m, hh⟩, δ1, G2, Z, _, ok2, rs1.mono k2.keep, q, ?_⟩
        exact ⟨fun δ' G' σ' H' q' k3 ok3 rs3 => ⟨δ', G', k12.trans k3, ok3, rs3, q'⟩, fun δ' G' σ' H' q' k3 ok3 rs3 => l.nx _ _ _ _ q' (k12.trans k3) ok3 rs3,
          fun δ' G' σ' H' q' k3 ok3 rs3 => ⟨δ', G', k12.trans k3, ok3, rs3, q'⟩, fun d G' v H' q' k3 ok3 rs3 => l.rt _ _ _ _ q' (k12.trans k3) ok3 rs3,
          fun c δ' G' σ' H' q' k3 ok3 rs3 => l.exb _ _ _ _ _ q' (k12.trans k3) ok3 rs3, fun c fs δ' G' σ' H' dx xs q' k3 ok3 => l.exo _ _ _ _ _ _ _ _ q' (k12.trans k3) ok3⟩
end

/-! ### what is walked -/
/-- the guard: a tracked list that is walked stays as it is -/
abbrev Gd := Option (Addr × List D)
def Gd.ok (gd : Gd) (G : GHp) : Prop := match gd with
  | none => True
  | some (a, ds) => G a = some (.lst ds)
/-- what stays, stays -/
structure Kq (H : Hp) (G : GHp) (Z : Addr → Bool) (H' : Hp) (G' : GHp) : Prop where
  keep : ∀ a o, U H G Z a = some o → U H' G' Z a = some o
theorem Kp.q {H : Hp} {G : GHp} {Z : Addr → Bool} {H' : Hp} {G' : GHp} (k : Kp H G Z H' G') : Kq H G Z H' G' := ⟨k.keep⟩
/-- the walk J yields the items, in every state that came of (H, G) -/
structure ItOk (K : PySem.W.Frag) (J : It) (its : List D) (gd : Gd) (H : Hp) (G : GHp) (Z : Addr → Bool) : Prop where
  go : ∀ i d H' G', its[i]? = some d → Kq H G Z H' G' → Ok K H' G' Z → gd.ok G' → J.go i H' ∧ ∀ x H'', J.yld i H' x H'' → Kp H' G' Z H'' G' ∧ Ok K H'' G' Z ∧ Rep K (U H'' G' Z) d x
  stop : ∀ H' G', Kq H G Z H' G' → Ok K H' G' Z → gd.ok G' → J.stop its.length H'
abbrev DTI := DSt → GHp → (List D → Gd → GHp → Prop) → Prop
def cI (K : PySem.W.Frag) (ti : DTI) : TI := fun σ H R => ∃ (δ : DSt) (G : GHp) (Z : Addr → Bool) (Q0 : List D → Gd → GHp → Prop), Ok K H G Z ∧ RepSt K (U H G Z) δ σ ∧ ti δ G Q0 ∧
  ∀ its gd G' J H', Q0 its gd G' → Kp H G Z H' G' → Ok K H' G' Z → (∀ Z', (∀ a, Z a = true → Z' a = true) → (∀ a, H' a ≠ none → Z' a = Z a) → ItOk K J its gd H' G' Z') → R J H'
def DI (X : Cx) (tg iter : Expr) (ti : DTI) : Prop := PI X tg iter (cI X.K ti)
theorem PI.mono {X : Cx} {tg e : Expr} {t u : TI} (h : PI X tg e t) (k : ∀ σ H R, u σ H R → t σ H R) : PI X tg e u :=
  ⟨fun pins s σ H R I q => h.run pins s σ H R I (k σ H R q)⟩

/-! ### for -/
def dForL (gd : Gd) (g : Tgt) (tb : DTS) : List D → DTS
  | [] => fun D δ G => gd.ok G ∧ D.nx δ G
  | x :: xs => fun D δ G => gd.ok G ∧ match g.set x δ with
    | some δ' => tb { D with nx := dForL gd g tb xs D, ct := dForL gd g tb xs D, bk := D.nx } δ' G
    | none => False
def dFor (ti : DTI) (g : Tgt) (tb : DTS) : DTS := fun D δ G => ti δ G fun its gd G1 => dForL gd g tb its D δ G1
theorem List.drop_cons_of {α : Type} {l : List α} {i : Nat} {x : α} {r : List α} (h : l.drop i = x :: r) : l[i]? = some x ∧ l.drop (i + 1) = r := by
  constructor
  · have := congrArg (fun q => q[0]?) h
    simpa [List.getElem?_drop] using this
  · have := congrArg List.tail h
    simpa [List.tail_drop] using this
section
variable {X : Cx} {pos : Pos} {tg : Expr}
theorem ds_for {iter : Expr} {body : List Stmt} {ti : DTI} {g : Tgt} {tb : DTS} (hp : PassesOwn (model X.prog X.w) X.A X.env X.xe) (hc : X.calm = true) (hi : DI X tg iter ti) (hg : PG X tg (g.tg X.K)) (hb : DSs X W body tb)
    (hs : ∀ x, foldedSetIterable iter X.env x = pure x := by intro _; rfl) : DS X W (.For tg iter body [] pos) (dFor ti g tb) :=
  PS.mono (ps_for hp hc hi hg hb hs) fun E σ H ⟨δ, G, Z, D0, ok, rs, h, l⟩ => by
    refine ⟨δ, G, Z, _, ok, rs, h, fun its gd G1 J H1 q k1 ok1 it => ?_⟩
    have it := it Z (fun _ h => h) (fun _ _ => rfl)
    refine ⟨fun i m σ' H' => ∃ δ' G', m + i = its.length ∧ Kp H1 G1 Z H' G' ∧ Ok X.K H' G' Z ∧ RepSt X.K (U H' G' Z) δ' σ' ∧ dForL gd g tb (its.drop i) D0 δ' G', ⟨its.length, δ, G1, rfl, .refl, ok1, rs.mono k1.keep, q⟩, ?_⟩
    rintro i m σ2 H2 ⟨δ2, G2, hm, k2, ok2, rs2, h2⟩
    cases e : its.drop i with
    | nil =>
      left
      rw [e] at h2
      have hi : its.length ≤ i := by
        have := congrArg List.length e
        simp at this
        omega
      have hil : i = its.length := by omega
      subst hil
      exact ⟨it.stop _ _ k2.q ok2 h2.1, l.nx _ _ _ _ h2.2 (k1.trans k2) ok2 rs2⟩
    | cons x r =>
      right
      rw [e] at h2
      obtain ⟨ex, er⟩ := List.drop_cons_of e
      obtain ⟨hgo, hy⟩ := it.go i x _ _ ex k2.q ok2 h2.1
      refine ⟨hgo, fun σ' H' => ∃ m', m' < m ∧ ∃ δ' G', m' + (i + 1) = its.length ∧ Kp H1 G1 Z H' G' ∧ Ok X.K H' G' Z ∧ RepSt X.K (U H' G' Z) δ' σ' ∧ dForL gd g tb (its.drop (i + 1)) D0 δ' G', fun _ _ z => z, fun v H3 y => ?_⟩
      obtain ⟨k3, ok3, r3⟩ := hy v H3 y
      have h3 := h2.2
      have hlt : i < its.length := by
        have := congrArg List.length e
        simp at this
        omega
      split at h3
      · next δ' es =>
        refine g.run U_le r3 (rs2.mono k3.keep) es fun σ' rs' _ => ?_
        refine ⟨δ', G2, Z, _, ok3, rs', h3, ?_⟩
        have k23 := k2.trans k3
        exact ⟨fun δ' G' σ' H' q' k4 ok4 rs4 => ⟨m - 1, by omega, δ', G', by omega, k23.trans k4, ok4, rs4, by rw [er]; exact q'⟩,
          fun δ' G' σ' H' q' k4 ok4 rs4 => l.nx _ _ _ _ q' (k1.trans (k23.trans k4)) ok4 rs4,
          fun δ' G' σ' H' q' k4 ok4 rs4 => ⟨m - 1, by omega, δ', G', by omega, k23.trans k4, ok4, rs4, by rw [er]; exact q'⟩,
          fun d G' v H' q' k4 ok4 rs4 => l.rt _ _ _ _ q' (k1.trans (k23.trans k4)) ok4 rs4,
          fun c δ' G' σ' H' q' k4 ok4 rs4 => l.exb _ _ _ _ _ q' (k1.trans (k23.trans k4)) ok4 rs4, fun c fs δ' G' σ' H' dx xs q' k4 ok4 => l.exo _ _ _ _ _ _ _ _ q' (k1.trans (k23.trans k4)) ok4⟩
      · exact h3.elim
end
end DL
set_option Elab.async false
set_option linter.all false
set_option maxRecDepth 100000
set_option maxHeartbeats 1000000
/-! DL, part 3: comprehensions, what is walked, calls, defs. -/
namespace DL
open PySem PySem.Spec L2

/-! ### comprehensions -/
def dWipe (δ : DSt) : List Nat → DSt
  | [] => δ
  | v :: vs => (dWipe δ vs).set v none
theorem RepSt.wipe {K : PySem.W.Frag} {W : Hp} {δ : DSt} {σ : St} (h : RepSt K W δ σ) : ∀ vs : List Nat, RepSt K W (dWipe δ vs) (L2.wipe σ vs)
  | [] => h
  | v :: vs => (RepSt.wipe h vs).forget v none
theorem wipe_in {σ : St} : ∀ {vs : List Nat} {i : Nat}, i ∈ vs → (wipe σ vs).set i none = wipe σ vs
  | [], i, h => by simp at h
  | v :: vs, i, h => by
    rw [wipe]
    by_cases hv : i = v
    · subst hv; rw [List.set_set]
    · have hr : i ∈ vs := by simpa [hv] using h
      rw [List.set_comm _ _ (Ne.symm hv), wipe_in hr]
theorem wipe_sub {σ : St} {ws : List Nat} : ∀ {vs : List Nat}, (∀ i ∈ vs, i ∈ ws) → wipe (wipe σ ws) vs = wipe σ ws
  | [], _ => rfl
  | v :: vs, h => by
    rw [wipe, wipe_sub fun i hi => h i (List.mem_cons_of_mem _ hi), wipe_in (h v List.mem_cons_self)]
/-- the end of a comprehension: the list stays (false), or is to be changed (true) -/
def lcEnd (m : Bool) (acc : List D) (G : GHp) (Q : DK) : Prop := match m with
  | false => Q (.lst acc) G
  | true => ∀ p, G p = none → Q (.ref p) (gupd G p (.lst acc))
def dLcL (m : Bool) (gd : Gd) (g : Tgt) (tt : DTT) (te : DTE) (δw : DSt) : List D → List D → GHp → DK → Prop
  | [], acc, G, Q => gd.ok G ∧ lcEnd m acc G Q
  | x :: xs, acc, G, Q => gd.ok G ∧ match g.set x δw with
    | some δ' => tt δ' G fun b G1 => dIte b (te δ' G1 fun y G2 => acc.length < sizeLine ∧ dLcL m gd g tt te δw xs (acc ++ [y]) G2 Q) (dLcL m gd g tt te δw xs acc G1 Q)
    | none => False
def dLc (m : Bool) (ti : DTI) (g : Tgt) (tt : DTT) (te : DTE) (vs : List Nat) : DTE := fun δ G Q => ti δ G fun its gd G1 => dLcL m gd g tt te (dWipe δ vs) its [] G1 Q
def zAt (Z : Addr → Bool) (p : Addr) : Addr → Bool := fun a => if a = p then true else Z a
theorem zAt_same {Z : Addr → Bool} {p : Addr} : zAt Z p p = true := by unfold zAt; rw [if_pos rfl]
theorem zAt_ne {Z : Addr → Bool} {p a : Addr} (h : a ≠ p) : zAt Z p a = Z a := by unfold zAt; rw [if_neg h]
theorem lc_split {K : PySem.W.Frag} {m : Bool} {ti : DTI} {g : Tgt} {tt : DTT} {te : DTE} {vs : List Nat} {σ : St} {H : Hp} {Q : VK} (hs : ∀ i ∈ g.slots, i ∈ vs) (h : cE K (dLc m ti g tt te vs) σ H Q) :
    tLc (cI K ti) (g.tg K) (cT K tt) (cE K te) vs σ H Q := by
  obtain ⟨δ, G, Z, Q0, ok, rs, h, k⟩ := h
  refine ⟨δ, G, Z, _, ok, rs, h, fun its gd G1 J H1 q k1 ok1 it p hp => ?_⟩
  have it := it (zAt Z p) (fun a z => by by_cases e : a = p <;> simp [zAt, e, z]) (fun a z => zAt_ne (fun e => z (by rw [e]; exact hp)))
  have free := ok1.free hp
  have nz : ∀ a, zAt Z p a = false → a ≠ p ∧ Z a = false := fun a z => by
    by_cases e : a = p
    · subst e; rw [zAt_same] at z; cases z
    · rw [zAt_ne e] at z; exact ⟨e, z⟩
  have rsw : RepSt K (U H1 G1 (zAt Z p)) (dWipe δ vs) (wipe σ vs) := ((rs.mono k1.keep).mono (fun a o e => by
    obtain ⟨e1, e2, e3⟩ := U_some e
    exact U_of e1 (by rw [zAt_ne (ne_of_none e3 hp)]; exact e2) e3)).wipe vs
  refine ⟨fun i n H2 => ∃ acc dacc G2, n + i = its.length ∧ Kp H1 G1 (zAt Z p) H2 G2 ∧ Ok K H2 G2 (zAt Z p) ∧ H2 p = some (.lst acc) ∧ Reps K (U H2 G2 (zAt Z p)) dacc acc ∧ dLcL m gd g tt te (dWipe δ vs) (its.drop i) dacc G2 Q0,
    ⟨its.length, [], [], G1, rfl, ⟨fun a o e => ?_, fun a o z e => ?_⟩, ⟨fun a o e => ?_, fun a z => ?_⟩, upd_same, .nil, q⟩, ?_⟩
  · obtain ⟨e1, e2, e3⟩ := U_some e
    exact U_of e1 e2 (by rw [upd_ne (ne_of_none e3 hp)]; exact e3)
  · rw [upd_ne (ne_of_none e hp)]; exact e
  · obtain ⟨z, gk⟩ := ok1.ok a o e
    have ne : a ≠ p := fun q => by rw [q, free.1] at e; cases e
    refine ⟨by rw [zAt_ne ne]; exact z, gk.mono (fun b u eu => ?_) (upd_ne ne)⟩
    obtain ⟨e1, e2, e3⟩ := U_some eu
    have nb := ne_of_none e3 hp
    exact U_of e1 (by rw [zAt_ne nb]; exact e2) (by rw [upd_ne nb]; exact e3)
  · by_cases e : a = p
    · subst e; exact ⟨_, upd_same⟩
    · rw [zAt_ne e] at z; rw [upd_ne e]; exact ok1.hid a z
  rintro i n H2 ⟨acc, dacc, G2, hn, k2, ok2, hacc, racc, h2⟩
  cases e : its.drop i with
  | nil =>
    left
    rw [e] at h2
    have hi : its.length ≤ i := by
      have := congrArg List.length e
      simp at this
      omega
    have hil : i = its.length := by omega
    subst hil
    refine ⟨it.stop _ _ k2.q ok2 h2.1, ?_⟩
    have g2p : G2 p = none := by
      cases eg : G2 p with
      | none => rfl
      | some o => have := (ok2.ok p o eg).1; rw [zAt_same] at this; cases this
    have up : ∀ a o, U H2 G2 (zAt Z p) a = some o → U H2 G2 Z a = some o := fun a o e => by
      obtain ⟨e1, e2, e3⟩ := U_some e
      exact U_of e1 (nz a e2).2 e3
    have kk : Kp H1 G1 Z H2 G2 := ⟨fun a o e => by
      obtain ⟨e1, e2, e3⟩ := U_some e
      exact up _ _ (k2.keep a o (U_of e1 (by rw [zAt_ne (ne_of_none e3 hp)]; exact e2) e3)), fun a o z e => k2.hid a o (by rw [zAt_ne (ne_of_none e hp)]; exact z) e⟩
    have okk : Ok K H2 G2 Z := ⟨fun a o e => by
      obtain ⟨z, gk⟩ := ok2.ok a o e
      exact ⟨(nz a z).2, gk.mono up rfl⟩, fun a z => ok2.hid a (by unfold zAt; split <;> simp [z])⟩
    have hup : U H2 G2 Z p = some (.lst acc) := U_of g2p free.2 hacc
    cases m with
    | false => exact k _ _ _ _ h2.2 (k1.trans kk) okk (.lst hup (racc.mono up))
    | true =>
      have h3 := h2.2 p g2p
      have nop : ∀ a o, U H2 G2 (zAt Z p) a = some o → U H2 (gupd G2 p (.lst dacc)) Z a = some o := fun a o e => by
        obtain ⟨e1, e2, e3⟩ := U_some e
        obtain ⟨n1, n2⟩ := nz a e2
        exact U_of (by rw [gupd_ne n1]; exact e1) n2 e3
      have k3 : Kp H1 G1 Z H2 (gupd G2 p (.lst dacc)) := ⟨fun a o e => by
        obtain ⟨e1, e2, e3⟩ := U_some e
        exact nop _ _ (k2.keep a o (U_of e1 (by rw [zAt_ne (ne_of_none e3 hp)]; exact e2) e3)), kk.hid⟩
      refine k _ _ _ _ h3 (k1.trans k3) ⟨fun a o e => ?_, okk.hid⟩ (.ref p)
      by_cases ea : a = p
      · subst ea
        rw [gupd_same] at e; cases e
        exact ⟨free.2, acc, hacc, racc.mono nop⟩
      · rw [gupd_ne ea] at e
        obtain ⟨z, gk⟩ := ok2.ok a o e
        exact ⟨(nz a z).2, gk.mono nop rfl⟩
  | cons x r =>
    right
    rw [e] at h2
    obtain ⟨ex, er⟩ := List.drop_cons_of e
    obtain ⟨hgo, hy⟩ := it.go i x _ _ ex k2.q ok2 h2.1
    have hlt : i < its.length := by
      have := congrArg List.length e
      simp at this
      omega
    refine ⟨hgo, fun H' => ∃ n', n' < n ∧ ∃ acc dacc G2, n' + (i + 1) = its.length ∧ Kp H1 G1 (zAt Z p) H' G2 ∧ Ok K H' G2 (zAt Z p) ∧ H' p = some (.lst acc) ∧ Reps K (U H' G2 (zAt Z p)) dacc acc ∧ dLcL m gd g tt te (dWipe δ vs) (its.drop (i + 1)) dacc G2 Q0, fun _ z => z, fun v H3 y => ?_⟩
    obtain ⟨k3, ok3, r3⟩ := hy v H3 y
    have h3 := h2.2
    split at h3
    · next δ' es =>
      have k13 := k2.trans k3
      refine g.run U_le r3 (rsw.mono k13.keep) es fun σ' rs' hw => ⟨(hw vs hs).trans (wipe_sub fun _ z => z), ?_⟩
      refine ⟨δ', G2, zAt Z p, _, ok3, rs', h3, fun b G4 H4 q4 k4 ok4 => ?_⟩
      have k14 := k13.trans k4
      have hacc4 : H4 p = some (.lst acc) := k4.hid _ _ zAt_same (k3.hid _ _ zAt_same hacc)
      have racc4 := racc.mono (k3.trans k4).keep
      cases b with
      | false =>
        have q4 := dIte_f q4
        refine iteF ⟨n - 1, by omega, acc, dacc, G4, by omega, k14, ok4, hacc4, racc4, by rw [er]; exact q4⟩
      | true =>
        have q4 := dIte_t q4
        refine iteT ⟨δ', G4, zAt Z p, _, ok4, rs'.mono k4.keep, q4, fun yd G5 yv H5 q5 k5 ok5 r5 => ?_⟩
        have hacc5 : H5 p = some (.lst acc) := k5.hid _ _ zAt_same hacc4
        have racc5 := racc4.mono k5.keep
        have up : ∀ a o, U H5 G5 (zAt Z p) a = some o → U (upd H5 p (.lst (acc ++ [yv]))) G5 (zAt Z p) a = some o := fun a o e => by
          obtain ⟨e1, e2, e3⟩ := U_some e
          exact U_of e1 e2 (by rw [upd_ne (nz a e2).1]; exact e3)
        have k15 := k14.trans k5
        refine ⟨acc, hacc5, by rw [← racc.length]; exact q5.1, n - 1, by omega, acc ++ [yv], dacc ++ [yd], G5, by omega, ⟨fun a o e => up _ _ (k15.keep a o e), fun a o z e => ?_⟩, ⟨fun a o e => ?_, fun a z => ?_⟩, upd_same, (racc5.mono up).append (.cons (r5.mono up) .nil), by rw [er]; exact q5.2⟩
        · rw [upd_ne (ne_of_none e hp)]; exact k15.hid a o z e
        · obtain ⟨z, gk⟩ := ok5.ok a o e
          exact ⟨z, gk.mono up (upd_ne (nz a z).1)⟩
        · by_cases e : a = p
          · subst e; exact ⟨_, upd_same⟩
          · rw [upd_ne e]; exact ok5.hid a z
    · exact h3.elim
section
variable {X : Cx}
/-- a clause's tests -/
abbrev DTs (X : Cx) (ifs : List Expr) (t : DTT) : Prop := PTs X ifs (cT X.K t)
def dYes : DTT := fun _ G Q => Q true G
theorem PTs.mono {X : Cx} {e : List Expr} {t u : TT} (h : PTs X e t) (k : ∀ σ H Q, u σ H Q → t σ H Q) : PTs X e u :=
  ⟨fun pins s σ H Q I q => h.run pins s σ H Q I (k σ H Q q)⟩
theorem dts_nil : DTs X [] dYes := PTs.mono pts_nil fun σ H Q ⟨δ, G, Z, Q0, ok, rs, h, k⟩ => k _ _ _ h .refl ok
theorem dts_one {c : Expr} {t : DTT} (h : DT X c t) : DTs X [c] t := pts_one h
theorem de_lc (m : Bool) {elt tg iter : Expr} {ifs : List Expr} {scope : Scope} {own : List (Str × Nat)} {pos : Pos} {ti : DTI} {g : Tgt} {tt : DTT} {te : DTE} (hc : X.calm = true) (hN : X.N.Nodup) (hi : DI X tg iter ti) (ok : BlkOk X.N X.env.scope scope own)
    (hg : ∀ (s : Shared) (H : Hp) (C : Addr) (cl : List (Str × Addr)) (fp : List Addr), PG (X.blk s H scope (compEnvC scope cl C X.env) fp) tg (g.tg X.K)) (ht : ∀ (s : Shared) (H : Hp) (C : Addr) (cl : List (Str × Addr)) (fp : List Addr), DTs (X.blk s H scope (compEnvC scope cl C X.env) fp) ifs tt)
    (he : ∀ (s : Shared) (H : Hp) (C : Addr) (cl : List (Str × Addr)) (fp : List Addr), DE (X.blk s H scope (compEnvC scope cl C X.env) fp) elt te) (hsl : ∀ i ∈ g.slots, i ∈ own.map (·.2)) (hs : ∀ x, foldedSetIterable iter X.env x = pure x := by intro _; rfl) :
    DE X (.ListComp elt [⟨tg, iter, ifs, 0⟩] scope pos) (dLc m ti g tt te (own.map (·.2))) :=
  PE.mono (pe_lc (tt := cT X.K tt) (te := cE X.K te) hc hN hi ok hg ht he hs) fun σ H Q h => lc_split hsl h
theorem ds_setLc (m : Bool) {i : Nat} {y : Str} {py : Pos} {elt tg iter : Expr} {ifs : List Expr} {scope : Scope} {own : List (Str × Nat)} {pos spos : Pos} {ti : DTI} {g : Tgt} {tt : DTT} {te : DTE} (hc : X.calm = true) (hN : X.N.Nodup) (hy : X.N[i]? = some y) (hyl : X.env.scope.names.lookup y = some .local)
    (hsw : swapsWith (.ListComp elt [⟨tg, iter, ifs, 0⟩] scope pos) (some (.Name y py)) spos.line X.env = pure true) (hi : DI X tg iter ti) (ok : BlkOk X.N X.env.scope scope own)
    (hg : ∀ (s : Shared) (H : Hp) (C : Addr) (cl : List (Str × Addr)) (fp : List Addr), PG (X.blk s H scope (compEnvC scope cl C X.env) fp) tg (g.tg X.K)) (ht : ∀ (s : Shared) (H : Hp) (C : Addr) (cl : List (Str × Addr)) (fp : List Addr), DTs (X.blk s H scope (compEnvC scope cl C X.env) fp) ifs tt)
    (he : ∀ (s : Shared) (H : Hp) (C : Addr) (cl : List (Str × Addr)) (fp : List Addr), DE (X.blk s H scope (compEnvC scope cl C X.env) fp) elt te) (hsl : ∀ i ∈ g.slots, i ∈ own.map (·.2)) (hs : ∀ x, foldedSetIterable iter X.env x = pure x := by intro _; rfl) :
    DS X W (.Assign [.Name y py] (.ListComp elt [⟨tg, iter, ifs, 0⟩] scope pos) spos) (dAsg (dLc m ti g tt te (own.map (·.2))) (.nm i)) :=
  PS.mono (ps_setLc (tt := cT X.K tt) (te := cE X.K te) hc hN hy hyl hsw hi ok hg ht he hs) fun E σ H ⟨δ, G, Z, D0, ok, rs, h, l⟩ =>
    lc_split hsl ⟨δ, G, Z, _, ok, rs, h, fun d G1 v H1 h1 k1 ok1 r1 => l.nx _ _ _ _ h1 k1 ok1 ((rs.mono k1.keep).set r1 i)⟩
end

/-! ### what is walked -/
/-- a list, as it stands -/
def lsOf (G : GHp) : D → Option (List D)
  | .lst ds => some ds
  | .ref a => match G a with
    | some (.lst ds) => some ds
    | _ => none
  | _ => none
theorem lsOf_of {K : PySem.W.Frag} {H : Hp} {G : GHp} {Z : Addr → Bool} {x : D} {v : V} {ds : List D} (ok : Ok K H G Z) (r : Rep K (U H G Z) x v) (h : lsOf G x = some ds) : ∃ a xs, v = .ref a ∧ H a = some (.lst xs) ∧ Reps K (U H G Z) ds xs := by
  cases r with
  | lst q rs =>
    simp only [lsOf, Option.some.injEq] at h
    subst h
    exact ⟨_, _, rfl, U_le _ _ q, rs⟩
  | ref a =>
    unfold lsOf at h
    simp only at h
    split at h
    · next ds' e =>
      cases h
      obtain ⟨_, xs, h1, h2⟩ := ok.ok a _ e
      exact ⟨a, xs, rfl, h1, h2⟩
    · cases h
  | _ => simp [lsOf] at h
section
variable {K : PySem.W.Frag} {H : Hp} {G : GHp} {Z Z' : Addr → Bool}
theorem U_ext (h1 : ∀ a, H a ≠ none → Z' a = Z a) : ∀ a o, U H G Z a = some o → U H G Z' a = some o := fun a o e => by
  obtain ⟨e1, e2, e3⟩ := U_some e
  exact U_of e1 (by rw [h1 a (by rw [e3]; simp)]; exact e2) e3
theorem it_list {a : Addr} {xs : List V} {ds : List D} (h : U H G Z a = some (.lst xs)) (r : Reps K (U H G Z) ds xs) : ItOk K (Itl K a) ds none H G Z := by
  refine ⟨fun i d H' G' e k ok _ => ?_, fun H' G' k ok _ => ?_⟩
  · have h' := U_le _ _ (k.keep _ _ h)
    obtain ⟨v, e1, rv⟩ := r.get e
    refine ⟨⟨xs, v, SqL.of h', e1⟩, fun x H'' hy => ?_⟩
    obtain ⟨rfl, hx⟩ := hy
    have := hx xs (SqL.of h')
    rw [e1] at this; cases this
    exact ⟨.refl, ok, rv.mono k.keep⟩
  · exact ⟨xs, SqL.of (U_le _ _ (k.keep _ _ h)), Nat.le_of_eq r.length.symm⟩
theorem it_listG {a : Addr} {ds : List D} : ItOk K (Itl K a) ds (some (a, ds)) H G Z := by
  refine ⟨fun i d H' G' e k ok gd => ?_, fun H' G' k ok gd => ?_⟩
  · obtain ⟨_, xs, h1, h2⟩ := ok.ok a _ gd
    obtain ⟨v, e1, rv⟩ := h2.get e
    refine ⟨⟨xs, v, SqL.of h1, e1⟩, fun x H'' hy => ?_⟩
    obtain ⟨rfl, hx⟩ := hy
    have := hx xs (SqL.of h1)
    rw [e1] at this; cases this
    exact ⟨.refl, ok, rv⟩
  · obtain ⟨_, xs, h1, h2⟩ := ok.ok a _ gd
    exact ⟨xs, SqL.of h1, Nat.le_of_eq h2.length.symm⟩
theorem it_tup {a : Addr} {xs : List V} {ds : List D} (h : SqT K (U H G Z) a xs) (r : Reps K (U H G Z) ds xs) : ItOk K (Itt K a) ds none H G Z := by
  refine ⟨fun i d H' G' e k ok _ => ?_, fun H' G' k ok _ => ?_⟩
  · have h' : SqT K H' a xs := SqT.mono (fun a o e => U_le _ _ (k.keep a o e)) h
    obtain ⟨v, e1, rv⟩ := r.get e
    refine ⟨⟨xs, v, h', e1⟩, fun x H'' hy => ?_⟩
    obtain ⟨rfl, hx⟩ := hy
    have := hx xs h'
    rw [e1] at this; cases this
    exact ⟨.refl, ok, rv.mono k.keep⟩
  · exact ⟨xs, SqT.mono (fun a o e => U_le _ _ (k.keep a o e)) h, Nat.le_of_eq r.length.symm⟩
def rngD (lo : Int) (n : Nat) : List D := (List.range n).map fun (i : Nat) => D.int (lo + i)
theorem it_range {lo : Int} {n : Nat} : ItOk K (Itr lo n) (rngD lo n) none H G Z := by
  refine ⟨fun i d H' G' e k ok _ => ?_, fun H' G' k ok _ => ?_⟩
  · have hi : i < n := by
      have := (List.getElem?_eq_some_iff.mp e).1
      simpa [rngD] using this
    have hd : d = .int (lo + i) := by
      simp [rngD, hi] at e
      exact e.symm
    subst hd
    refine ⟨hi, fun x H'' hy => ?_⟩
    obtain ⟨rfl, rfl⟩ := hy
    exact ⟨.refl, ok, .int _⟩
  · show n ≤ (rngD lo n).length
    simp [rngD]
/-- the signs of a text -/
def strD (x : Str) : List D := x.cps.toList.map fun c => D.str ⟨#[c]⟩
theorem it_str {z : Str} : ItOk K (Its z) (strD z) none H G Z := by
  refine ⟨fun i d H' G' e k ok _ => ?_, fun H' G' k ok _ => ?_⟩
  · have hi : i < z.cps.size := by
      have := (List.getElem?_eq_some_iff.mp e).1
      simpa [strD] using this
    refine ⟨hi, fun x H'' hy => ?_⟩
    obtain ⟨rfl, c, hc, rfl⟩ := hy
    have : d = .str ⟨#[c]⟩ := by
      simp [strD, hc] at e
      exact e.symm
    subst this
    exact ⟨.refl, ok, .str _⟩
  · show z.cps.size ≤ (strD z).length
    simp [strD]
end
section
variable {X : Cx} {tg e : Expr} {te : DTE} {ta : DTA} {p pos : Pos}
/-- a list, a tuple or a text -/
def dSeqI (te : DTE) : DTI := fun δ G R => te δ G fun x G1 => match x with
  | .lst ds => R ds none G1
  | .tup ds => R ds none G1
  | .str z => R (strD z) none G1
  | .ref a => match G1 a with
    | some (.lst ds) => R ds (some (a, ds)) G1
    | _ => False
  | _ => False
theorem PI.or {t u : TI} (h : PI X tg e t) (h' : PI X tg e u) : PI X tg e (fun σ H R => t σ H R ∨ u σ H R) :=
  ⟨fun pins s σ H R I q => q.elim (h.run pins s σ H R I) (h'.run pins s σ H R I)⟩
/-- an iterator over a value, by its kind -/
theorem iter_lst {pins : List (Addr × Obj)} {s : Shared} {σ : St} {H : Hp} {R : It → Hp → Prop} {a : Addr} {xs : List V} (I : Inv X pins σ H s) (hq : SqL X.K H a xs) (q : R (Itl X.K a) H) : wpAny (model X.prog X.w) X.A (pyIter (.ref a)) (PIE X pins σ tg R) X.xe s := by
  obtain ⟨its, rv, p, hz⟩ := I.list hq
  refine wpAny_pyIter_list p.isList ?_
  exact pi_one (tk := s.toks) I _ (turn_list a _) ⟨_, Heap.get?_push_size _ rfl, rfl, rfl⟩ q
theorem iter_tup {pins : List (Addr × Obj)} {s : Shared} {σ : St} {H : Hp} {R : It → Hp → Prop} {a : Addr} {xs : List V} (I : Inv X pins σ H s) (hq : SqT X.K H a xs) (q : R (Itt X.K a) H) : wpAny (model X.prog X.w) X.A (pyIter (.ref a)) (PIE X pins σ tg R) X.xe s := by
  obtain ⟨its, rv, p, hz⟩ := I.tuple hq
  refine wpAny_pyIter_tuple (show s.heap.IsTuple a its.toArray from p) ?_
  exact pi_one (tk := s.toks) I _ (turn_tuple a _) ⟨_, Heap.get?_push_size _ rfl, rfl, rfl⟩ q
theorem iter_text {pins : List (Addr × Obj)} {s : Shared} {σ : St} {H : Hp} {R : It → Hp → Prop} {x : Str} {t : Tok} (I : Inv X pins σ H s) (q : R (Its x) H) : wpAny (model X.prog X.w) X.A (pyIter (.str x t)) (PIE X pins σ tg R) X.xe s := by
  cases ha : x.cps.all (· < 128)
  · exact wpAny_pyIter_wide ha (pi_one (tk := s.toks) I _ (turn_str _ x t "str_iterator" (.inr rfl)) ⟨_, Heap.get?_push_size _ rfl, rfl, rfl⟩ q)
  · exact wpAny_pyIter_ascii ha (pi_one (tk := s.toks) I _ (turn_str _ x t "str_ascii_iterator" (.inl rfl)) ⟨_, Heap.get?_push_size _ rfl, rfl, rfl⟩ q)
/-- the value's kind picks the rule -/
theorem di_seq (he : DE X e te) : DI X tg e (dSeqI te) := by
  refine ⟨?_⟩
  rintro pins s σ H R I ⟨δ, G, Z, Q0, ok, rs, h, k⟩
  let P : VK := fun v H' => ∃ d G', (match d with
      | .lst ds => Q0 ds none G'
      | .tup ds => Q0 ds none G'
      | .str z => Q0 (strD z) none G'
      | .ref a => match G' a with
        | some (.lst ds) => Q0 ds (some (a, ds)) G'
        | _ => False
      | _ => False) ∧ Kp H G Z H' G' ∧ Ok X.K H' G' Z ∧ Rep X.K (U H' G' Z) d v
  refine thn (he.run pins s σ H P I ⟨δ, G, Z, _, ok, rs, h, fun d G' v H' q k1 ok1 r1 => ⟨d, G', q, k1, ok1, r1⟩⟩) fun u s1 hh => ?_
  obtain ⟨v, H1, I1, rv, d, G1, q, k1, ok1, r1⟩ := hh
  cases r1 with
  | lst hq rr =>
    obtain rfl : u = Value.ref _ := rv
    exact iter_lst I1 (SqL.of (U_le _ _ hq)) (k _ _ _ _ _ q k1 ok1 fun Z' z1 z2 => it_list (U_ext z2 _ _ hq) (rr.mono (U_ext z2)))
  | tup hq rr =>
    obtain rfl : u = Value.ref _ := rv
    exact iter_tup I1 (TupAt.sq U_le hq) (k _ _ _ _ _ q k1 ok1 fun Z' z1 z2 => it_tup (TupAt.sq (U_ext z2) hq) (rr.mono (U_ext z2)))
  | str z =>
    obtain ⟨t, rfl⟩ := rv
    exact iter_text I1 (k _ _ _ _ _ q k1 ok1 fun Z' z1 z2 => it_str)
  | ref a =>
    obtain rfl : u = Value.ref _ := rv
    simp only at q
    split at q
    · next ds e =>
      obtain ⟨_, xs, h1, h2⟩ := ok1.ok a _ e
      exact iter_lst I1 (SqL.of h1) (k _ _ _ _ _ q k1 ok1 fun Z' z1 z2 => it_listG)
    · exact q.elim
  | _ => exact False.elim q
/-- range(n), range(a, b) -/
def RgB (i j : Int) : Prop := -(2 ^ 62) ≤ i ∧ i < 2 ^ 62 ∧ -(2 ^ 62) ≤ j ∧ j < 2 ^ 62
def dRng1 (ta : DTE) : DTI := fun δ G R => ta δ G fun x G1 => match x with
  | .int j => RgB 0 j ∧ R (rngD 0 j.toNat) none G1
  | _ => False
def dRng2 (ta tb : DTE) : DTI := fun δ G R => ta δ G fun x G1 => tb δ G1 fun y G2 => match x, y with
  | .int i, .int j => RgB i j ∧ R (rngD i (j - i).toNat) none G2
  | _, _ => False
theorem di_range1 {a : Expr} {ta : DTE} (hg : Gl X "range") (hm : X.mg "range" = none) (ha : DE X a ta) (hs : starEach [a] X.env = [(false, eval a X.env)] := by rfl) : DI X tg (.Call (.Name "range" p) [a] [] pos) (dRng1 ta) :=
  PI.mono (pi_range1 hg hm (pa_cons ha pa_nil hs) hs) fun σ H R ⟨δ, G, Z, Q0, ok, rs, h, k⟩ =>
    ⟨δ, G, Z, _, ok, rs, h, fun x G1 v H1 h1 k1 ok1 r1 => by
      cases r1 with
      | int j => exact ⟨j, rfl, h1.1.2.2.1, h1.1.2.2.2, k _ _ _ _ _ h1.2 k1 ok1 fun Z' _ _ => it_range⟩
      | _ => exact False.elim h1⟩
theorem di_range2 {a b : Expr} {ta tb : DTE} (hg : Gl X "range") (hm : X.mg "range" = none) (ha : DE X a ta) (hb : DE X b tb) (hs : starEach [a, b] X.env = [(false, eval a X.env), (false, eval b X.env)] := by rfl) (hs2 : starEach [b] X.env = [(false, eval b X.env)] := by rfl) :
    DI X tg (.Call (.Name "range" p) [a, b] [] pos) (dRng2 ta tb) :=
  PI.mono (pi_range2 hg hm (pa_cons ha (pa_cons hb pa_nil hs2) (hs.trans (by rw [hs2]))) hs hs2) fun σ H R ⟨δ, G, Z, Q0, ok, rs, h, k⟩ =>
    ⟨δ, G, Z, _, ok, rs, h, fun x G1 v H1 h1 k1 ok1 r1 => ⟨δ, G1, Z, _, ok1, rs.mono k1.keep, h1, fun y G2 u H2 h2 k2 ok2 r2 => by
      cases r1 with
      | int i =>
        cases r2 with
        | int j => exact ⟨i, j, rfl, h2.1, k _ _ _ _ _ h2.2 (k1.trans k2) ok2 fun Z' _ _ => it_range⟩
        | _ => exact False.elim h2
      | _ => cases r2 <;> exact False.elim h2⟩⟩
/-- for (i, x) in enumerate(list) -/
def enumFrom (i : Nat) : List D → List D
  | [] => []
  | d :: r => D.tup [.int (i : Nat), d] :: enumFrom (i + 1) r
theorem enumFrom_get : ∀ {ds : List D} {n i : Nat}, (enumFrom n ds)[i]? = (ds[i]?).map fun d => D.tup [.int ((n + i : Nat) : Int), d]
  | [], n, i => by simp [enumFrom]
  | d :: r, n, 0 => by simp [enumFrom]
  | d :: r, n, i + 1 => by
    simp only [enumFrom, List.getElem?_cons_succ]
    rw [enumFrom_get]
    have e : n + 1 + i = n + (i + 1) := by omega
    rw [e]
theorem enumFrom_length : ∀ {ds : List D} {n : Nat}, (enumFrom n ds).length = ds.length
  | [], n => rfl
  | d :: r, n => by simp [enumFrom, enumFrom_length]
theorem it_enum {K : PySem.W.Frag} {H : Hp} {G : GHp} {Z : Addr → Bool} {a : Addr} {ds : List D} {gd : Gd} (h : ∀ H' G', Kq H G Z H' G' → Ok K H' G' Z → gd.ok G' → ∃ xs, H' a = some (.lst xs) ∧ Reps K (U H' G' Z) ds xs) : ItOk K (Ite K a) (enumFrom 0 ds) gd H G Z := by
  refine ⟨fun i d H' G' e k ok gd => ?_, fun H' G' k ok gd => ?_⟩
  · obtain ⟨xs, h1, h2⟩ := h H' G' k ok gd
    rw [enumFrom_get] at e
    cases e0 : ds[i]? with
    | none => rw [e0] at e; simp at e
    | some y =>
      rw [e0] at e
      simp only [Option.map_some, Option.some.injEq, Nat.zero_add] at e
      subst e
      obtain ⟨v, e1, rv⟩ := h2.get e0
      refine ⟨⟨xs, v, SqL.of h1, e1⟩, fun x H'' hy => ?_⟩
      obtain ⟨T, y', rfl, hT, rfl, hx⟩ := hy
      have := hx xs (SqL.of h1)
      rw [e1] at this; cases this
      have kl : Kp H' G' Z (upd H' T (.tup [.int (i : Nat), v])) G' := Kp.laid hT
      exact ⟨kl, ok.laid hT, .tup (.inl (U_laid ok hT)) (.cons (.int _) (.cons (rv.mono kl.keep) .nil))⟩
  · obtain ⟨xs, h1, h2⟩ := h H' G' k ok gd
    exact ⟨xs, SqL.of h1, by rw [enumFrom_length]; exact Nat.le_of_eq h2.length.symm⟩
/-- the tracked list that a guard must watch, if it is one -/
def gdOf (G : GHp) : D → Gd
  | .ref a => match G a with
    | some (.lst ds) => some (a, ds)
    | _ => none
  | _ => none
theorem ls_stay {K : PySem.W.Frag} {H : Hp} {G : GHp} {Z Z' : Addr → Bool} {x : D} {v : V} {ds : List D} (z2 : ∀ a, H a ≠ none → Z' a = Z a) (ok : Ok K H G Z) (r : Rep K (U H G Z) x v) (h : lsOf G x = some ds) :
    ∃ a xs, v = .ref a ∧ H a = some (.lst xs) ∧ ∀ H' G', Kq H G Z' H' G' → Ok K H' G' Z' → (gdOf G x).ok G' → ∃ xs, H' a = some (.lst xs) ∧ Reps K (U H' G' Z') ds xs := by
  cases r with
  | lst q rs =>
    simp only [lsOf, Option.some.injEq] at h
    subst h
    refine ⟨_, _, rfl, U_le _ _ q, fun H' G' k ok' _ => ⟨_, U_le _ _ (k.keep _ _ (U_ext z2 _ _ q)), rs.mono fun b o e => k.keep _ _ (U_ext z2 _ _ e)⟩⟩
  | ref a =>
    unfold lsOf at h
    simp only at h
    split at h
    · next ds' e =>
      cases h
      obtain ⟨_, xs, h1, h2⟩ := ok.ok a _ e
      refine ⟨a, xs, rfl, h1, fun H' G' k ok' gd => ?_⟩
      have gd : G' a = some (.lst ds) := by
        unfold gdOf Gd.ok at gd
        simp only [e] at gd
        exact gd
      obtain ⟨_, xs', h1', h2'⟩ := ok'.ok a _ gd
      exact ⟨xs', h1', h2'⟩
    · cases h
  | _ => simp [lsOf] at h
def dEnum (te : DTE) : DTI := fun δ G R => te δ G fun x G1 => match lsOf G1 x with
  | some ds => R (enumFrom 0 ds) (gdOf G1 x) G1
  | none => False
theorem di_enum {tpos : Pos} {elts : List Expr} {kk : Nat} (hg : Gl X "enumerate") (hm : X.mg "enumerate" = none) (he : DE X e te) (hs : starEach [e] X.env = [(false, eval e X.env)] := by rfl) :
    DI X (.Tuple elts kk tpos) (.Call (.Name "enumerate" p) [e] [] pos) (dEnum te) :=
  PI.mono (pi_enum hg hm (pa_cons he pa_nil hs) hs) fun σ H R ⟨δ, G, Z, Q0, ok, rs, h, k⟩ =>
    ⟨δ, G, Z, _, ok, rs, h, fun x G1 v H1 h1 k1 ok1 r1 => by
      have h1 : (match lsOf G1 x with | some ds => Q0 (enumFrom 0 ds) (gdOf G1 x) G1 | none => False) := h1
      split at h1
      · next ds e =>
        obtain ⟨a, xs, rfl, ha, _⟩ := ls_stay (fun _ _ => rfl) ok1 r1 e
        refine ⟨a, xs, rfl, SqL.of ha, k _ _ _ _ _ h1 k1 ok1 fun Z' z1 z2 => ?_⟩
        obtain ⟨a', xs', e', _, st⟩ := ls_stay z2 ok1 r1 e
        cases e'
        exact it_enum st
      · exact h1.elim⟩
/-- for (x, y) in zip(list, list) -/
def zipD : List D → List D → List D
  | a :: r, b :: s => D.tup [a, b] :: zipD r s
  | _, _ => []
theorem zipD_get : ∀ {as bs : List D} {i : Nat} {d : D}, (zipD as bs)[i]? = some d → ∃ x y, as[i]? = some x ∧ bs[i]? = some y ∧ d = .tup [x, y]
  | [], _, i, d, e => by simp [zipD] at e
  | _ :: _, [], i, d, e => by simp [zipD] at e
  | a :: r, b :: s, 0, d, e => by
    simp [zipD] at e
    exact ⟨a, b, rfl, rfl, e.symm⟩
  | a :: r, b :: s, i + 1, d, e => by
    simp only [zipD, List.getElem?_cons_succ] at e
    exact zipD_get (as := r) (bs := s) (i := i) (d := d) e
theorem zipD_length : ∀ {as bs : List D}, (zipD as bs).length = min as.length bs.length
  | [], _ => by simp [zipD]
  | _ :: _, [] => by simp [zipD]
  | a :: r, b :: s => by
    simp only [zipD, List.length_cons, zipD_length]
    omega
def dZip (ta tb : DTE) : DTI := fun δ G R => ta δ G fun x G1 => tb δ G1 fun y G2 => match lsOf G2 x, lsOf G2 y, gdOf G2 x, gdOf G2 y with
  | some as, some bs, none, none => R (zipD as bs) none G2
  | _, _, _, _ => False
theorem di_zip {e2 : Expr} {tb : DTE} {tpos : Pos} {elts : List Expr} {kk : Nat} (hg : Gl X "zip") (hm : X.mg "zip" = none) (he : DE X e te) (he2 : DE X e2 tb)
    (hs : starEach [e, e2] X.env = (false, eval e X.env) :: starEach [e2] X.env := by rfl) (hs2 : starEach [e2] X.env = (false, eval e2 X.env) :: starEach [] X.env := by rfl) (hpl : (backTo pos (starEach [e2] X.env)).any (·.1) = false := by rfl) :
    DI X (.Tuple elts kk tpos) (.Call (.Name "zip" p) [e, e2] [] pos) (dZip te tb) :=
  PI.mono (pi_zip hg hm (pa_cons he (pa_cons he2 pa_nil hs2) hs) hs hpl) fun σ H R ⟨δ, G, Z, Q0, ok, rs, h, k⟩ =>
    ⟨δ, G, Z, _, ok, rs, h, fun x G1 v H1 h1 k1 ok1 r1 => ⟨δ, G1, Z, _, ok1, rs.mono k1.keep, h1, fun y G2 u H2 h2 k2 ok2 r2 => by
      have r1 := r1.mono k2.keep
      have h2 : (match lsOf G2 x, lsOf G2 y, gdOf G2 x, gdOf G2 y with
        | some as, some bs, none, none => Q0 (zipD as bs) none G2
        | _, _, _, _ => False) := h2
      split at h2
      · next as bs e1 e2 e3 e4 =>
        obtain ⟨a, xs, rfl, ha, _⟩ := ls_stay (fun _ _ => rfl) ok2 r1 e1
        obtain ⟨b, ys, rfl, hb, _⟩ := ls_stay (fun _ _ => rfl) ok2 r2 e2
        refine ⟨a, b, xs, ys, rfl, SqL.of ha, SqL.of hb, k _ _ _ _ _ h2 (k1.trans k2) ok2 fun Z' z1 z2 => ?_⟩
        obtain ⟨a', xs', ea, _, st⟩ := ls_stay z2 ok2 r1 e1
        cases ea
        obtain ⟨b', ys', eb, _, su⟩ := ls_stay z2 ok2 r2 e2
        cases eb
        rw [e3] at st
        rw [e4] at su
        refine ⟨fun i d H' G' e k ok gd => ?_, fun H' G' k ok gd => ?_⟩
        · obtain ⟨xs, hx1, hx2⟩ := st H' G' k ok trivial
          obtain ⟨ys, hy1, hy2⟩ := su H' G' k ok trivial
          obtain ⟨dx, dy, ex, ey, rfl⟩ := zipD_get e
          obtain ⟨v, e1, rv⟩ := hx2.get ex
          obtain ⟨w, e2, rw'⟩ := hy2.get ey
          refine ⟨⟨xs, ys, v, w, SqL.of hx1, SqL.of hy1, e1, e2⟩, fun x H'' hy => ?_⟩
          obtain ⟨T, x', y', rfl, hT, rfl, hx, hy⟩ := hy
          have q1 := hx xs (SqL.of hx1)
          rw [e1] at q1; cases q1
          have q2 := hy ys (SqL.of hy1)
          rw [e2] at q2; cases q2
          have kl : Kp H' G' Z' (upd H' T (.tup [v, w])) G' := Kp.laid hT
          exact ⟨kl, ok.laid hT, .tup (.inl (U_laid ok hT)) (.cons (rv.mono kl.keep) (.cons (rw'.mono kl.keep) .nil))⟩
        · obtain ⟨xs, hx1, hx2⟩ := st H' G' k ok trivial
          obtain ⟨ys, hy1, hy2⟩ := su H' G' k ok trivial
          refine ⟨xs, ys, SqL.of hx1, SqL.of hy1, ?_⟩
          rw [zipD_length, hx2.length, hy2.length]
          omega
      · exact h2.elim⟩⟩
end

/-! ### calls -/
/-- an exception: its class, its own fields (where it has any) -/
abbrev DXK := Value → Option (List (Str × D)) → GHp → Prop
abbrev DX0 : DXK := fun _ _ _ => False
/-- a def's promise -/
abbrev DSp := List D → GHp → DK → DXK → Prop
/-- how exceptions answer one another -/
structure XLk (K : PySem.W.Frag) (Z : Addr → Bool) (E0 : DXK) (E : XK) (H : Hp) (G : GHp) : Prop where
  bare : ∀ c G' H', E0 c none G' → Kp H G Z H' G' → Ok K H' G' Z → E c none H'
  own : ∀ c fs G' H' dx xs, E0 c (some fs) G' → Kp H G Z H' G' → Ok K H' G' Z → U H' G' Z dx = some (.xd xs) → xs.map (·.1) = fs.map (·.1) → Reps K (U H' G' Z) (fs.map (·.2)) (xs.map (·.2)) → E c (some dx) H'
theorem XLk.after {K : PySem.W.Frag} {Z : Addr → Bool} {E0 : DXK} {E : XK} {H H1 : Hp} {G G1 : GHp} (x : XLk K Z E0 E H G) (k : Kp H G Z H1 G1) : XLk K Z E0 E H1 G1 :=
  ⟨fun c G' H' h q => x.bare c G' H' h (k.trans q), fun c fs G' H' dx xs h q => x.own c fs G' H' dx xs h (k.trans q)⟩
theorem XLk.none {K : PySem.W.Frag} {Z : Addr → Bool} {E : XK} {H : Hp} {G : GHp} : XLk K Z DX0 E H G := ⟨fun _ _ _ h => h.elim, fun _ _ _ _ _ _ h => h.elim⟩
def cSp (K : PySem.W.Frag) (sp : DSp) : Sp := fun vs H Q E => ∃ (ds : List D) (G : GHp) (Z : Addr → Bool) (Q0 : DK) (E0 : DXK), Ok K H G Z ∧ Reps K (U H G Z) ds vs ∧ sp ds G Q0 E0 ∧
  (∀ d G' v H', Q0 d G' → Kp H G Z H' G' → Ok K H' G' Z → Rep K (U H' G' Z) d v → Q v H') ∧ XLk K Z E0 E H G
def dCall (sp : DSp) (dd : List D) (t : DTA) : DTE := fun δ G Q => t δ G fun ds G1 => sp (ds ++ dd) G1 Q DX0
section
variable {X : Cx} {CX : CXT} {k : Nat} {f C : Addr} {fd : FuncData} {ps : List Str} {sp : DSp} {dvs : List V} {ds : List Value} {dd : List D} {E : XK} {x m : Str} {p pos apos : Pos} {e o : Expr} {es : List Expr} {ta : DTE} {t : DTA}
theorem de_call (F : FnOk X.prog X.w X.K X.mg X.base CX k f fd ps (cSp X.K sp)) (hr : Room k X.A) (hg : Gl X x) (hm : X.mg x = some (.ref f)) (hk : PySem.W.keepIn X.K (.ref f) = true) (hb : Binds X.K fd ps ds) (hd : Vals dvs ds) (hdd : ∀ W, Reps X.K W dd dvs) (hx : Passes CX X E)
    (ha : DA X (e :: es) t) (hdb : (x == ("__debug__" : Str)) = false := by decide) (he : starEach (e :: es) X.env = (false, eval e X.env) :: starEach es X.env := by rfl) (hpl : (backTo pos (starEach es X.env)).any (·.1) = false := by rfl) :
    DE X (.Call (.Name x p) (e :: es) [] pos) (dCall sp dd t) :=
  PE.mono (pe_call F hr hg hm hk hb hd hx ha hdb he hpl) fun σ H Q ⟨δ, G, Z, Q0, ok, rs, h, k⟩ =>
    ⟨δ, G, Z, _, ok, rs, h, fun ds G1 vs H1 h1 k1 ok1 r1 => ⟨_, G1, Z, Q0, _, ok1, r1.append (hdd _), h1, fun d G' v H' q k2 ok2 r2 => k _ _ _ _ q (k1.trans k2) ok2 r2, .none⟩⟩
theorem de_call0 (F : FnOk X.prog X.w X.K X.mg X.base CX k f fd ps (cSp X.K sp)) (hr : Room k X.A) (hg : Gl X x) (hm : X.mg x = some (.ref f)) (hk : PySem.W.keepIn X.K (.ref f) = true) (hb : Binds X.K fd ps ds) (hd : Vals dvs ds) (hdd : ∀ W, Reps X.K W dd dvs) (hx : Passes CX X E)
    (hdb : (x == ("__debug__" : Str)) = false := by decide) : DE X (.Call (.Name x p) [] [] pos) (dCall sp dd dNil) :=
  PE.mono (pe_call0 F hr hg hm hk hb hd hx hdb) fun σ H Q ⟨δ, G, Z, Q0, ok, rs, h, k⟩ =>
    ⟨_, G, Z, Q0, _, ok, hdd _, h, k, .none⟩
/-- f(e, .., k = v): the positional values, then the keywords', put in order by gD -/
def dCallN (n m : Nat) (sp : DSp) (gD : List D → List D → List D) (t tk : DTA) : DTE := fun δ G Q => t δ G fun ds G1 => tk δ G1 fun es G2 => ds.length = n ∧ es.length = m ∧ sp (gD ds es) G2 Q DX0
def DKw (X : Cx) (kws : List Keyword) (t : DTA) : Prop := PK X kws (cA X.K t)
theorem PK.mono {X : Cx} {e : List Keyword} {t u : TA} (h : PK X e t) (k : ∀ σ H Q, u σ H Q → t σ H Q) : PK X e u :=
  ⟨fun pos pins s σ H Q I q => h.run pos pins s σ H Q I (k σ H Q q)⟩
theorem dk_nil : DKw X [] dNil := PK.mono pk_nil fun σ H Q ⟨δ, G, Z, Q0, ok, rs, h, k⟩ => k _ _ _ _ h .refl ok .nil
theorem dk_cons {nm : Option Str} {kpos : Pos} {kws : List Keyword} {te : DTE} (ha : DE X e te) (hr : DKw X kws t) : DKw X (⟨nm, e, kpos⟩ :: kws) (dCons te t) :=
  PK.mono (pk_cons ha hr) fun σ H Q ⟨δ, G, Z, Q0, ok, rs, h, k⟩ =>
    ⟨δ, G, Z, _, ok, rs, h, fun x G1 v H1 h1 k1 ok1 r1 => ⟨δ, G1, Z, _, ok1, rs.mono k1.keep, h1, fun xs G2 us H2 h2 k2 ok2 r2 => k _ _ _ _ h2 (k1.trans k2) ok2 (.cons (r1.mono k2.keep) r2)⟩⟩
theorem de_callN {n : Nat} {ks : List Str} {kws : List Keyword} {tk : DTA} {g : List Value → List Value → List Value} {gV : List V → List V → List V} {gD : List D → List D → List D} (F : FnOk X.prog X.w X.K X.mg X.base CX k f fd ps (cSp X.K sp)) (hr : Room k X.A) (hg : Gl X x) (hm : X.mg x = some (.ref f)) (hk : PySem.W.keepIn X.K (.ref f) = true) (hb : KBn X.K fd ps n ks g gV)
    (hgD : ∀ W ds vs es us, Reps X.K W ds vs → Reps X.K W es us → Reps X.K W (gD ds es) (gV vs us)) (hx : Passes CX X E)
    (ha : DA X (e :: es) t) (hkw : DKw X kws tk) (hall : (backToKw pos (keywordEach kws X.env)).all (·.1.isSome) = true := by rfl) (hks : (backToKw pos (keywordEach kws X.env)).filterMap (·.1) = ks := by rfl)
    (hdb : (x == ("__debug__" : Str)) = false := by decide) (he : starEach (e :: es) X.env = (false, eval e X.env) :: starEach es X.env := by rfl)
    (hpl : ((backTo pos (starEach (e :: es) X.env)).any (·.1) || (backToKw pos (keywordEach kws X.env)).any (·.1.isNone)) = false := by rfl) :
    DE X (.Call (.Name x p) (e :: es) kws pos) (dCallN n ks.length sp gD t tk) :=
  PE.mono (pe_callN F hr hg hm hk hb hx ha hkw hall hks hdb he hpl) fun σ H Q ⟨δ, G, Z, Q0, ok, rs, h, k⟩ =>
    ⟨δ, G, Z, _, ok, rs, h, fun ds G1 vs H1 h1 k1 ok1 r1 => ⟨δ, G1, Z, _, ok1, rs.mono k1.keep, h1, fun es G2 us H2 h2 k2 ok2 r2 => by
      have r1' := r1.mono k2.keep
      exact ⟨r1'.length.symm.trans h2.1, r2.length.symm.trans h2.2.1, _, G2, Z, Q0, _, ok2, hgD _ _ _ _ _ r1' r2, h2.2.2, fun d G' v H' q k3 ok3 r3 => k _ _ _ _ q (k1.trans (k2.trans k3)) ok3 r3, .none⟩⟩⟩
end
/-! ### built-ins called by name -/
abbrev DRC := List D → GHp → DK → Prop
def cRC (K : PySem.W.Frag) (r : DRC) : List V → Hp → VK → Prop := fun vs H Q => ∃ (ds : List D) (G : GHp) (Z : Addr → Bool) (Q0 : DK), Ok K H G Z ∧ Reps K (U H G Z) ds vs ∧ r ds G Q0 ∧
  ∀ d G' v' H', Q0 d G' → Kp H G Z H' G' → Ok K H' G' Z → Rep K (U H' G' Z) d v' → Q v' H'
def DCall (X : Cx) (f : Value) (r : DRC) : Prop := CallR X f (cRC X.K r)
def dCB (r : DRC) (t : DTA) : DTE := fun δ G Q => t δ G fun ds G1 => r ds G1 Q
section
variable {X : Cx} {x : Str} {p pos : Pos} {e : Expr} {es : List Expr} {t : DTA} {id T : String} {r : DRC}
theorem de_callB (hc : DCall X (.builtin id) r) (hg : Gl X x) (hm : X.mg x = none) (hv : bootBuiltins x = some (.builtin id)) (ha : DA X (e :: es) t) (hn : x ≠ "__name__" := by decide) (hdb : (x == ("__debug__" : Str)) = false := by decide)
    (he : starEach (e :: es) X.env = (false, eval e X.env) :: starEach es X.env := by rfl) (hpl : (backTo pos (starEach es X.env)).any (·.1) = false := by rfl) : DE X (.Call (.Name x p) (e :: es) [] pos) (dCB r t) :=
  PE.mono (pe_callB hc hg hm hv ha hn hdb he hpl) fun σ H Q ⟨δ, G, Z, Q0, ok, rs, h, k⟩ =>
    ⟨δ, G, Z, _, ok, rs, h, fun ds G1 vs H1 h1 k1 ok1 r1 => ⟨ds, G1, Z, Q0, ok1, r1, h1, fun d G' v H' q k2 ok2 r2 => k _ _ _ _ q (k1.trans k2) ok2 r2⟩⟩
theorem de_callTy (hc : DCall X (.type T) r) (hg : Gl X x) (hm : X.mg x = none) (hv : bootBuiltins x = some (.type T)) (ha : DA X (e :: es) t) (hn : x ≠ "__name__" := by decide) (hdb : (x == ("__debug__" : Str)) = false := by decide)
    (he : starEach (e :: es) X.env = (false, eval e X.env) :: starEach es X.env := by rfl) (hpl : (backTo pos (starEach es X.env)).any (·.1) = false := by rfl) : DE X (.Call (.Name x p) (e :: es) [] pos) (dCB r t) :=
  PE.mono (pe_callTy hc hg hm hv ha hn hdb he hpl) fun σ H Q ⟨δ, G, Z, Q0, ok, rs, h, k⟩ =>
    ⟨δ, G, Z, _, ok, rs, h, fun ds G1 vs H1 h1 k1 ok1 r1 => ⟨ds, G1, Z, Q0, ok1, r1, h1, fun d G' v H' q k2 ok2 r2 => k _ _ _ _ q (k1.trans k2) ok2 r2⟩⟩
end

/-! ### a def keeps its promise -/
def dstart (N : List Str) (ds : List D) : DSt := ds.map some ++ List.replicate (N.length - ds.length) none
theorem RepSt.start {K : PySem.W.Frag} {W : Hp} {N : List Str} {ds : List D} {vs : List V} (r : Reps K W ds vs) : RepSt K W (dstart N ds) (L2.start N vs) := by
  unfold dstart L2.start
  rw [r.length]
  exact (RepSt.somes r).app (RepSt.nones _)
section
variable {P : Program} {w : World} {K : PySem.W.Frag} {mg : Str → Option Value} {base : Heap}
/-- a def that lets no exception out -/
theorem DFun.ok {x qual : Str} {st : Stmt} {f : Addr} {fd : FuncData} {N ps : List Str} {k : Nat} {sp : DSp} (F : Fun K x qual st f fd) (S : FnScope N ps (defScope st)) (len : ∀ ds G Q E, sp ds G Q E → ds.length = ps.length)
    (hbody : ∀ (cdv : Value) (A : Around) (outer : List Env) (s : Shared) (H : Hp) (E : XK) (ds : List D) (G : GHp) (Q : DK) (E0 : DXK), Room k (A.deeper (PyProof.Rows.envOfC qual (defScope st) s.heap.objs.size f cdv)) → sp ds G Q E0 →
      ∃ t, DSs (cxOf CX0 P w K mg base N qual (defScope st) f cdv A outer s H E).nox W0 (defBody st) t ∧ t { nx := fun _ G' => Q .non G', rt := Q } (dstart N ds) G) : FnOk P w K mg base CX0 (k + 1) f fd ps (cSp K sp) := by
  refine F.ok S (fun vs H Q E ⟨ds, G, Z, Q0, E0, ok, rs, h, k, x⟩ => rs.length.symm.trans (len _ _ _ _ h)) fun cdv A outer s H vs Q E hr ⟨ds, G, Z, Q0, E0, ok, rs, h, k, x⟩ => ?_
  obtain ⟨t, d, q⟩ := hbody cdv A outer s H E ds G Q0 E0 hr h
  exact ⟨_, d, _, G, Z, _, ok, RepSt.start rs, q, ⟨fun δ' G' σ' H' q k1 ok1 _ => k _ _ _ _ q k1 ok1 .non, fun _ _ _ _ q => q.elim, fun _ _ _ _ q => q.elim, fun d G' v H' q k1 ok1 r1 => k _ _ _ _ q k1 ok1 r1, fun _ _ _ _ _ q => q.elim, fun _ _ _ _ _ _ _ _ q => q.elim⟩⟩
theorem DFn.imp {CX : CXT} {k : Nat} {f : Addr} {fd : FuncData} {ps : List Str} {sp sp' : DSp} (F : FnOk P w K mg base CX k f fd ps (cSp K sp)) (h : ∀ ds G Q E, sp' ds G Q E → sp ds G Q E) : FnOk P w K mg base CX k f fd ps (cSp K sp') :=
  F.imp fun vs H Q E ⟨ds, G, Z, Q0, E0, ok, rs, q, r⟩ => ⟨ds, G, Z, Q0, E0, ok, rs, h _ _ _ _ q, r⟩
end
end DL
set_option Elab.async false
set_option linter.all false
set_option maxRecDepth 100000
set_option maxHeartbeats 1000000
/-! DL, part 4: operators, subscripts, built-ins. -/
namespace DL
open PySem PySem.Spec L2

theorem OpR.imp {X : Cx} {f : Value → Value → Sem Value} {r r' : R2} (ho : OpR X f r) (h : ∀ x y H Q, r' x y H Q → r x y H Q) : OpR X f r' := fun pins s σ H x y v u Q I rx ry q => ho pins s σ H x y v u Q I rx ry (h x y H Q q)
theorem CallR.imp {X : Cx} {f : Value} {r r' : List V → Hp → VK → Prop} (ho : CallR X f r) (h : ∀ x H Q, r' x H Q → r x H Q) : CallR X f r' := fun pins s σ H xs us Q I rx q => ho pins s σ H xs us Q I rx (h xs H Q q)
theorem UnR.imp {X : Cx} {f : Value → Sem Value} {r r' : V → Hp → VK → Prop} (ho : UnR X f r) (h : ∀ x H Q, r' x H Q → r x H Q) : UnR X f r' := fun pins s σ H xs us Q I rx q => ho pins s σ H xs us Q I rx (h xs H Q q)
theorem IxR.imp {X : Cx} {r r' : R2} (ho : IxR X r) (h : ∀ x y H Q, r' x y H Q → r x y H Q) : IxR X r' := fun va sl pins s σ H x y v u Q I rx ry q e => ho va sl pins s σ H x y v u Q I rx ry (h x y H Q q) e
theorem SlR.imp {X : Cx} {r r' : V → Option Int → Option Int → Hp → VK → Prop} (ho : SlR X r) (h : ∀ x a b H Q, r' x a b H Q → r x a b H Q) : SlR X r' := fun pins s σ H x v vl vu lo hi sl Q I rx e p1 p2 q => ho pins s σ H x v vl vu lo hi sl Q I rx e p1 p2 (h x lo hi H Q q)

/-! ### ints -/
def dI (C : Int → Int → Prop) (g : Int → Int → D) : DR2 := fun x y G Q => match x, y with
  | .int i, .int j => C i j ∧ Q (g i j) G
  | _, _ => False
def dI0 (g : Int → Int → D) : DR2 := fun x y G Q => match x, y with
  | .int i, .int j => Q (g i j) G
  | _, _ => False
section
variable {X : Cx} {f : Value → Value → Sem Value}
theorem dop_I {C : Int → Int → Prop} {g : Int → Int → V} {gd : Int → Int → D} (ho : OpR X f (rI C g)) (hr : ∀ i j W, Rep X.K W (gd i j) (g i j)) : DOp X f (dI C gd) :=
  OpR.imp ho fun v u H Q ⟨x, y, G, Z, Q0, ok, r1, r2, h, k⟩ => by
    cases r1 with
    | int i =>
      cases r2 with
      | int j => exact ⟨i, j, rfl, rfl, h.1, k _ _ _ _ h.2 .refl ok (hr _ _ _)⟩
      | _ => exact False.elim h
    | _ => cases r2 <;> exact False.elim h
theorem dop_I0 {g : Int → Int → V} {gd : Int → Int → D} (ho : OpR X f (rI0 g)) (hr : ∀ i j W, Rep X.K W (gd i j) (g i j)) : DOp X f (dI0 gd) :=
  OpR.imp ho fun v u H Q ⟨x, y, G, Z, Q0, ok, r1, r2, h, k⟩ => by
    cases r1 with
    | int i =>
      cases r2 with
      | int j => exact ⟨i, j, rfl, rfl, k _ _ _ _ h .refl ok (hr _ _ _)⟩
      | _ => exact False.elim h
    | _ => cases r2 <;> exact False.elim h
/-- a product is no too great number -/
def MulOk (i j : Int) : Prop := CMul i j ∨ CMulW i j
theorem MulOk.ok {i j : Int} (h : MulOk i j) : PySem.IntMulOk i j := h.elim (fun h => h.ok) (fun h => h.ok)
theorem op_mulX : OpR X (binaryOp .Mult) (rI MulOk fun i j => .int (i * j)) := opI fun _ _ _ _ _ _ _ hc q => PyProof.Rows.mul_int q hc.ok
/-- a divisor of either sign, below 2 ^ 9000 -/
def DivOk (j : Int) : Prop := j ≠ 0 ∧ j.natAbs.log2 < 9000
theorem op_fdivX : OpR X (binaryOp .FloorDiv) (rI (fun _ j => DivOk j) fun i j => .int (i.fdiv j)) := opI fun i j _ _ _ _ _ hc q =>
  PyProof.Rows.floordiv_int hc.1 q (.inl (PyProof.noPylong_of_log2 hc.2))
theorem dop_sub : DOp X (binaryOp .Sub) (dI0 fun i j => .int (i - j)) := dop_I0 op_sub fun i j _ => .int _
theorem dop_mul : DOp X (binaryOp .Mult) (dI MulOk fun i j => .int (i * j)) := dop_I op_mulX fun i j _ => .int _
theorem dop_fdiv : DOp X (binaryOp .FloorDiv) (dI CDivW fun i j => .int (i / j)) := dop_I op_fdivW fun i j _ => .int _
theorem dop_fdivN : DOp X (binaryOp .FloorDiv) (dI (fun _ j => DivOk j) fun i j => .int (i.fdiv j)) := dop_I op_fdivX fun i j _ => .int _
theorem dop_mod : DOp X (binaryOp .Mod) (dI (fun _ j => 0 < j) fun i j => .int (i % j)) := dop_I op_mod fun i j _ => .int _
theorem dop_pow : DOp X (binaryOp .Pow) (dI CPow fun i j => .int (i ^ j.toNat)) := dop_I op_pow fun i j _ => .int _
theorem dop_addI : DOp X (binaryOp .Add) (dI0 fun i j => .int (i + j)) := dop_I0 op_add fun i j _ => .int _
theorem diop_add : DOp X (inplaceOp .Add) (dI0 fun i j => .int (i + j)) := dop_I0 iop_add fun i j _ => .int _
theorem diop_sub : DOp X (inplaceOp .Sub) (dI0 fun i j => .int (i - j)) := dop_I0 iop_sub fun i j _ => .int _
def dNeg : DR1 := fun x G Q => match x with
  | .int i => Q (.int (-i)) G
  | _ => False
theorem dun_neg : DUn X (unaryOp .USub) dNeg :=
  UnR.imp un_neg fun v H Q ⟨x, G, Z, Q0, ok, r1, h, k⟩ => by
    cases r1 with
    | int i => exact ⟨i, rfl, k _ _ _ _ h .refl ok (.int _)⟩
    | _ => exact False.elim h
end

/-! ### + of anything -/
/-- the result list: as it stays -/
def dAddR : DR2 := fun x y G Q => match x, y with
  | .int i, .int j => Q (.int (i + j)) G
  | .str a, .str b => a.length + b.length ≤ sizeLine ∧ Q (.str (a ++ b)) G
  | .tup xs, .tup ys => xs ≠ [] ∧ xs.length + ys.length ≤ sizeLine ∧ Q (.tup (xs ++ ys)) G
  | x, y => match lsOf G x, lsOf G y with
    | some xs, some ys => xs.length + ys.length ≤ sizeLine ∧ Q (.lst (xs ++ ys)) G
    | _, _ => False
section
variable {X : Cx}
theorem Reps.nil_iff {K : PySem.W.Frag} {W : Hp} {ds : List D} {vs : List V} (r : Reps K W ds vs) : vs = [] ↔ ds = [] := by cases r <;> simp
theorem dop_add : DOp X (binaryOp .Add) dAddR :=
  OpR.imp (OpR.or op_add (OpR.or op_add_str (OpR.or op_catT op_cat))) fun v u H Q ⟨x, y, G, Z, Q0, ok, r1, r2, h, k⟩ => by
    have lst : (match lsOf G x, lsOf G y with
      | some xs, some ys => xs.length + ys.length ≤ sizeLine ∧ Q0 (.lst (xs ++ ys)) G
      | _, _ => False) → rCat v u H Q := by
      intro h
      split at h
      · next xs ys e1 e2 =>
        obtain ⟨a, vs, rfl, ha, ra⟩ := lsOf_of ok r1 e1
        obtain ⟨b, us, rfl, hb, rb⟩ := lsOf_of ok r2 e2
        refine ⟨a, b, vs, us, rfl, rfl, ha, hb, by rw [← ra.length, ← rb.length]; exact h.1, fun p hp => ?_⟩
        exact k _ _ _ _ h.2 (Kp.laid hp) (ok.laid hp) (.lst (U_laid ok hp) ((ra.append rb).mono (Kp.laid hp).keep))
      · exact h.elim
    cases r1 with
    | int i =>
      cases r2 with
      | int j => exact .inl ⟨i, j, rfl, rfl, k _ _ _ _ h .refl ok (.int _)⟩
      | _ => exact .inr (.inr (.inr (lst h)))
    | str a =>
      cases r2 with
      | str b => exact .inr (.inl ⟨a, b, rfl, rfl, h.1, k _ _ _ _ h.2 .refl ok (.str _)⟩)
      | _ => exact .inr (.inr (.inr (lst h)))
    | tup q1 s1 =>
      cases r2 with
      | tup q2 s2 =>
        refine .inr (.inr (.inl ⟨_, _, _, _, rfl, rfl, TupAt.sq U_le q1, TupAt.sq U_le q2, fun e => h.1 (s1.nil_iff.mp e), by rw [← s1.length, ← s2.length]; exact h.2.1, fun e => ?_, fun e p hp => ?_⟩))
        · have e2 := s2.nil_iff.mp e
          subst e2
          exact k _ _ _ _ h.2.2 .refl ok (by rw [List.append_nil]; exact .tup q1 s1)
        · exact k _ _ _ _ h.2.2 (Kp.laid hp) (ok.laid hp) (.tup (.inl (U_laid ok hp)) ((s1.append s2).mono (Kp.laid hp).keep))
      | _ => exact .inr (.inr (.inr (lst h)))
    | _ => cases r2 <;> exact .inr (.inr (.inr (lst h)))
/-- list + list, to be changed -/
def dCatM : DR2 := fun x y G Q => match lsOf G x, lsOf G y with
  | some xs, some ys => xs.length + ys.length ≤ sizeLine ∧ ∀ p, G p = none → Q (.ref p) (gupd G p (.lst (xs ++ ys)))
  | _, _ => False
theorem dop_catM : DOp X (binaryOp .Add) dCatM :=
  OpR.imp op_cat fun v u H Q ⟨x, y, G, Z, Q0, ok, r1, r2, h, k⟩ => by
    unfold dCatM at h
    split at h
    · next xs ys e1 e2 =>
      obtain ⟨a, vs, rfl, ha, ra⟩ := lsOf_of ok r1 e1
      obtain ⟨b, us, rfl, hb, rb⟩ := lsOf_of ok r2 e2
      refine ⟨a, b, vs, us, rfl, rfl, ha, hb, by rw [← ra.length, ← rb.length]; exact h.1, fun p hp => ?_⟩
      have hg := (ok.free hp).1
      have kk : Kp H G Z (upd H p (.lst (vs ++ us))) (gupd G p (.lst (xs ++ ys))) := Kp.laidG hp hg
      exact k _ _ _ _ (h.2 p hg) kk (ok.laidG hp ⟨_, upd_same, (ra.append rb).mono kk.keep⟩) (.ref p)
    · exact h.elim
/-- list * int -/
def dRepR (m : Bool) : DR2 := fun x y G Q => match lsOf G x, y with
  | some xs, .int n => -(2 ^ 63) ≤ n ∧ n < 2 ^ 63 ∧ xs.length * n.toNat ≤ sizeLine ∧ lcEnd m (List.replicate n.toNat xs).flatten G Q
  | _, _ => False
theorem Reps.rep {K : PySem.W.Frag} {W : Hp} {ds : List D} {vs : List V} (r : Reps K W ds vs) : ∀ n : Nat, Reps K W (List.replicate n ds).flatten (List.replicate n vs).flatten
  | 0 => .nil
  | n + 1 => by
    rw [List.replicate_succ, List.replicate_succ, List.flatten_cons, List.flatten_cons]
    exact r.append (Reps.rep r n)
/-- a new list, laid at p -/
theorem lcEnd_of {K : PySem.W.Frag} {H : Hp} {G : GHp} {Z : Addr → Bool} {Q : VK} {Q0 : DK} {m : Bool} {ds : List D} {vs : List V} {p : Addr} (ok : Ok K H G Z) (hp : H p = none) (r : Reps K (U H G Z) ds vs) (h : lcEnd m ds G Q0)
    (k : ∀ d G' v H', Q0 d G' → Kp H G Z H' G' → Ok K H' G' Z → Rep K (U H' G' Z) d v → Q v H') : Q (.ref p) (upd H p (.lst vs)) := by
  cases m with
  | false => exact k _ _ _ _ h (Kp.laid hp) (ok.laid hp) (.lst (U_laid ok hp) (r.mono (Kp.laid hp).keep))
  | true =>
    have hg := (ok.free hp).1
    have kk : Kp H G Z (upd H p (.lst vs)) (gupd G p (.lst ds)) := Kp.laidG hp hg
    exact k _ _ _ _ (h p hg) kk (ok.laidG hp ⟨_, upd_same, r.mono kk.keep⟩) (.ref p)
theorem dop_rep (m : Bool) : DOp X (binaryOp .Mult) (dRepR m) :=
  OpR.imp op_rep fun v u H Q ⟨x, y, G, Z, Q0, ok, r1, r2, h, k⟩ => by
    unfold dRepR at h
    split at h
    · next xs n e1 =>
      obtain ⟨a, vs, rfl, ha, ra⟩ := lsOf_of ok r1 e1
      cases r2
      exact ⟨a, n, vs, rfl, rfl, ha, h.1, h.2.1, by rw [← ra.length]; exact h.2.2.1, fun p hp => lcEnd_of ok hp (ra.rep _) h.2.2.2 k⟩
    · exact h.elim
end

/-! ### == -/
mutual
def D.data : D → Option PyData
  | .non => some .none
  | .bl b => some (.bool b)
  | .int i => some (.int i)
  | .str x => some (.str x)
  | .tup ds => (D.dataL ds).map .tuple
  | .lst ds => (D.dataL ds).map .list
  | _ => none
def D.dataL : List D → Option (List PyData)
  | [] => some []
  | d :: r => match D.data d, D.dataL r with
    | some x, some xs => some (x :: xs)
    | _, _ => none
end
def pdOf (G : GHp) : D → Option PyData
  | .ref a => match G a with
    | some (.lst ds) => (D.dataL ds).map .list
    | _ => none
  | d => d.data
section
variable {K : PySem.W.Frag} {W H : Hp}
mutual
theorem Rep.dp (le : ∀ a o, W a = some o → H a = some o) : ∀ {d : D} {v : V} {p : PyData}, Rep K W d v → d.data = some p → Dp K H v p
  | _, _, p, .non, e => by simp only [D.data, Option.some.injEq] at e; subst e; exact .non
  | _, _, p, .bl b, e => by simp only [D.data, Option.some.injEq] at e; subst e; exact .bl b
  | _, _, p, .int b, e => by simp only [D.data, Option.some.injEq] at e; subst e; exact .int b
  | _, _, p, .str b, e => by simp only [D.data, Option.some.injEq] at e; subst e; exact .str b
  | _, _, p, .ty b, e => by simp [D.data] at e
  | _, _, p, .ref b, e => by simp [D.data] at e
  | _, _, p, .scr _ _, e => by simp [D.data] at e
  | _, _, p, .dct _ _ _, e => by simp [D.data] at e
  | _, _, p, .dcT _ _ _, e => by simp [D.data] at e
  | _, _, p, .tup (ds := ds) h r, e => by
    simp only [D.data] at e
    cases q : D.dataL ds with
    | none => rw [q] at e; simp at e
    | some ps =>
      rw [q] at e
      simp only [Option.map_some, Option.some.injEq] at e
      subst e
      exact .tup (TupAt.sq le h) (Reps.dp le r q)
  | _, _, p, .lst (ds := ds) h r, e => by
    simp only [D.data] at e
    cases q : D.dataL ds with
    | none => rw [q] at e; simp at e
    | some ps =>
      rw [q] at e
      simp only [Option.map_some, Option.some.injEq] at e
      subst e
      exact .lst (SqL.of (le _ _ h)) (Reps.dp le r q)
theorem Reps.dp (le : ∀ a o, W a = some o → H a = some o) : ∀ {ds : List D} {vs : List V} {ps : List PyData}, Reps K W ds vs → D.dataL ds = some ps → DpAll K H vs ps
  | _, _, ps, .nil, e => by simp only [D.dataL, Option.some.injEq] at e; subst e; exact .nil
  | _, _, ps, .cons (d := d) (ds := ds) h r, e => by
    simp only [D.dataL] at e
    split at e
    · next x xs e1 e2 =>
      cases e
      exact .cons (Rep.dp le h e1) (Reps.dp le r e2)
    · cases e
end
end
theorem pd_of {K : PySem.W.Frag} {H : Hp} {G : GHp} {Z : Addr → Bool} {x : D} {v : V} {p : PyData} (ok : Ok K H G Z) (r : Rep K (U H G Z) x v) (h : pdOf G x = some p) : Dp K H v p := by
  cases r with
  | ref a =>
    unfold pdOf at h
    simp only at h
    split at h
    · next ds e =>
      obtain ⟨_, xs, h1, h2⟩ := ok.ok a _ e
      cases q : D.dataL ds with
      | none => rw [q] at h; simp at h
      | some ps =>
        rw [q] at h
        simp only [Option.map_some, Option.some.injEq] at h
        subst h
        exact .lst (SqL.of h1) (Reps.dp U_le h2 q)
    · cases h
  | tup q s => exact Rep.dp U_le (.tup q s) h
  | lst q s => exact Rep.dp U_le (.lst q s) h
  | non => exact Rep.dp (K := K) (W := U H G Z) U_le .non h
  | bl b => exact Rep.dp (K := K) (W := U H G Z) U_le (.bl b) h
  | int b => exact Rep.dp (K := K) (W := U H G Z) U_le (.int b) h
  | str b => exact Rep.dp (K := K) (W := U H G Z) U_le (.str b) h
  | ty b => exact Rep.dp (K := K) (W := U H G Z) U_le (.ty b) h
  | scr q s => exact Rep.dp U_le (.scr q s) h
  | dct q e s => exact Rep.dp U_le (.dct q e s) h
  | dcT q e s => exact Rep.dp U_le (.dcT q e s) h
def dEqR : DR2 := fun x y G Q => match x, y with
  | .int i, .int j => Q (.bl (decide (i = j))) G
  | .str i, .str j => Q (.bl (decide (i = j))) G
  | .bl i, .bl j => Q (.bl (decide (i = j))) G
  | x, y => match pdOf G x, pdOf G y with
    | some p, some q => SeqAt.shaped p = true ∧ SeqAt.shaped q = true ∧ Q (.bl (PyData.eqv p q)) G
    | _, _ => False
def dNeR : DR2 := fun x y G Q => match x, y with
  | .int i, .int j => Q (.bl (!decide (i = j))) G
  | .str i, .str j => Q (.bl (!decide (i = j))) G
  | .bl i, .bl j => Q (.bl (!decide (i = j))) G
  | x, y => match pdOf G x, pdOf G y with
    | some p, some q => SeqAt.shaped p = true ∧ SeqAt.shaped q = true ∧ Q (.bl (!PyData.eqv p q)) G
    | _, _ => False
section
variable {X : Cx}
theorem dop_eq (hu : X.A.units + 64 < cLine) : DOp X (compareOp .Eq) dEqR :=
  OpR.imp (OpR.or op_eq (op_eqD hu)) fun v u H Q ⟨x, y, G, Z, Q0, ok, r1, r2, h, k⟩ => by
    have gen : (match pdOf G x, pdOf G y with
      | some p, some q => SeqAt.shaped p = true ∧ SeqAt.shaped q = true ∧ Q0 (.bl (PyData.eqv p q)) G
      | _, _ => False) → rEqD X.K v u H Q := by
      intro h
      split at h
      · next p q e1 e2 => exact ⟨p, q, pd_of ok r1 e1, pd_of ok r2 e2, h.1, h.2.1, k _ _ _ _ h.2.2 .refl ok (.bl _)⟩
      · exact h.elim
    cases r1 with
    | int i =>
      cases r2 with
      | int j => exact .inl ⟨rfl, by have := k _ _ _ _ h .refl ok (.bl _); simpa using this⟩
      | _ => exact .inr (gen h)
    | str i =>
      cases r2 with
      | str j => exact .inl ⟨rfl, by have := k _ _ _ _ h .refl ok (.bl _); simpa using this⟩
      | _ => exact .inr (gen h)
    | bl i =>
      cases r2 with
      | bl j => exact .inl ⟨rfl, by have := k _ _ _ _ h .refl ok (.bl _); simpa using this⟩
      | _ => exact .inr (gen h)
    | _ => cases r2 <;> exact .inr (gen h)
theorem dop_ne (hu : X.A.units + 64 < cLine) : DOp X (compareOp .NotEq) dNeR :=
  OpR.imp (OpR.or op_ne (op_neD hu)) fun v u H Q ⟨x, y, G, Z, Q0, ok, r1, r2, h, k⟩ => by
    have gen : (match pdOf G x, pdOf G y with
      | some p, some q => SeqAt.shaped p = true ∧ SeqAt.shaped q = true ∧ Q0 (.bl (!PyData.eqv p q)) G
      | _, _ => False) → rNeD X.K v u H Q := by
      intro h
      split at h
      · next p q e1 e2 => exact ⟨p, q, pd_of ok r1 e1, pd_of ok r2 e2, h.1, h.2.1, k _ _ _ _ h.2.2 .refl ok (.bl _)⟩
      · exact h.elim
    cases r1 with
    | int i =>
      cases r2 with
      | int j => exact .inl ⟨rfl, by have := k _ _ _ _ h .refl ok (.bl _); simpa using this⟩
      | _ => exact .inr (gen h)
    | str i =>
      cases r2 with
      | str j => exact .inl ⟨rfl, by have := k _ _ _ _ h .refl ok (.bl _); simpa using this⟩
      | _ => exact .inr (gen h)
    | bl i =>
      cases r2 with
      | bl j => exact .inl ⟨rfl, by have := k _ _ _ _ h .refl ok (.bl _); simpa using this⟩
      | _ => exact .inr (gen h)
    | _ => cases r2 <;> exact .inr (gen h)

/-! ### <, <=, >, >= of ints and texts -/
def dCmpR (f : Int → Int → Bool) (g : List Nat → List Nat → Bool) : DR2 := fun x y G Q => match x, y with
  | .int i, .int j => Q (.bl (f i j)) G
  | .str a, .str b => Q (.bl (g a.cps.toList b.cps.toList)) G
  | _, _ => False
theorem dop_cmp {op : CmpOp} {f : Int → Int → Bool} {g : List Nat → List Nat → Bool} (h1 : OpR X (compareOp op) (rI0 fun i j => .bl (f i j)))
    (h2 : OpR X (compareOp op) (fun x y H Q => ∃ i j, x = .str i ∧ y = .str j ∧ Q (.bl (g i.cps.toList j.cps.toList)) H)) : DOp X (compareOp op) (dCmpR f g) :=
  OpR.imp (OpR.or h1 h2) fun v u H Q ⟨x, y, G, Z, Q0, ok, r1, r2, h, k⟩ => by
    cases r1 with
    | int i =>
      cases r2 with
      | int j => exact .inl ⟨i, j, rfl, rfl, k _ _ _ _ h .refl ok (.bl _)⟩
      | _ => exact False.elim h
    | str i =>
      cases r2 with
      | str j => exact .inr ⟨i, j, rfl, rfl, k _ _ _ _ h .refl ok (.bl _)⟩
      | _ => exact False.elim h
    | _ => cases r2 <;> exact False.elim h
theorem dop_lt : DOp X (compareOp .Lt) (dCmpR (fun i j => decide (i < j)) (fun a b => decide (a < b))) := dop_cmp op_lt op_lt_str
theorem dop_le : DOp X (compareOp .LtE) (dCmpR (fun i j => decide (i ≤ j)) (fun a b => !decide (b < a))) := dop_cmp op_le op_le_str
theorem dop_gt : DOp X (compareOp .Gt) (dCmpR (fun i j => decide (j < i)) (fun a b => decide (b < a))) := dop_cmp op_gt op_gt_str
theorem dop_ge : DOp X (compareOp .GtE) (dCmpR (fun i j => decide (j ≤ i)) (fun a b => !decide (a < b))) := dop_cmp op_ge op_ge_str

/-! ### is -/
def isNon : D → Bool
  | .non => true
  | _ => false
/-- is None, is True, is False -/
def dIsR : DR2 := fun x y G Q => match y, x with
  | .non, x => Q (.bl (isNon x)) G
  | .bl j, .bl i => Q (.bl (decide (i = j))) G
  | _, _ => False
def dIsNR : DR2 := fun x y G Q => match y, x with
  | .non, x => Q (.bl (!isNon x)) G
  | .bl j, .bl i => Q (.bl (!decide (i = j))) G
  | _, _ => False
theorem isNon_of {K : PySem.W.Frag} {W : Hp} {x : D} {v : V} (r : Rep K W x v) : decide (v = .non) = isNon x := by cases r <;> rfl
theorem dop_is : DOp X (compareOp .Is) dIsR :=
  OpR.imp (OpR.or op_isN op_isBl) fun v u H Q ⟨x, y, G, Z, Q0, ok, r1, r2, h, k⟩ => by
    cases r2 with
    | non => exact .inl ⟨rfl, k _ _ _ _ h .refl ok (by rw [isNon_of r1]; exact .bl _)⟩
    | bl j =>
      cases r1 with
      | bl i => exact .inr ⟨i, j, rfl, rfl, k _ _ _ _ h .refl ok (.bl _)⟩
      | _ => exact False.elim h
    | _ => cases r1 <;> exact False.elim h
theorem dop_isN : DOp X (compareOp .IsNot) dIsNR :=
  OpR.imp (OpR.or op_notN op_notBl) fun v u H Q ⟨x, y, G, Z, Q0, ok, r1, r2, h, k⟩ => by
    cases r2 with
    | non => exact .inl ⟨rfl, k _ _ _ _ h .refl ok (by rw [isNon_of r1]; exact .bl _)⟩
    | bl j =>
      cases r1 with
      | bl i => exact .inr ⟨i, j, rfl, rfl, k _ _ _ _ h .refl ok (.bl _)⟩
      | _ => exact False.elim h
    | _ => cases r1 <;> exact False.elim h
end

/-! ### subscripts -/
/-- a place of any sign -/
def atD (ds : List D) (i : Int) (Q : D → Prop) : Prop := match atI ds i with
  | some d => Q d
  | none => False
theorem atI_rep {K : PySem.W.Frag} {W : Hp} {ds : List D} {vs : List V} {i : Int} {d : D} (r : Reps K W ds vs) (h : atI ds i = some d) : ∃ v, atI vs i = some v ∧ Rep K W d v := by
  unfold atI at h ⊢
  rw [← r.length]
  cases e : ixN ds.length i with
  | none => rw [e] at h; simp at h
  | some j =>
    rw [e] at h
    exact r.get h
def dIxR : DR2 := fun x y G Q => match y with
  | .int i => match x with
    | .tup ds => atD ds i fun d => Q d G
    | .scr ds => atD ds i fun d => Q d G
    | .str z => z.length ≤ sizeLine ∧ ∃ c, atI z.cps.toList i = some c ∧ Q (.str ⟨#[c]⟩) G
    | x => match lsOf G x with
      | some ds => atD ds i fun d => Q d G
      | none => False
  | _ => False
def DIx (X : Cx) (r : DR2) : Prop := IxR X (cR2 X.K r)
section
variable {X : Cx} {a b : Expr} {ta tb : DTE} {pos : Pos}
theorem de_ix {r : DR2} (hr : DIx X r) (ha : DE X a ta) (hb : DE X b tb) (hs : PlainIx b) : DE X (.Subscript a b pos) (dOp r ta tb) :=
  PE.mono (pe_ix hr ha hb hs) fun _ _ _ h => op_split h
theorem dix_seq : DIx X dIxR :=
  IxR.imp (ix_seq) fun v u H Q ⟨x, y, G, Z, Q0, ok, r1, r2, h, k⟩ => by
    unfold dIxR at h
    split at h
    · next i =>
      cases r2
      have lst : (match lsOf G x with | some ds => atD ds i fun d => Q0 d G | none => False) → rIxL X.K v (.int i) H Q := by
        intro h
        split at h
        · next ds e =>
          obtain ⟨a, vs, rfl, ha, ra⟩ := lsOf_of ok r1 e
          unfold atD at h
          split at h
          · next d ed =>
            obtain ⟨w, e1, rw'⟩ := atI_rep ra ed
            exact ⟨a, vs, i, w, rfl, rfl, SqL.of ha, e1, k _ _ _ _ h .refl ok rw'⟩
          · exact h.elim
        · exact h.elim
      cases r1 with
      | tup q s =>
        have h : atD _ i fun d => Q0 d G := h
        unfold atD at h
        split at h
        · next d ed =>
          obtain ⟨w, e1, rw'⟩ := atI_rep s ed
          exact .inr (.inl ⟨_, _, i, w, rfl, rfl, TupAt.sq U_le q, e1, k _ _ _ _ h .refl ok rw'⟩)
        · exact h.elim
      | scr q s =>
        have h : atD _ i fun d => Q0 d G := h
        unfold atD at h
        split at h
        · next d ed =>
          obtain ⟨w, e1, rw'⟩ := atI_rep s ed
          exact .inl ⟨_, _, i, w, rfl, rfl, SqL.mono U_le q, e1, k _ _ _ _ h .refl ok rw'⟩
        · exact h.elim
      | str z =>
        obtain ⟨hz, c, hc, q⟩ := h
        exact .inr (.inr ⟨z, i, c, rfl, rfl, hz, hc, k _ _ _ _ q .refl ok (.str _)⟩)
      | _ => exact .inl (lst h)
    · exact h.elim
end
/-! slices -/
abbrev DTO := DSt → GHp → (Option Int → GHp → Prop) → Prop
def cO (K : PySem.W.Frag) (t : DTO) : TO := fun σ H Q => ∃ (δ : DSt) (G : GHp) (Z : Addr → Bool) (Q0 : Option Int → GHp → Prop), Ok K H G Z ∧ RepSt K (U H G Z) δ σ ∧ t δ G Q0 ∧
  ∀ b G' H', Q0 b G' → Kp H G Z H' G' → Ok K H' G' Z → Q b H'
def DO (X : Cx) (e : Option Expr) (t : DTO) : Prop := PO X e (cO X.K t)
theorem PO.mono {X : Cx} {e : Option Expr} {t u : TO} (h : PO X e t) (k : ∀ σ H Q, u σ H Q → t σ H Q) : PO X e u :=
  ⟨fun pins s σ H Q I q => h.run pins s σ H Q I (k σ H Q q)⟩
def dNoPart : DTO := fun _ G Q => Q none G
def dPart (t : DTE) : DTO := fun δ G Q => t δ G fun x G1 => match x with
  | .int i => Q (some i) G1
  | _ => False
/-- the items of ds[lo:hi] -/
def cutD (ds : List D) (lo hi : Option Int) : List D := (ds.drop (HT.sIx ds.length 0 lo)).take (HT.sIx ds.length ds.length hi - HT.sIx ds.length 0 lo)
theorem Reps.cut {K : PySem.W.Frag} {W : Hp} {ds : List D} {vs : List V} (r : Reps K W ds vs) (lo hi : Option Int) : Reps K W (cutD ds lo hi) (cutV vs lo hi) := by
  unfold cutD cutV
  rw [r.length]
  exact (r.drop _).take _
def dSlR (m : Bool) : D → Option Int → Option Int → GHp → DK → Prop := fun x lo hi G Q => match x with
  | .str z => z.length ≤ sizeLine ∧ Q (.str (cutS z lo hi)) G
  | .tup ds => ¬ (HT.sIx ds.length 0 lo = 0 ∧ HT.sIx ds.length ds.length hi = ds.length) ∧ Q (.tup (cutD ds lo hi)) G
  | x => match lsOf G x with
    | some ds => lcEnd m (cutD ds lo hi) G Q
    | none => False
def dSl (r : D → Option Int → Option Int → GHp → DK → Prop) (te : DTE) (tl th : DTO) : DTE := fun δ G Q => te δ G fun x G1 => tl δ G1 fun l G2 => th δ G2 fun u G3 => r x l u G3 Q
section
variable {X : Cx} {e : Expr} {te : DTE} {lo hi : Option Expr} {tl th : DTO} {pos p2 : Pos}
theorem do_none : DO X none dNoPart := PO.mono po_none fun σ H Q ⟨δ, G, Z, Q0, ok, rs, h, k⟩ => k _ _ _ h .refl ok
theorem do_some (h : DE X e te) : DO X (some e) (dPart te) :=
  PO.mono (po_some h) fun σ H Q ⟨δ, G, Z, Q0, ok, rs, h, k⟩ =>
    ⟨δ, G, Z, _, ok, rs, h, fun x G1 v H1 h1 k1 ok1 r1 => by
      cases r1 with
      | int i => exact ⟨i, rfl, k _ _ _ h1 k1 ok1⟩
      | _ => exact False.elim h1⟩
def cSl (K : PySem.W.Frag) (r : D → Option Int → Option Int → GHp → DK → Prop) : V → Option Int → Option Int → Hp → VK → Prop := fun v lo hi H Q => ∃ (x : D) (G : GHp) (Z : Addr → Bool) (Q0 : DK), Ok K H G Z ∧ Rep K (U H G Z) x v ∧ r x lo hi G Q0 ∧
  ∀ d G' v' H', Q0 d G' → Kp H G Z H' G' → Ok K H' G' Z → Rep K (U H' G' Z) d v' → Q v' H'
theorem slr (m : Bool) : SlR X (cSl X.K (dSlR m)) :=
  SlR.imp (SlR.or sl_list (SlR.or sl_tup sl_str)) fun v lo hi H Q ⟨x, G, Z, Q0, ok, r1, h, k⟩ => by
    have lst : (match lsOf G x with | some ds => lcEnd m (cutD ds lo hi) G Q0 | none => False) → rSlL X.K v lo hi H Q := by
      intro h
      split at h
      · next ds e =>
        obtain ⟨a, vs, rfl, ha, ra⟩ := lsOf_of ok r1 e
        exact ⟨a, vs, rfl, SqL.of ha, fun p hp => lcEnd_of ok hp (ra.cut lo hi) h k⟩
      · exact h.elim
    cases r1 with
    | str z => exact .inr (.inr ⟨z, rfl, h.1, k _ _ _ _ h.2 .refl ok (.str _)⟩)
    | tup q s =>
      refine .inr (.inl ⟨_, _, rfl, TupAt.sq U_le q, by rw [← s.length]; exact h.1, fun p hp => ?_⟩)
      exact k _ _ _ _ h.2 (Kp.laid hp) (ok.laid hp) (.tup (.inl (U_laid ok hp)) ((s.cut lo hi).mono (Kp.laid hp).keep))
    | _ => exact .inl (lst h)
theorem de_slice (m : Bool) (he : DE X e te) (hl : DO X lo tl) (hu : DO X hi th) : DE X (.Subscript e (.Slice lo hi none p2) pos) (dSl (dSlR m) te tl th) :=
  PE.mono (pe_slice (slr m) he hl hu) fun σ H Q ⟨δ, G, Z, Q0, ok, rs, h, k⟩ =>
    ⟨δ, G, Z, _, ok, rs, h, fun x G1 v H1 h1 k1 ok1 r1 => ⟨δ, G1, Z, _, ok1, rs.mono k1.keep, h1, fun l G2 H2 h2 k2 ok2 => ⟨δ, G2, Z, _, ok2, rs.mono (k1.trans k2).keep, h2, fun u G3 H3 h3 k3 ok3 =>
      ⟨x, G3, Z, Q0, ok3, r1.mono (k2.trans k3).keep, h3, fun d G' v' H' q k4 ok4 r4 => k _ _ _ _ q (k1.trans (k2.trans (k3.trans k4))) ok4 r4⟩⟩⟩⟩
/-- xs[::-1] -/
def dRevR (m : Bool) (te : DTE) : DTE := fun δ G Q => te δ G fun x G1 => match lsOf G1 x with
  | some ds => lcEnd m ds.reverse G1 Q
  | none => False
theorem de_rev (m : Bool) {k : Nat} {p1 p3 p4 : Pos} (he : DE X e te) : DE X (.Subscript e (.Slice none none (some (.UnaryOp .USub (.Constant (.int 1) k p1) p2)) p3) pos) (dRevR m te) :=
  PE.mono (pe_revL he) fun σ H Q ⟨δ, G, Z, Q0, ok, rs, h, k⟩ =>
    ⟨δ, G, Z, _, ok, rs, h, fun x G1 v H1 h1 k1 ok1 r1 => by
      have h1 : (match lsOf G1 x with | some ds => lcEnd m ds.reverse G1 Q0 | none => False) := h1
      split at h1
      · next ds e =>
        obtain ⟨a, vs, rfl, ha, ra⟩ := lsOf_of ok1 r1 e
        exact ⟨a, vs, rfl, SqL.of ha, fun p hp => lcEnd_of ok1 hp ra.reverse h1 fun d G' v' H' q k2 ok2 r2 => k _ _ _ _ q (k1.trans k2) ok2 r2⟩
      · exact h1.elim⟩
/-- xs[i] = v -/
def dSetL : D → D → D → GHp → (GHp → Prop) → Prop := fun o i v G Q => match o, i with
  | .ref p, .int k => match G p with
    | some (.lst ds) => match ixN ds.length k with
      | some j => Q (gupd G p (.lst (ds.set j v)))
      | none => False
    | _ => False
  | _, _ => False
theorem dSetL_inv {o i v : D} {G : GHp} {Q : GHp → Prop} (h : dSetL o i v G Q) : ∃ p n ds j, o = .ref p ∧ i = .int n ∧ G p = some (.lst ds) ∧ ixN ds.length n = some j ∧ Q (gupd G p (.lst (ds.set j v))) := by
  cases o with
  | ref p =>
    cases i with
    | int n =>
      unfold dSetL at h
      simp only at h
      cases eg : G p with
      | none => rw [eg] at h; exact h.elim
      | some o =>
        rw [eg] at h
        cases o with
        | lst ds =>
          simp only at h
          cases ej : ixN ds.length n with
          | none => rw [ej] at h; exact h.elim
          | some j => rw [ej] at h; exact ⟨p, n, ds, j, rfl, rfl, eg, ej, h⟩
        | _ => exact h.elim
    | _ => exact False.elim h
  | _ => exact False.elim h
def dSub (te to ti : DTE) : DTS := fun D δ G => te δ G fun v G1 => to δ G1 fun o G2 => ti δ G2 fun i G3 => dSetL o i v G3 fun G4 => D.nx δ G4
theorem ds_sub {o i : Expr} {to ti : DTE} {tpos : Pos} (he : DE X e te) (ho : DE X o to) (hi : DE X i ti)
    (ha : ∀ v, assign (.Subscript o i tpos) X.env v = (do
      let ov ← holding [v] (eval o X.env)
      let iv ← holding [v, ov] (eval i X.env)
      standAt tpos
      holding [v, ov, iv] (setItem ov iv v)
      release [v, ov, iv] []) := by intro _; rfl)
    (hs : swapsWithSole [.Subscript o i tpos] e pos.line X.env = pure false := by rfl) (hw : swappedStores [.Subscript o i tpos] e X.env = pure none := by rfl)
    (h1 : (assignEach [.Subscript o i tpos] X.env).map (·.2) = [assign (.Subscript o i tpos) X.env] := by rfl) : DS X W (.Assign [.Subscript o i tpos] e pos) (dSub te to ti) :=
  PS.mono (ps_asg he (pg_sub ho hi set_list ha) hs hw h1) fun E σ H ⟨δ, G, Z, D0, ok, rs, h, l⟩ =>
    ⟨δ, G, Z, _, ok, rs, h, fun v G1 v' H1 h1 k1 ok1 r1 => ⟨δ, G1, Z, _, ok1, rs.mono k1.keep, h1, fun o G2 o' H2 h2 k2 ok2 r2 => ⟨δ, G2, Z, _, ok2, rs.mono (k1.trans k2).keep, h2, fun i G3 i' H3 h3 k3 ok3 r3 => by
      have q1 := r1.mono (k2.trans k3).keep
      have q2 := r2.mono k3.keep
      obtain ⟨p, n, ds, j, rfl, rfl, eg, ej, h3⟩ := dSetL_inv h3
      cases q2
      cases r3
      obtain ⟨hz, xs, hx, rx⟩ := ok3.ok p _ eg
      refine ⟨p, xs, n, j, rfl, rfl, hx, by rw [← rx.length]; exact ej, ?_⟩
      have kk : Kp H3 G3 Z (upd H3 p (.lst (xs.set j v'))) (gupd G3 p (.lst (ds.set j v))) := Kp.wrote eg hz
      have k13 := k1.trans (k2.trans k3)
      exact l.nx _ _ _ _ h3 (k13.trans kk) (ok3.wrote eg ⟨_, upd_same, ((rx.set q1 j)).mono kk.keep⟩) (rs.mono (k13.trans kk).keep)⟩⟩⟩
end
end DL
set_option Elab.async false
set_option linter.all false
set_option maxRecDepth 100000
set_option maxHeartbeats 1000000
/-! DL, part 5: built-in functions and methods. -/
namespace DL
open PySem PySem.Spec L2

/-! ### one and two arguments -/
def dR1 (r : D → GHp → DK → Prop) : DRC := fun ds G Q => match ds with
  | [x] => r x G Q
  | _ => False
def dR2 (r : D → D → GHp → DK → Prop) : DRC := fun ds G Q => match ds with
  | [x, y] => r x y G Q
  | _ => False
section
variable {X : Cx} {f : Value}
theorem dcall1 {r0 : List V → Hp → VK → Prop} {r : D → GHp → DK → Prop} (ho : CallR X f r0) (h : ∀ x v H G Z (Q : VK) (Q0 : DK), Ok X.K H G Z → Rep X.K (U H G Z) x v → r x G Q0 →
    (∀ d G' v' H', Q0 d G' → Kp H G Z H' G' → Ok X.K H' G' Z → Rep X.K (U H' G' Z) d v' → Q v' H') → r0 [v] H Q) : DCall X f (dR1 r) :=
  CallR.imp ho fun vs H Q ⟨ds, G, Z, Q0, ok, rs, q, k⟩ => by
    rcases rs with _ | ⟨r1, rs⟩
    · exact False.elim q
    rcases rs with _ | ⟨r2, rs⟩
    · exact h _ _ _ _ _ _ _ ok r1 q k
    · exact False.elim q
theorem dcall2 {r0 : List V → Hp → VK → Prop} {r : D → D → GHp → DK → Prop} (ho : CallR X f r0) (h : ∀ x y v u H G Z (Q : VK) (Q0 : DK), Ok X.K H G Z → Rep X.K (U H G Z) x v → Rep X.K (U H G Z) y u → r x y G Q0 →
    (∀ d G' v' H', Q0 d G' → Kp H G Z H' G' → Ok X.K H' G' Z → Rep X.K (U H' G' Z) d v' → Q v' H') → r0 [v, u] H Q) : DCall X f (dR2 r) :=
  CallR.imp ho fun vs H Q ⟨ds, G, Z, Q0, ok, rs, q, k⟩ => by
    rcases rs with _ | ⟨r1, rs⟩
    · exact False.elim q
    rcases rs with _ | ⟨r2, rs⟩
    · exact False.elim q
    rcases rs with _ | ⟨r3, rs⟩
    · exact h _ _ _ _ _ _ _ _ _ ok r1 r2 q k
    · exact False.elim q
/-! len -/
def dLenR (x : D) (G : GHp) (Q : DK) : Prop := match x with
  | .str y => y.length ≤ sizeLine ∧ Q (.int y.length) G
  | .tup ds => Q (.int ds.length) G
  | .scr ds => Q (.int ds.length) G
  | x => match lsOf G x with
    | some ds => Q (.int ds.length) G
    | none => False
theorem dcall_len : DCall X (.builtin "len") (dR1 dLenR) :=
  dcall1 call_len fun x v H G Z Q Q0 ok r h k => by
    have lst : (match lsOf G x with | some ds => Q0 (.int ds.length) G | none => False) → ∃ x n, [v] = [x] ∧ LenV X.K x H n ∧ Q (.int n) H := by
      intro h
      split at h
      · next ds e =>
        obtain ⟨a, vs, rfl, ha, ra⟩ := lsOf_of ok r e
        exact ⟨_, vs.length, rfl, .inl ⟨vs, SqL.of ha, rfl⟩, k _ _ _ _ h .refl ok (by rw [ra.length]; exact .int _)⟩
      · exact h.elim
    cases r with
    | str y => exact ⟨_, _, rfl, ⟨h.1, rfl⟩, k _ _ _ _ h.2 .refl ok (.int _)⟩
    | tup q s => exact ⟨_, _, rfl, .inr ⟨_, TupAt.sq U_le q, rfl⟩, k _ _ _ _ h .refl ok (by rw [s.length]; exact .int _)⟩
    | scr q s => exact ⟨_, _, rfl, .inl ⟨_, SqL.mono U_le q, rfl⟩, k _ _ _ _ h .refl ok (by rw [s.length]; exact .int _)⟩
    | _ => exact lst h
/-! abs, int, max and min of two ints -/
def dAbsR (x : D) (G : GHp) (Q : DK) : Prop := match x with
  | .int i => Q (.int (i.natAbs : Int)) G
  | _ => False
theorem abs_ite (i : Int) : (if i < 0 then -i else i) = (i.natAbs : Int) := by split <;> omega
theorem dcall_abs : DCall X (.builtin "abs") (dR1 dAbsR) :=
  dcall1 call_abs fun x v H G Z Q Q0 ok r h k => by
    cases r with
    | int i => exact ⟨i, rfl, k _ _ _ _ h .refl ok (by rw [abs_ite]; exact .int _)⟩
    | _ => exact False.elim h
def dIntR (x : D) (G : GHp) (Q : DK) : Prop := match x with
  | .int i => Q (.int i) G
  | .bl b => Q (.int (if b then 1 else 0)) G
  | _ => False
theorem dcall_int : DCall X (.type "int") (dR1 dIntR) :=
  dcall1 call_int1 fun x v H G Z Q Q0 ok r h k => by
    cases r with
    | int i => exact .inl ⟨i, rfl, k _ _ _ _ h .refl ok (.int _)⟩
    | bl i => exact .inr ⟨i, rfl, k _ _ _ _ h .refl ok (.int _)⟩
    | _ => exact False.elim h
def dMax2R (x y : D) (G : GHp) (Q : DK) : Prop := match x, y with
  | .int i, .int j => Q (.int (max i j)) G
  | _, _ => False
def dMin2R (x y : D) (G : GHp) (Q : DK) : Prop := match x, y with
  | .int i, .int j => Q (.int (min i j)) G
  | _, _ => False
theorem max_ite (i j : Int) : (if j > i then j else i) = max i j := by split <;> omega
theorem min_ite (i j : Int) : (if j < i then j else i) = min i j := by split <;> omega
theorem dcall_max2 (hc : X.calm = true) : DCall X (.builtin "max") (dR2 dMax2R) :=
  dcall2 (call_max2 hc) fun x y v u H G Z Q Q0 ok r1 r2 h k => by
    cases r1 with
    | int i =>
      cases r2 with
      | int j => exact ⟨i, j, rfl, k _ _ _ _ h .refl ok (by rw [max_ite]; exact .int _)⟩
      | _ => exact False.elim h
    | _ => cases r2 <;> exact False.elim h
theorem dcall_min2 (hc : X.calm = true) : DCall X (.builtin "min") (dR2 dMin2R) :=
  dcall2 (call_min2 hc) fun x y v u H G Z Q Q0 ok r1 r2 h k => by
    cases r1 with
    | int i =>
      cases r2 with
      | int j => exact ⟨i, j, rfl, k _ _ _ _ h .refl ok (by rw [min_ite]; exact .int _)⟩
      | _ => exact False.elim h
    | _ => cases r2 <;> exact False.elim h
/-! lists of ints -/
def intsOf : List D → Option (List Int)
  | [] => some []
  | .int i :: r => (intsOf r).map (i :: ·)
  | _ :: _ => none
theorem intsOf_map : ∀ ns : List Int, intsOf (ns.map D.int) = some ns
  | [] => rfl
  | n :: r => by simp [intsOf, intsOf_map r]
theorem intsOf_eq : ∀ {ds : List D} {ns : List Int}, intsOf ds = some ns → ds = ns.map D.int
  | [], ns, e => by simp [intsOf] at e; subst e; rfl
  | d :: r, ns, e => by
    cases d with
    | int i =>
      simp only [intsOf] at e
      cases q : intsOf r with
      | none => rw [q] at e; simp at e
      | some ms =>
        rw [q] at e
        simp at e
        subst e
        rw [List.map_cons, ← intsOf_eq q]
    | _ => simp [intsOf] at e
def intsG (G : GHp) (x : D) : Option (List Int) := (lsOf G x).bind intsOf
theorem intsG_of {K : PySem.W.Frag} {H : Hp} {G : GHp} {Z : Addr → Bool} {x : D} {v : V} {ns : List Int} (ok : Ok K H G Z) (r : Rep K (U H G Z) x v) (h : intsG G x = some ns) : ∃ a, v = .ref a ∧ H a = some (.lst (ns.map V.int)) := by
  unfold intsG at h
  cases e : lsOf G x with
  | none => rw [e] at h; simp at h
  | some ds =>
    rw [e] at h
    simp only [Option.bind_some] at h
    obtain ⟨a, vs, rfl, ha, ra⟩ := lsOf_of ok r e
    rw [intsOf_eq h] at ra
    exact ⟨a, rfl, by rw [ha, ra.ints]⟩
def maxI : List Int → Int
  | [] => 0
  | [a] => a
  | a :: b :: r => max a (maxI (b :: r))
def minI : List Int → Int
  | [] => 0
  | [a] => a
  | a :: b :: r => min a (minI (b :: r))
theorem maxI_mem : ∀ {ns : List Int}, ns ≠ [] → maxI ns ∈ ns ∧ ∀ y ∈ ns, y ≤ maxI ns
  | [a], _ => by simp [maxI]
  | a :: b :: r, _ => by
    have ih := maxI_mem (ns := b :: r) (by simp)
    rw [maxI]
    refine ⟨?_, fun y hy => ?_⟩
    · by_cases h : a ≤ maxI (b :: r)
      · rw [Int.max_eq_right h]; exact List.mem_cons_of_mem _ ih.1
      · rw [Int.max_eq_left (by omega)]; exact List.mem_cons_self
    · rcases List.mem_cons.mp hy with rfl | hy
      · omega
      · have := ih.2 y hy; omega
theorem minI_mem : ∀ {ns : List Int}, ns ≠ [] → minI ns ∈ ns ∧ ∀ y ∈ ns, minI ns ≤ y
  | [a], _ => by simp [minI]
  | a :: b :: r, _ => by
    have ih := minI_mem (ns := b :: r) (by simp)
    rw [minI]
    refine ⟨?_, fun y hy => ?_⟩
    · by_cases h : a ≤ minI (b :: r)
      · rw [Int.min_eq_left h]; exact List.mem_cons_self
      · rw [Int.min_eq_right (by omega)]; exact List.mem_cons_of_mem _ ih.1
    · rcases List.mem_cons.mp hy with rfl | hy
      · omega
      · have := ih.2 y hy; omega
def dOnInts (C : List Int → Prop) (g : List Int → D) (x : D) (G : GHp) (Q : DK) : Prop := match intsG G x with
  | some ns => C ns ∧ Q (g ns) G
  | none => False
theorem dcall_sum (hc : X.calm = true) : DCall X (.builtin "sum") (dR1 (dOnInts (fun _ => True) fun ns => .int ns.sum)) :=
  dcall1 (cr_sum hc) fun x v H G Z Q Q0 ok r h k => by
    unfold dOnInts at h
    split at h
    · next ns e =>
      obtain ⟨a, rfl, ha⟩ := intsG_of ok r e
      exact ⟨a, ns, rfl, SqL.of ha, k _ _ _ _ h.2 .refl ok (.int _)⟩
    · exact h.elim
theorem dcall_maxL (hc : X.calm = true) : DCall X (.builtin "max") (dR1 (dOnInts (fun ns => ns ≠ []) fun ns => .int (maxI ns))) :=
  dcall1 (cr_max hc) fun x v H G Z Q Q0 ok r h k => by
    unfold dOnInts at h
    split at h
    · next ns e =>
      obtain ⟨a, rfl, ha⟩ := intsG_of ok r e
      refine ⟨a, ns, rfl, SqL.of ha, List.length_pos_iff.mpr h.1, fun m hm hle => ?_⟩
      have e : m = maxI ns := by
        have h1 := maxI_mem h.1
        have h2 := hle _ h1.1
        have h3 := h1.2 _ hm
        omega
      subst e
      exact k _ _ _ _ h.2 .refl ok (.int _)
    · exact h.elim
theorem dcall_minL (hc : X.calm = true) : DCall X (.builtin "min") (dR1 (dOnInts (fun ns => ns ≠ []) fun ns => .int (minI ns))) :=
  dcall1 (cr_min hc) fun x v H G Z Q Q0 ok r h k => by
    unfold dOnInts at h
    split at h
    · next ns e =>
      obtain ⟨a, rfl, ha⟩ := intsG_of ok r e
      refine ⟨a, ns, rfl, SqL.of ha, List.length_pos_iff.mpr h.1, fun m hm hle => ?_⟩
      have e : m = minI ns := by
        have h1 := minI_mem h.1
        have h2 := hle _ h1.1
        have h3 := h1.2 _ hm
        omega
      subst e
      exact k _ _ _ _ h.2 .refl ok (.int _)
    · exact h.elim
/-! sorted of ints -/
def insI (n : Int) : List Int → List Int
  | [] => [n]
  | a :: r => if n ≤ a then n :: a :: r else a :: insI n r
def sortI : List Int → List Int
  | [] => []
  | a :: r => insI a (sortI r)
theorem insI_perm (n : Int) : ∀ l, (insI n l).Perm (n :: l)
  | [] => .refl _
  | a :: r => by
    rw [insI]
    split
    · exact .refl _
    · exact (List.Perm.cons a (insI_perm n r)).trans (.swap _ _ _)
theorem insI_sorted (n : Int) : ∀ {l}, l.Pairwise (· ≤ ·) → (insI n l).Pairwise (· ≤ ·)
  | [], _ => by simp [insI]
  | a :: r, h => by
    rw [insI]
    obtain ⟨h1, h2⟩ := List.pairwise_cons.mp h
    split
    · next hn =>
      refine List.pairwise_cons.mpr ⟨fun y hy => ?_, h⟩
      rcases List.mem_cons.mp hy with rfl | hy
      · exact hn
      · have := h1 y hy; omega
    · next hn =>
      refine List.pairwise_cons.mpr ⟨fun y hy => ?_, insI_sorted n h2⟩
      rcases List.mem_cons.mp ((insI_perm n r).mem_iff.mp hy) with rfl | hy
      · omega
      · exact h1 y hy
theorem sortI_perm : ∀ l, (sortI l).Perm l
  | [] => .refl _
  | a :: r => (insI_perm a _).trans (.cons a (sortI_perm r))
theorem sortI_sorted : ∀ l, (sortI l).Pairwise (· ≤ ·)
  | [] => .nil
  | a :: r => insI_sorted a (sortI_sorted r)
theorem sorted_unique {l m : List Int} (hp : l.Perm m) (hl : l.Pairwise (· ≤ ·)) (hm : m.Pairwise (· ≤ ·)) : l = m := by
  induction l generalizing m with
  | nil => exact (List.nil_perm.mp hp).symm
  | cons a r ih =>
    cases m with
    | nil => exact absurd hp (by simp)
    | cons b s =>
      obtain ⟨h1, h2⟩ := List.pairwise_cons.mp hl
      obtain ⟨h3, h4⟩ := List.pairwise_cons.mp hm
      have e : a = b := by
        have ha : a ∈ b :: s := hp.mem_iff.mp List.mem_cons_self
        have hb : b ∈ a :: r := hp.mem_iff.mpr List.mem_cons_self
        rcases List.mem_cons.mp ha with ea | ha
        · exact ea
        · rcases List.mem_cons.mp hb with eb | hb
          · exact eb.symm
          · have := h3 a ha
            have := h1 b hb
            omega
      subst e
      rw [ih (List.Perm.cons_inv hp) h2 h4]
def dSortedR (m : Bool) (x : D) (G : GHp) (Q : DK) : Prop := match intsG G x with
  | some ns => lcEnd m ((sortI ns).map .int) G Q
  | none => False
theorem dcall_sorted (m : Bool) : DCall X (.builtin "sorted") (dR1 (dSortedR m)) :=
  dcall1 cr_sortedI fun x v H G Z Q Q0 ok r h k => by
    unfold dSortedR at h
    split at h
    · next ns e =>
      obtain ⟨a, rfl, ha⟩ := intsG_of ok r e
      refine ⟨a, ns, rfl, SqL.of ha, fun ns' p hp hs hn => ?_⟩
      have e : ns' = sortI ns := sorted_unique (hp.trans (sortI_perm ns).symm) hs (sortI_sorted ns)
      subst e
      exact lcEnd_of ok hn (Reps.of_ints _) h k
    · exact h.elim
/-! list(x), tuple(x) -/
def sqOf (G : GHp) : D → Option (List D)
  | .tup ds => some ds
  | x => lsOf G x
def dListR (m : Bool) (x : D) (G : GHp) (Q : DK) : Prop := match sqOf G x with
  | some ds => lcEnd m ds G Q
  | none => False
theorem dcall_list (m : Bool) : DCall X (.type "list") (dR1 (dListR m)) :=
  dcall1 call_list_of fun x v H G Z Q Q0 ok r h k => by
    have lst : (match lsOf G x with | some ds => lcEnd m ds G Q0 | none => False) → ∃ p ys, [v] = [V.ref p] ∧ (SqL X.K H p ys ∨ SqT X.K H p ys) ∧ ∀ l, H l = none → Q (.ref l) (upd H l (.lst ys)) := by
      intro h
      split at h
      · next ds e =>
        obtain ⟨a, vs, rfl, ha, ra⟩ := lsOf_of ok r e
        exact ⟨a, vs, rfl, .inl (SqL.of ha), fun p hp => lcEnd_of ok hp ra h k⟩
      · exact h.elim
    cases r with
    | tup q s => exact ⟨_, _, rfl, .inr (TupAt.sq U_le q), fun p hp => lcEnd_of ok hp s h k⟩
    | _ => exact lst h
def dTupleR (x : D) (G : GHp) (Q : DK) : Prop := match sqOf G x with
  | some ds => Q (.tup ds) G
  | none => False
theorem dcall_tuple : DCall X (.type "tuple") (dR1 dTupleR) :=
  dcall1 call_tuple_of fun x v H G Z Q Q0 ok r h k => by
    have lst : (match lsOf G x with | some ds => Q0 (.tup ds) G | none => False) → ∃ p ys, [v] = [V.ref p] ∧ ((SqL X.K H p ys ∧ ∀ l, H l = none → Q (.ref l) (upd H l (.tup ys))) ∨ (SqT X.K H p ys ∧ Q (.ref p) H)) := by
      intro h
      split at h
      · next ds e =>
        obtain ⟨a, vs, rfl, ha, ra⟩ := lsOf_of ok r e
        exact ⟨a, vs, rfl, .inl ⟨SqL.of ha, fun p hp => k _ _ _ _ h (Kp.laid hp) (ok.laid hp) (.tup (.inl (U_laid ok hp)) (ra.mono (Kp.laid hp).keep))⟩⟩
      · exact h.elim
    cases r with
    | tup q s => exact ⟨_, _, rfl, .inr ⟨TupAt.sq U_le q, k _ _ _ _ h .refl ok (.tup q s)⟩⟩
    | _ => exact lst h
/-! all, any of bools -/
def bsOf : List D → Option (List Bool)
  | [] => some []
  | .bl i :: r => (bsOf r).map (i :: ·)
  | _ :: _ => none
theorem bsOf_map : ∀ ns : List Bool, bsOf (ns.map D.bl) = some ns
  | [] => rfl
  | n :: r => by simp [bsOf, bsOf_map r]
theorem bsOf_eq : ∀ {ds : List D} {ns : List Bool}, bsOf ds = some ns → ds = ns.map D.bl
  | [], ns, e => by simp [bsOf] at e; subst e; rfl
  | d :: r, ns, e => by
    cases d with
    | bl i =>
      simp only [bsOf] at e
      cases q : bsOf r with
      | none => rw [q] at e; simp at e
      | some ms =>
        rw [q] at e
        simp at e
        subst e
        rw [List.map_cons, ← bsOf_eq q]
    | _ => simp [bsOf] at e
def dOnBls (g : List Bool → Bool) (x : D) (G : GHp) (Q : DK) : Prop := match (lsOf G x).bind bsOf with
  | some ns => Q (.bl (g ns)) G
  | none => False
theorem bls_of {K : PySem.W.Frag} {H : Hp} {G : GHp} {Z : Addr → Bool} {x : D} {v : V} {ns : List Bool} (ok : Ok K H G Z) (r : Rep K (U H G Z) x v) (h : (lsOf G x).bind bsOf = some ns) : ∃ a, v = .ref a ∧ H a = some (.lst (ns.map V.bl)) := by
  cases e : lsOf G x with
  | none => rw [e] at h; simp at h
  | some ds =>
    rw [e] at h
    simp only [Option.bind_some] at h
    obtain ⟨a, vs, rfl, ha, ra⟩ := lsOf_of ok r e
    rw [bsOf_eq h] at ra
    exact ⟨a, rfl, by rw [ha, ra.bls]⟩
theorem dcall_all (hc : X.calm = true) : DCall X (.builtin "all") (dR1 (dOnBls fun bs => bs.all id)) :=
  dcall1 (cr_all hc) fun x v H G Z Q Q0 ok r h k => by
    unfold dOnBls at h
    split at h
    · next ns e =>
      obtain ⟨a, rfl, ha⟩ := bls_of ok r e
      exact ⟨a, ns, rfl, SqL.of ha, k _ _ _ _ h .refl ok (.bl _)⟩
    · exact h.elim
theorem dcall_any (hc : X.calm = true) : DCall X (.builtin "any") (dR1 (dOnBls fun bs => bs.any id)) :=
  dcall1 (cr_any hc) fun x v H G Z Q Q0 ok r h k => by
    unfold dOnBls at h
    split at h
    · next ns e =>
      obtain ⟨a, rfl, ha⟩ := bls_of ok r e
      exact ⟨a, ns, rfl, SqL.of ha, k _ _ _ _ h .refl ok (.bl _)⟩
    · exact h.elim
/-! isinstance -/
def tgOf (G : GHp) : D → Option Tg
  | .non => some .non
  | .bl _ => some .bool
  | .int _ => some .int
  | .str _ => some .str
  | .tup _ => some .tup
  | .lst _ => some .lst
  | .ref a => match G a with
    | some (.lst _) => some .lst
    | some (.dK _) => some .dct
    | some (.exo _ _) => some .exc
    | _ => none
  | _ => none
def isA : Tg → Tg → Bool
  | .exc, _ => false
  | .bool, .int => true
  | a, b => decide (a = b)
theorem kit_isA : ∀ a c : Tg, a ≠ .exc → kitB a.name c.name = some (isA a c) := by
  intro a c h
  cases a <;> first | exact absurd rfl h | (cases c <;> decide +kernel)
theorem tg_of {K : PySem.W.Frag} {H : Hp} {G : GHp} {Z : Addr → Bool} {x : D} {v : V} {t : Tg} (ok : Ok K H G Z) (r : Rep K (U H G Z) x v) (h : tgOf G x = some t) (hx : t ≠ .exc) : TyX K H v (.type t.name) := by
  cases r with
  | non => cases h; exact .base .non
  | bl b => cases h; exact .base (.bl b)
  | int b => cases h; exact .base (.int b)
  | str b => cases h; exact .base (.str b)
  | ty b => cases h
  | scr q s => cases h
  | dct q e s => cases h
  | dcT q e s => cases h
  | lst q s => cases h; exact .base (.lst (U_le _ _ q))
  | tup q s =>
    cases h
    rcases TupAt.sq U_le q with (q | ⟨o, q⟩) | ⟨o, its, n, e, c, _⟩
    · exact .base (.tup q)
    · exact .fTuple q
    · exact .kTuple e c
  | ref a =>
    unfold tgOf at h
    simp only at h
    split at h
    · next ds e =>
      cases h
      obtain ⟨_, xs, h1, _⟩ := ok.ok a _ e
      exact .base (.lst h1)
    · next ds e =>
      cases h
      obtain ⟨_, xs, h1, _⟩ := ok.ok a _ e
      exact .base (.dK h1)
    · cases h; exact absurd rfl hx
    · cases h
/-- such a thing is an exception of one's own -/
theorem exo_of {K : PySem.W.Frag} {H : Hp} {G : GHp} {Z : Addr → Bool} {x : D} {v : V} (ok : Ok K H G Z) (r : Rep K (U H G Z) x v) (h : tgOf G x = some .exc) : ∃ (a C dx : Addr) (xs : List (Str × V)), v = .ref a ∧ ExoF K C ∧ H a = some (L2.exo a C (some dx)) ∧ H dx = some (L2.exd dx xs) := by
  cases r with
  | ref a =>
    unfold tgOf at h
    simp only at h
    split at h
    · cases h
    · cases h
    · next C fs e =>
      obtain ⟨_, f0, dx, xs, h1, h2, _⟩ := ok.ok a _ e
      exact ⟨a, C, dx, xs, rfl, f0, h1, U_le _ _ h2⟩
    · cases h
  | _ => cases h
end
namespace ExoX
open PySem.W
variable {prog : Program} {w : World} {A : Around} {E : Value → Shared → Prop} {s : Shared} {K : Frag} {x D : Addr} {ox : Obj} {od : Option Obj}
/-- x.__class__ of an exception with a dict of its own -/
theorem class_of {Q : Option Value → Shared → Prop} (c : ExcC K D) (KI : K.In s.heap) (I : InstAt s.heap x ox D od) (h : Q (some (.ref D)) { s with toks := s.toks + 1 }) : wpAny (model prog w) A (getAttr? (.ref x) "__class__") Q E s := by
  obtain ⟨cd, hcd, _⟩ := any_some c.hd
  have hf : findObj K D od "__class__" = some (.bind (.builtin "getset_descriptor.__get__") (.builtin "object.__class__")) := by
    unfold findObj
    rw [hcd, Option.bind_some, c.ha, Option.bind_some]
    simp [c.hn, c.ht]
  obtain ⟨hp, g, d, t, os⟩ := s
  have ty := I.type (M := model prog w)
  have l1 := looks_findIn (M := model prog w) KI c.hg
  have l2 := looks_findIn (M := model prog w) KI c.hk
  have l3 := looks_find (M := model prog w) KI I hf
  have sub : Looks (model prog w) hp (isInstance (.ref x) (.type "BaseException")) true := ty.andThen (looks_subIn KI c.hs)
  have n0 : (false && onTheHeap (Value.builtin "BaseException.__getattribute__")) = false := rfl
  have n1 : (onTheHeap (Value.ref D) && Value.builtin "BaseException.__getattribute__" == Value.builtin "object.__getattribute__") = false := by
    rw [show (Value.builtin "BaseException.__getattribute__" == Value.builtin "object.__getattribute__") = false by decide +kernel, Bool.and_false]
  unfold getAttr? getAttrBy? getAttrBy
  apply wpAny_bind
  apply wpAny_mkText
  apply wpAny_bind
  apply wpAny_attempt
  apply wpAny_holding
  apply wpAny_bind
  apply ty.at
  apply wpAny_bind
  apply l1.at
  show wpAny _ _ (if (onTheHeap (Value.ref D) && Value.builtin "BaseException.__getattribute__" == Value.builtin "object.__getattribute__") = true then _ else _) _ _ _
  rw [n1]
  rw [if_neg Bool.false_ne_true]
  unfold getAttrByItsOwn hookBefore
  apply wpAny_bind
  rw [if_pos (show onTheHeap (Value.ref D) = true from rfl)]
  apply l2.at
  apply wpAny_bind
  apply wpAny_attempt
  apply wpAny_holding
  unfold callGetattribute
  rw [n0]
  rw [if_neg Bool.false_ne_true]
  unfold boundAndCalled
  rw [PySem.F.excAttr_ValueError.ga.bind (.ref x)]
  apply wpAny_bind
  apply wpAny_pure
  show wpAny _ _ (call (.builtin "BaseException.__getattribute__") [.ref x, .str "__class__" t]) _ _ _
  apply wpAny_call
  apply codeAny_call_builtin PySem.F.excAttr_ValueError.ga.plain PySem.F.entry_bexc_ga
  refine @check_slot (model prog w) _ _ ⟨hp, g, d, t + 1, os⟩ "BaseException.__getattribute__" "BaseException" "__getattribute__" (.ref x) [.str "__class__" t] [] _ (by decide +kernel) (by decide +kernel) sub (PySem.F.args_bexc_ga (.ref x) (.str "__class__" t)) ?_
  unfold Builtin.«object.__getattribute__»
  refine wpAny_bind (wpAny_of_eq (a := ((Value.ref x : Value), [Value.str "__class__" t])) (by first | rfl | (simp only [slotArgs]; rfl)) ?_)
  apply wpAny_bind
  apply wpAny_pure
  apply wpAny_bind
  apply ty.at
  apply wpAny_bind
  apply l3.at
  show wpAny _ _ (holding [Value.builtin "object.__class__"] (call (.builtin "getset_descriptor.__get__") [.builtin "object.__class__", .ref x, .ref D]) >>= ret) _ _ _
  refine wpAny_bind (wpAny_holding (wpAny_call (class_get (s := ⟨hp, g, d, t + 1, os⟩) (ox := ox) (od := od) KI I c.hm ?_)))
  apply wpAny_pure
  show wpAny _ _ (handedOut (.ref D)) _ _ _
  rw [handedOut_of (v := .ref D) rfl]
  first
    | exact wpAny_pure (wpAny_pure h)
    | exact wpAny_pure h
    | exact wpAny_pure (wpAny_bind (wpAny_pure (wpAny_pure h)))
theorem kitx (c : ExcC K D) : KitX K (.ref x) (.ref D) (fun h => InstAt h x ox D od) where
  ty := fun _ _ _ I => I.type
  it := by
    intro _ _ KI _ A' Q' E' s' k q
    obtain ⟨cd, hcd, _⟩ := any_some c.hd
    unfold clsIn at hcd
    split at hcd
    · next ho =>
      unfold isType loadHead
      exact wpAny_bind (wpAny_loadPart (k _ _ (KI _ _ ho)) (wpAny_pure q))
    · cases hcd
  ne := by
    intro h tp dd its n sl KI htp
    obtain ⟨cd, hcd, _⟩ := any_some c.hd
    refine Bool.eq_false_iff.mpr fun q => ?_
    obtain rfl : D = tp := Value.ref.inj (beq_iff_eq.mp q)
    unfold clsIn at hcd
    split at hcd
    · next ho =>
      have z := (KI _ _ ho).symm.trans htp
      cases z
    · cases hcd
  ca := fun KI I k => class_of c KI I k
end ExoX
section
variable {X : Cx}
def dIsiR (x y : D) (G : GHp) (Q : DK) : Prop := match tgOf G x, y with
  | some t, .ty c => Q (.bl (isA t c)) G
  | _, _ => False
theorem inst_exo {P : Program} {w : World} {H : Hp} {h : Heap} (hok : HOk P w H h) {a C dx : Addr} {xs : List (Str × V)} (e1 : H a = some (L2.exo a C (some dx))) (e2 : H dx = some (L2.exd dx xs)) : ∃ ox od, PySem.W.InstAt h a ox C (some od) := by
  have o1 := hok a _ e1
  have o2 := hok dx _ e2
  obtain ⟨⟨t1, h1⟩, _, _⟩ := o1
  obtain ⟨⟨mA, h2, _⟩, _, _⟩ := o2
  obtain ⟨od, ho, _⟩ := lookIn_ns h2
  exact ⟨_, od, h1, rfl, rfl, ho⟩
theorem dcall_isi : DCall X (.builtin "isinstance") (dR2 dIsiR) := by
  have base : DCall X (.builtin "isinstance") (dR2 fun x y G Q => dIsiR x y G Q ∧ tgOf G x ≠ some .exc) := dcall2 call_isi fun x y v u H G Z Q Q0 ok r1 r2 h k => by
    obtain ⟨h, hx⟩ := h
    unfold dIsiR at h
    split at h
    · next t c e =>
      cases r2
      have ht : t ≠ .exc := fun q => hx (by rw [e, q])
      exact ⟨v, _, _, _, _, rfl, .ty _, tg_of ok r1 e ht, kit_ty (kit_isA t c ht), k _ _ _ _ h .refl ok (.bl _)⟩
    · exact h.elim
  intro pins s σ H xs us Q I rv ⟨ds, G, Z, Q0, ok, rs, h, k⟩
  match ds, h, rs with
  | [x, y], h, rs =>
    by_cases hx : tgOf G x = some .exc
    · rcases rs with _ | ⟨r1, ra⟩
      rcases ra with _ | ⟨r2, rb⟩
      cases rb
      obtain ⟨a, C, dx, fs, rfl, f0, e1, e2⟩ := exo_of ok r1 hx
      have h : dIsiR x y G Q0 := h
      unfold dIsiR at h
      rw [hx] at h
      cases r2 with
      | ty c =>
        obtain ⟨u1, u2, rfl, q1, q2⟩ := vals2 rv
        obtain rfl : u1 = .ref a := q1
        obtain rfl : u2 = .type c.name := q2
        obtain ⟨ox, od, J⟩ := inst_exo I.hok e1 e2
        exact PySem.W.kia_one (ExoX.kitx f0.c) I.kIn J (f0.n c) (fun z => nomatch z) fun tk => ⟨.bl false, H, I.kept (t' := tk) fun _ _ z => z, rfl, k _ _ _ _ h .refl ok (.bl _)⟩
      | _ => exact h.elim
    · exact base pins s σ H xs us Q I rv ⟨[x, y], G, Z, Q0, ok, rs, ⟨h, hx⟩, k⟩
end
/-- isinstance(x, (c1, c2, ..)) with written classes -/
def tysT (cs : List Tg) : TE := fun _ H Q => ∀ p, H p = none → Q (.ref p) (upd H p (.tup (cs.map fun c => V.ty c.name)))
def dIsiT (cs : List Tg) (te : DTE) : DTE := fun δ G Q => te δ G fun x G1 => match tgOf G1 x with
  | some .exc => False
  | some t => Q (.bl (cs.any fun c => isA t c)) G1
  | none => False
theorem kitAny_of {K : PySem.W.Frag} {t : Tg} (ht : t ≠ .exc) : ∀ cs : List Tg, PySem.W.kitAny K (.type t.name) (cs.map fun c => Value.type c.name) = some (cs.any fun c => isA t c)
  | [] => kitAny_nil
  | c :: cs => by
    refine kitAny_cons (kit_ty (kit_isA t c ht)) (fun e => ?_) (fun e => ?_)
    · rw [kitAny_of ht cs, List.any_cons, e, Bool.false_or]
    · rw [List.any_cons, e, Bool.true_or]
section
variable {X : Cx} {p pos : Pos} {e tt : Expr} {te : DTE} {cs : List Tg}
theorem clsv_all : ∀ cs : List Tg, Paired ClsV (cs.map fun c => V.ty c.name) (cs.map fun c => Value.type c.name)
  | [] => .nil
  | c :: cs => .cons (.ty _) (clsv_all cs)
theorem de_isiT (he : DE X e te) (ht : PE X tt (tysT cs)) (hg : Gl X "isinstance") (hm : X.mg "isinstance" = none)
    (hs : starEach [e, tt] X.env = (false, eval e X.env) :: starEach [tt] X.env := by rfl) (hs2 : starEach [tt] X.env = (false, eval tt X.env) :: starEach [] X.env := by rfl) (hpl : (backTo pos (starEach [tt] X.env)).any (·.1) = false := by rfl) :
    DE X (.Call (.Name "isinstance" p) [e, tt] [] pos) (dIsiT cs te) :=
  PE.mono (pe_callB call_isiT hg hm (by decide +kernel) (pa_cons he (pa_cons ht pa_nil hs2) hs) (by decide) (by decide) hs hpl) fun σ H Q ⟨δ, G, Z, Q0, ok, rs, h, k⟩ =>
    ⟨δ, G, Z, _, ok, rs, h, fun x G1 v H1 h1 k1 ok1 r1 => fun p hp => by
      have h1 : (match tgOf G1 x with | some .exc => False | some t => Q0 (.bl (cs.any fun c => isA t c)) G1 | none => False) := h1
      split at h1
      · exact h1.elim
      · next t ht e =>
        have ht : t ≠ .exc := fun q => ht q
        have kl : Kp H1 G1 Z (upd H1 p (.tup (cs.map fun c => V.ty c.name))) G1 := Kp.laid hp
        have okl := ok1.laid (o := .tup (cs.map fun c => V.ty c.name)) hp
        exact ⟨v, p, _, _, _, _, rfl, upd_same, clsv_all cs, tg_of okl (r1.mono kl.keep) e ht, kitAny_of ht cs, k _ _ _ _ h1 (k1.trans kl) okl (.bl _)⟩
      · exact h1.elim⟩
/-- the tuple of written classes -/
theorem pa_tys : ∀ {es : List Expr} {cs : List Tg}, PA X es (fun _ H Q => Q (cs.map fun c => V.ty c.name) H) → cs.length ≤ sizeLine → ∀ {x1 : Nat} {pos : Pos}, PE X (.Tuple es x1 pos) (tysT cs) :=
  fun h hz _ _ => PE.mono (pe_tup h) fun σ H Q q => ⟨by rw [List.length_map]; exact hz, q⟩
theorem pa_ty0 : PA X [] (fun _ H Q => Q (([] : List Tg).map fun c => V.ty c.name) H) := pa_nil
theorem pa_tyc {es : List Expr} {c : Tg} {cs : List Tg} (h : PE X e (tC (.ty c.name))) (hr : PA X es (fun _ H Q => Q (cs.map fun c => V.ty c.name) H)) (hs : starEach (e :: es) X.env = (false, eval e X.env) :: starEach es X.env := by rfl) :
    PA X (e :: es) (fun _ H Q => Q ((c :: cs).map fun c => V.ty c.name) H) := pa_cons h hr hs
end

/-! ### in, not in -/
def flatD : D → Bool
  | .non => true
  | .bl _ => true
  | .int _ => true
  | .str _ => true
  | _ => false
def eqD : D → D → Bool
  | .non, .non => true
  | .bl a, .bl b => a == b
  | .bl a, .int b => (if a then 1 else 0) == b
  | .int a, .bl b => a == (if b then 1 else 0)
  | .int a, .int b => a == b
  | .str a, .str b => a == b
  | _, _ => false
theorem Rep.flat {K : PySem.W.Frag} {W : Hp} {x : D} {v : V} (r : Rep K W x v) (h : flatD x = true) : flatV v = true := by cases r <;> first | rfl | (simp [flatD] at h)
theorem Reps.flat {K : PySem.W.Frag} {W : Hp} : ∀ {ds : List D} {vs : List V}, Reps K W ds vs → ds.all flatD = true → vs.all flatV = true
  | _, _, .nil, _ => rfl
  | _, _, .cons h r, e => by
    rw [List.all_cons, Bool.and_eq_true] at e ⊢
    exact ⟨h.flat e.1, Reps.flat r e.2⟩
theorem Rep.eqD {K : PySem.W.Frag} {W : Hp} {x y : D} {v u : V} (r : Rep K W x v) (q : Rep K W y u) (hx : flatD x = true) (hy : flatD y = true) : eqV v u = DL.eqD x y := by
  cases r <;> cases q <;> first | rfl | (simp [flatD] at hx) | (simp [flatD] at hy)
def inD (x : D) (ds : List D) : Bool := ds.any fun y => eqD y x
theorem inD_of {K : PySem.W.Frag} {W : Hp} {x : D} {v : V} (r : Rep K W x v) (hx : flatD x = true) : ∀ {ds : List D} {vs : List V}, Reps K W ds vs → ds.all flatD = true → inV v vs = inD x ds
  | _, _, .nil, _ => rfl
  | _, _, .cons h q, e => by
    rw [List.all_cons, Bool.and_eq_true] at e
    have ih := inD_of r hx q e.2
    unfold inV inD at *
    rw [List.any_cons, List.any_cons, ih, h.eqD r e.1 hx]
/-- flat things in a list or tuple; one sign in a text -/
def dInR (neg : Bool) : DR2 := fun x y G Q => match y with
  | .str z => ∃ c, x = .str ⟨#[c]⟩ ∧ Q (.bl (if neg then !decide (c ∈ z.cps.toList) else decide (c ∈ z.cps.toList))) G
  | y => match sqOf G y with
    | some ds => flatD x = true ∧ ds.all flatD = true ∧ Q (.bl (if neg then !inD x ds else inD x ds)) G
    | none => False
section
variable {X : Cx}
theorem in_flat {K : PySem.W.Frag} {H : Hp} {G : GHp} {Z : Addr → Bool} {x y : D} {v u : V} {neg : Bool} {Q : VK} {Q0 : DK} (ok : Ok K H G Z) (r1 : Rep K (U H G Z) x v) (r2 : Rep K (U H G Z) y u)
    (h : match sqOf G y with
      | some ds => flatD x = true ∧ ds.all flatD = true ∧ Q0 (.bl (if neg then !inD x ds else inD x ds)) G
      | none => False) (k : ∀ d G' v' H', Q0 d G' → Kp H G Z H' G' → Ok K H' G' Z → Rep K (U H' G' Z) d v' → Q v' H') : rIn K neg v u H Q := by
  have lst : (match lsOf G y with
      | some ds => flatD x = true ∧ ds.all flatD = true ∧ Q0 (.bl (if neg then !inD x ds else inD x ds)) G
      | none => False) → rIn K neg v u H Q := by
    intro h
    split at h
    · next ds e =>
      obtain ⟨a, vs, rfl, ha, ra⟩ := lsOf_of ok r2 e
      exact ⟨a, vs, rfl, .inl (SqL.of ha), r1.flat h.1, ra.flat h.2.1, k _ _ _ _ h.2.2 .refl ok (by rw [inD_of r1 h.1 ra h.2.1]; exact .bl _)⟩
    · exact h.elim
  cases r2 with
  | tup q s => exact ⟨_, _, rfl, .inr (TupAt.sq U_le q), r1.flat h.1, s.flat h.2.1, k _ _ _ _ h.2.2 .refl ok (by rw [inD_of r1 h.1 s h.2.1]; exact .bl _)⟩
  | _ => exact lst h
theorem dop_in : DOp X (compareOp .In) (dInR false) :=
  OpR.imp (OpR.or op_in_sign op_in_seq) fun v u H Q ⟨x, y, G, Z, Q0, ok, r1, r2, h, k⟩ => by
    cases r2 with
    | str z =>
      obtain ⟨c, rfl, q⟩ := h
      cases r1
      exact .inl ⟨c, z, rfl, rfl, k _ _ _ _ q .refl ok (.bl _)⟩
    | non => exact .inr (in_flat ok r1 .non h k)
    | bl b => exact .inr (in_flat ok r1 (.bl b) h k)
    | int b => exact .inr (in_flat ok r1 (.int b) h k)
    | ty b => exact .inr (in_flat ok r1 (.ty b) h k)
    | scr q s => exact .inr (in_flat ok r1 (.scr q s) h k)
    | ref b => exact .inr (in_flat ok r1 (.ref b) h k)
    | tup q s => exact .inr (in_flat ok r1 (.tup q s) h k)
    | lst q s => exact .inr (in_flat ok r1 (.lst q s) h k)
    | dct q e s => exact .inr (in_flat ok r1 (.dct q e s) h k)
    | dcT q e s => exact .inr (in_flat ok r1 (.dcT q e s) h k)
theorem dop_notIn : DOp X (compareOp .NotIn) (dInR true) :=
  OpR.imp (OpR.or op_notIn_sign op_notIn_seq) fun v u H Q ⟨x, y, G, Z, Q0, ok, r1, r2, h, k⟩ => by
    cases r2 with
    | str z =>
      obtain ⟨c, rfl, q⟩ := h
      cases r1
      exact .inl ⟨c, z, rfl, rfl, k _ _ _ _ q .refl ok (.bl _)⟩
    | non => exact .inr (in_flat ok r1 .non h k)
    | bl b => exact .inr (in_flat ok r1 (.bl b) h k)
    | int b => exact .inr (in_flat ok r1 (.int b) h k)
    | ty b => exact .inr (in_flat ok r1 (.ty b) h k)
    | scr q s => exact .inr (in_flat ok r1 (.scr q s) h k)
    | ref b => exact .inr (in_flat ok r1 (.ref b) h k)
    | tup q s => exact .inr (in_flat ok r1 (.tup q s) h k)
    | lst q s => exact .inr (in_flat ok r1 (.lst q s) h k)
    | dct q e s => exact .inr (in_flat ok r1 (.dct q e s) h k)
    | dcT q e s => exact .inr (in_flat ok r1 (.dcT q e s) h k)
end

/-! ### methods of lists -/
abbrev DMt := D → List D → GHp → DK → Prop
def cMt (K : PySem.W.Frag) (r : DMt) : V → List V → Hp → VK → Prop := fun v us H Q => ∃ (x : D) (ds : List D) (G : GHp) (Z : Addr → Bool) (Q0 : DK), Ok K H G Z ∧ Rep K (U H G Z) x v ∧ Reps K (U H G Z) ds us ∧ r x ds G Q0 ∧
  ∀ d G' v' H', Q0 d G' → Kp H G Z H' G' → Ok K H' G' Z → Rep K (U H' G' Z) d v' → Q v' H'
theorem MtR.imp {X : Cx} {id : String} {r r' : V → List V → Hp → VK → Prop} (ho : MtR X id r) (h : ∀ x xs H Q, r' x xs H Q → r x xs H Q) : MtR X id r' := fun pins s σ H x xs v us Q I rx rs q => ho pins s σ H x xs v us Q I rx rs (h x xs H Q q)
/-- the receiver is a list -/
def dMtL (r : DMt) (to : DTE) (t : DTA) : DTE := fun δ G Q => to δ G fun x G1 => match lsOf G1 x with
  | some _ => t δ G1 fun ds G2 => r x ds G2 Q
  | none => False
section
variable {X : Cx} {o e : Expr} {es : List Expr} {to : DTE} {t : DTA} {name : Str} {apos cpos : Pos} {id : String} {r : DMt}
theorem de_mtL (slot : Slot "list" name id) (hty : typeOf (.builtin id) = pure (.type "method_descriptor")) (hm : MtR X id (cMt X.K r)) (ho : DE X o to) (ha : DA X (e :: es) t)
    (hbase : attributeBase o name X.env (eval o X.env) = eval o X.env := by rfl)
    (hfew : ((backTo cpos (starEach (e :: es) X.env)).all (fun x => !x.1) && (backToKw cpos (keywordEach [] X.env)).all (fun x => x.1.isSome)
      && decide ((e :: es).length + ([] : List Keyword).length + (if ([] : List Keyword).isEmpty then 0 else 1) < 30)) = true := by rfl)
    (hline : (apos.endLine == cpos.line) = true := by rfl) (hs : starEach (e :: es) X.env = (false, eval e X.env) :: starEach es X.env := by rfl) (hplain : (backTo cpos (starEach es X.env)).any (·.1) = false := by rfl) :
    DE X (.Call (.Attribute o name apos) (e :: es) [] cpos) (dMtL r to t) :=
  PE.mono (pe_bm PySem.F.plainAttrs_list slot hty hm ho ha hbase hfew hline hs hplain) fun σ H Q ⟨δ, G, Z, Q0, ok, rs, h, k⟩ =>
    ⟨δ, G, Z, _, ok, rs, h, fun x G1 v H1 h1 k1 ok1 r1 => by
      have h1 : (match lsOf G1 x with | some _ => t δ G1 fun ds G2 => r x ds G2 Q0 | none => False) := h1
      split at h1
      · next ds0 e =>
        obtain ⟨a, vs, rfl, ha, ra⟩ := lsOf_of ok1 r1 e
        exact ⟨.inl ⟨rfl, vs, SqL.of ha⟩, δ, G1, Z, _, ok1, rs.mono k1.keep, h1, fun ds G2 us H2 h2 k2 ok2 r2 => ⟨x, ds, G2, Z, Q0, ok2, r1.mono k2.keep, r2, h2, fun d G' v' H' q k3 ok3 r3 => k _ _ _ _ q (k1.trans (k2.trans k3)) ok3 r3⟩⟩
      · exact h1.elim⟩
theorem de_mtL0 (slot : Slot "list" name id) (hty : typeOf (.builtin id) = pure (.type "method_descriptor")) (hm : MtR X id (cMt X.K r)) (ho : DE X o to)
    (hbase : attributeBase o name X.env (eval o X.env) = eval o X.env := by rfl) (hline : (apos.endLine == cpos.line) = true := by rfl) : DE X (.Call (.Attribute o name apos) [] [] cpos) (dMtL r to dNil) :=
  PE.mono (pe_bm0 PySem.F.plainAttrs_list slot hty hm ho hbase hline) fun σ H Q ⟨δ, G, Z, Q0, ok, rs, h, k⟩ =>
    ⟨δ, G, Z, _, ok, rs, h, fun x G1 v H1 h1 k1 ok1 r1 => by
      have h1 : (match lsOf G1 x with | some _ => r x [] G1 Q0 | none => False) := h1
      split at h1
      · next ds0 e =>
        obtain ⟨a, vs, rfl, ha, ra⟩ := lsOf_of ok1 r1 e
        exact ⟨.inl ⟨rfl, vs, SqL.of ha⟩, x, [], G1, Z, Q0, ok1, r1, .nil, h1, fun d G' v' H' q k3 ok3 r3 => k _ _ _ _ q (k1.trans k3) ok3 r3⟩
      · exact h1.elim⟩
/-- the tracked list itself -/
def onL (x : D) (G : GHp) (f : Addr → List D → Prop) : Prop := match x with
  | .ref a => match G a with
    | some (.lst ds) => f a ds
    | _ => False
  | _ => False
theorem onL_inv {x : D} {G : GHp} {f : Addr → List D → Prop} (h : onL x G f) : ∃ a ds, x = .ref a ∧ G a = some (.lst ds) ∧ f a ds := by
  cases x with
  | ref a =>
    unfold onL at h
    simp only at h
    cases e : G a with
    | none => rw [e] at h; exact h.elim
    | some o =>
      rw [e] at h
      cases o with
      | lst ds => exact ⟨a, ds, rfl, e, h⟩
      | _ => exact h.elim
  | _ => exact False.elim h
theorem wrote_l {K : PySem.W.Frag} {H : Hp} {G : GHp} {Z : Addr → Bool} {a : Addr} {ds ds' : List D} {vs' : List V} (ok : Ok K H G Z) (e : G a = some (.lst ds)) (r : Reps K (U H G Z) ds' vs') :
    Kp H G Z (upd H a (.lst vs')) (gupd G a (.lst ds')) ∧ Ok K (upd H a (.lst vs')) (gupd G a (.lst ds')) Z := by
  have hz := (ok.ok a _ e).1
  have kk : Kp H G Z (upd H a (.lst vs')) (gupd G a (.lst ds')) := Kp.wrote e hz
  exact ⟨kk, ok.wrote e ⟨_, upd_same, r.mono kk.keep⟩⟩
def dAppend : DMt := fun x ds G Q => match ds with
  | [y] => onL x G fun a xs => xs.length < sizeLine ∧ Q .non (gupd G a (.lst (xs ++ [y])))
  | _ => False
theorem dmt_append : MtR X "list.append" (cMt X.K dAppend) :=
  MtR.imp mt_append fun v us H Q ⟨x, ds, G, Z, Q0, ok, r, rs, h, k⟩ => by
    rcases rs with _ | ⟨r1, rs⟩
    · exact False.elim h
    rcases rs with _ | ⟨r2, rs⟩
    · obtain ⟨a, xs, rfl, e, h1, h2⟩ := onL_inv h
      cases r
      obtain ⟨hz, vs, hv, rv⟩ := ok.ok a _ e
      obtain ⟨kk, ok'⟩ := wrote_l ok e (rv.append (.cons r1 .nil))
      exact ⟨a, vs, _, rfl, rfl, hv, by rw [← rv.length]; exact h1, k _ _ _ _ h2 kk ok' .non⟩
    · exact False.elim h
def dExtend : DMt := fun x ds G Q => match ds with
  | [y] => onL x G fun a xs => match lsOf G y with
    | some zs => xs.length + zs.length ≤ sizeLine ∧ Q .non (gupd G a (.lst (xs ++ zs)))
    | none => False
  | _ => False
theorem dmt_extend : MtR X "list.extend" (cMt X.K dExtend) :=
  MtR.imp mt_extend fun v us H Q ⟨x, ds, G, Z, Q0, ok, r, rs, h, k⟩ => by
    rcases rs with _ | ⟨r1, rs⟩
    · exact False.elim h
    rcases rs with _ | ⟨r2, rs⟩
    · obtain ⟨a, xs, rfl, e, h⟩ := onL_inv h
      split at h
      · next zs ez =>
        cases r
        obtain ⟨hz, vs, hv, rv⟩ := ok.ok a _ e
        obtain ⟨b, us, rfl, hb, rb⟩ := lsOf_of ok r1 ez
        obtain ⟨kk, ok'⟩ := wrote_l ok e (rv.append rb)
        exact ⟨a, b, vs, us, rfl, rfl, hv, hb, by rw [← rv.length, ← rb.length]; exact h.1, k _ _ _ _ h.2 kk ok' .non⟩
      · exact h.elim
    · exact False.elim h
/-- xs.pop(), xs.pop(i) -/
def dPop : DMt := fun x ds G Q => match ds with
  | [] => onL x G fun a xs => match xs[xs.length - 1]? with
    | some y => Q y (gupd G a (.lst xs.dropLast))
    | none => False
  | [.int i] => onL x G fun a xs => match ixN xs.length i with
    | some j => match xs[j]? with
      | some y => -(2 ^ 63) ≤ i ∧ i < 2 ^ 63 ∧ Q y (gupd G a (.lst (xs.eraseIdx j)))
      | none => False
    | none => False
  | _ => False
theorem Reps.eraseIdx {K : PySem.W.Frag} {W : Hp} : ∀ {ds : List D} {vs : List V} (i : Nat), Reps K W ds vs → Reps K W (ds.eraseIdx i) (vs.eraseIdx i)
  | _, _, _, .nil => .nil
  | _, _, 0, .cons h r => r
  | _, _, i + 1, .cons h r => .cons h (Reps.eraseIdx i r)
theorem Reps.dropLast {K : PySem.W.Frag} {W : Hp} {ds : List D} {vs : List V} (r : Reps K W ds vs) : Reps K W ds.dropLast vs.dropLast := by
  rw [List.dropLast_eq_take, List.dropLast_eq_take, r.length]
  exact r.take _
theorem dmt_pop : MtR X "list.pop" (cMt X.K dPop) :=
  MtR.imp (MtR.or mt_pop mt_popAt) fun v us H Q ⟨x, ds, G, Z, Q0, ok, r, rs, h, k⟩ => by
    rcases rs with _ | ⟨r1, rs⟩
    · obtain ⟨a, xs, rfl, e, h⟩ := onL_inv h
      split at h
      · next y ey =>
        cases r
        obtain ⟨hz, vs, hv, rv⟩ := ok.ok a _ e
        obtain ⟨w, e1, r1⟩ := rv.get ey
        obtain ⟨kk, ok'⟩ := wrote_l ok e rv.dropLast
        exact .inl ⟨a, vs, w, rfl, rfl, hv, by rw [← rv.length]; exact e1, k _ _ _ _ h kk ok' (r1.mono kk.keep)⟩
      · exact h.elim
    rcases rs with _ | ⟨r2, rs⟩
    · cases r1 with
      | int i =>
        obtain ⟨a, xs, rfl, e, h⟩ := onL_inv h
        split at h
        · next j ej =>
          split at h
          · next y ey =>
            cases r
            obtain ⟨hz, vs, hv, rv⟩ := ok.ok a _ e
            obtain ⟨w, e1, r1⟩ := rv.get ey
            obtain ⟨kk, ok'⟩ := wrote_l ok e (rv.eraseIdx j)
            obtain ⟨s1, s2, s3, s4⟩ := ixN_seq ej
            exact .inr ⟨a, vs, i, j, w, rfl, rfl, hv, h.1, h.2.1, by rw [← rv.length]; exact s1, e1, k _ _ _ _ h.2.2 kk ok' (r1.mono kk.keep)⟩
          · exact h.elim
        · exact h.elim
      | _ => exact False.elim h
    · cases r1 <;> exact False.elim h
def dReverse : DMt := fun x ds G Q => match ds with
  | [] => onL x G fun a xs => Q .non (gupd G a (.lst xs.reverse))
  | _ => False
theorem dmt_reverse : MtR X "list.reverse" (cMt X.K dReverse) :=
  MtR.imp mt_reverse fun v us H Q ⟨x, ds, G, Z, Q0, ok, r, rs, h, k⟩ => by
    rcases rs with _ | ⟨r1, rs⟩
    · obtain ⟨a, xs, rfl, e, h⟩ := onL_inv h
      cases r
      obtain ⟨hz, vs, hv, rv⟩ := ok.ok a _ e
      obtain ⟨kk, ok'⟩ := wrote_l ok e rv.reverse
      exact ⟨a, vs, rfl, rfl, hv, k _ _ _ _ h kk ok' .non⟩
    · exact False.elim h
def dClear : DMt := fun x ds G Q => match ds with
  | [] => onL x G fun a _ => Q .non (gupd G a (.lst []))
  | _ => False
theorem dmt_clear : MtR X "list.clear" (cMt X.K dClear) :=
  MtR.imp mt_clear fun v us H Q ⟨x, ds, G, Z, Q0, ok, r, rs, h, k⟩ => by
    rcases rs with _ | ⟨r1, rs⟩
    · obtain ⟨a, xs, rfl, e, h⟩ := onL_inv h
      cases r
      obtain ⟨hz, vs, hv, rv⟩ := ok.ok a _ e
      obtain ⟨kk, ok'⟩ := wrote_l ok e .nil
      exact ⟨a, vs, rfl, rfl, hv, k _ _ _ _ h kk ok' .non⟩
    · exact False.elim h
end
end DL
set_option Elab.async false
set_option linter.all false
set_option maxRecDepth 100000
set_option maxHeartbeats 1000000
/-! DL, part 6: keywords alone, more statements, defs by their number of parameters, the law's end. -/
namespace DL
open PySem PySem.Spec L2

/-! ### keywords -/
/-- the values in the parameters' order -/
def kperm {α : Type} (ix : List Nat) (us ws : List α) : List α := ix.filterMap fun i => (us ++ ws)[i]?
theorem Reps.pick {K : PySem.W.Frag} {W : Hp} {ds : List D} {vs : List V} (r : Reps K W ds vs) : ∀ ix : List Nat, Reps K W (ix.filterMap fun i => ds[i]?) (ix.filterMap fun i => vs[i]?)
  | [] => .nil
  | i :: ix => by
    have ih := Reps.pick r ix
    rw [List.filterMap_cons, List.filterMap_cons]
    cases e : ds[i]? with
    | none =>
      have e2 : vs[i]? = none := by
        rw [List.getElem?_eq_none_iff] at e ⊢
        rw [← r.length]; exact e
      rw [e2]; exact ih
    | some d =>
      obtain ⟨v, e2, r2⟩ := r.get e
      rw [e2]; exact .cons r2 ih
theorem Reps.kperm {K : PySem.W.Frag} {W : Hp} (ix : List Nat) {ds es : List D} {vs us : List V} (r : Reps K W ds vs) (q : Reps K W es us) : Reps K W (DL.kperm ix ds es) (DL.kperm ix vs us) := (r.append q).pick ix
theorem Vals.pick {vs : List V} {us : List Value} (r : Vals vs us) : ∀ ix : List Nat, Vals (ix.filterMap fun i => vs[i]?) (ix.filterMap fun i => us[i]?)
  | [] => .nil
  | i :: ix => by
    have ih := Vals.pick r ix
    rw [List.filterMap_cons, List.filterMap_cons]
    cases e : vs[i]? with
    | none => rw [r.none_of e]; exact ih
    | some d =>
      obtain ⟨v, e2, r2⟩ := r.get e
      rw [e2]; exact .cons r2 ih
/-- a plain def called with keywords -/
theorem kbn_of {K : PySem.W.Frag} {fd : FuncData} {ps ks : List Str} {n : Nat} (ix : List Nat) (h : ∀ (s : Shared) (us ws : List Value), us.length = n → ws.length = ks.length → BindsTo s fd ⟨us, ks.zip ws⟩ (ps.zip (kperm ix us ws))) : KBn K fd ps n ks (kperm ix) (kperm ix) :=
  ⟨fun s us ws _ h1 h2 => h s us ws h1 h2, fun r z => Vals.pick (Vals.append r z) ix⟩
section
variable {X : Cx} {CX : CXT} {k : Nat} {f C : Addr} {fd : FuncData} {ps ks : List Str} {E : XK} {x m : Str} {p pos apos : Pos} {e o : Expr} {es : List Expr} {kws : List Keyword}
theorem pe_callN0 {sp : Sp} {tk : TA} {g : List Value → List Value → List Value} {gV : List V → List V → List V} (F : FnOk X.prog X.w X.K X.mg X.base CX k f fd ps sp) (hr : Room k X.A) (hg : Gl X x) (hm : X.mg x = some (.ref f)) (hk : PySem.W.keepIn X.K (.ref f) = true) (hb : KBn X.K fd ps 0 ks g gV) (hx : Passes CX X E)
    (hkw : PK X kws tk) (hall : (backToKw pos (keywordEach kws X.env)).all (·.1.isSome) = true := by rfl) (hks : (backToKw pos (keywordEach kws X.env)).filterMap (·.1) = ks := by rfl)
    (hdb : (x == ("__debug__" : Str)) = false := by decide) (hpl : ((backTo pos (starEach [] X.env)).any (·.1) || (backToKw pos (keywordEach kws X.env)).any (·.1.isNone)) = false := by rfl) :
    PE X (.Call (.Name x p) [] kws pos) (fun σ H Q => tk σ H fun zs H2 => zs.length = ks.length ∧ sp (gV [] zs) H2 Q E) := by
  constructor
  intro pins s σ H Q I h
  apply wpAny_Call_Name_kw
  apply ld_glob I hg hm _ hdb
  apply PySem.W.callWith_KW0 (h₀ := X.base) I.ok.mod.kin hk hall _ hpl
  refine thn (hkw.run pos pins s σ H _ I h) fun ws s2 ⟨zs, H2, I2, rz, l2, q2⟩ => ⟨I2.kIn, ?_⟩
  rw [hks]
  exact run_fnN (us := []) F hr hb hx I2 .nil rz rfl l2 q2
theorem de_callN0 {sp : DSp} {tk : DTA} {g : List Value → List Value → List Value} {gV : List V → List V → List V} {gD : List D → List D → List D} (F : FnOk X.prog X.w X.K X.mg X.base CX k f fd ps (cSp X.K sp)) (hr : Room k X.A) (hg : Gl X x) (hm : X.mg x = some (.ref f)) (hk : PySem.W.keepIn X.K (.ref f) = true) (hb : KBn X.K fd ps 0 ks g gV)
    (hgD : ∀ W ds vs es us, Reps X.K W ds vs → Reps X.K W es us → Reps X.K W (gD ds es) (gV vs us)) (hx : Passes CX X E)
    (hkw : DKw X kws tk) (hall : (backToKw pos (keywordEach kws X.env)).all (·.1.isSome) = true := by rfl) (hks : (backToKw pos (keywordEach kws X.env)).filterMap (·.1) = ks := by rfl)
    (hdb : (x == ("__debug__" : Str)) = false := by decide) (hpl : ((backTo pos (starEach [] X.env)).any (·.1) || (backToKw pos (keywordEach kws X.env)).any (·.1.isNone)) = false := by rfl) :
    DE X (.Call (.Name x p) [] kws pos) (dCallN 0 ks.length sp gD dNil tk) :=
  PE.mono (pe_callN0 F hr hg hm hk hb hx hkw hall hks hdb hpl) fun σ H Q ⟨δ, G, Z, Q0, ok, rs, h, k⟩ =>
    ⟨δ, G, Z, _, ok, rs, h, fun es G2 us H2 h2 k2 ok2 r2 => ⟨r2.length.symm.trans h2.2.1, _, G2, Z, Q0, _, ok2, hgD _ _ _ _ _ .nil r2, h2.2.2, fun d G' v H' q k3 ok3 r3 => k _ _ _ _ q (k2.trans k3) ok3 r3, .none⟩⟩
end

/-! ### more statements -/
section
variable {X : Cx} {e : Expr} {te : DTE} {pos : Pos}
/-- name op= e -/
def dAug (i : Nat) (te : DTE) (r : DR2) : DTS := fun D δ G => match δ[i]? with
  | some (some x) => te δ G fun y G1 => r x y G1 fun z G2 => D.nx (δ.set i (some z)) G2
  | _ => False
theorem ds_aug {i : Nat} {x : Str} {op : Operator} {r : DR2} {pos' : Pos} (hN : X.N.Nodup) (hi : X.N[i]? = some x) (hx : Loc X.env.scope x) (he : DE X e te) (ho : DOp X (inplaceOp op) r) (hf : X.fn x = true ∨ X.env.scope.names.lookup x = some .local := by first | exact .inl rfl | exact .inr rfl | assumption) :
    DS X W (.AugAssign (.Name x pos') op e pos) (dAug i te r) :=
  PS.mono (ps_aug hN hi hx he (show PIp X op (cR2 X.K r) from ho) hf) fun E σ H ⟨δ, G, Z, D0, ok, rs, h, l⟩ => by
    unfold dAug at h
    split at h
    · next d ed =>
      obtain ⟨v, ev, rv⟩ := rs.get ed
      exact ⟨v, ev, δ, G, Z, _, ok, rs, h, fun y G1 u H1 h1 k1 ok1 r1 => ⟨d, y, G1, Z, _, ok1, rv.mono k1.keep, r1, h1, fun z G2 w H2 h2 k2 ok2 r2 => l.nx _ _ _ _ h2 (k1.trans k2) ok2 ((rs.mono (k1.trans k2).keep).set r2 i)⟩⟩
    · exact h.elim
/-- a, b, c = x, y, z -/
def dPar3 (i j l : Nat) (ta : DTA) : DTS := fun D δ G => ta δ G fun ds G1 => match ds with
  | [u, v, w] => D.nx (((δ.set i (some u)).set j (some v)).set l (some w)) G1
  | _ => False
theorem ds_par3 {i j l : Nat} {x y z : Str} {a b c : Expr} {ta : DTA} {px py pz pt : Pos} {kt k2 pt2} (hc : X.calm = true) (hN : X.N.Nodup) (hi : X.N[i]? = some x) (hj : X.N[j]? = some y) (hl : X.N[l]? = some z) (hij : i ≠ j) (hil : i ≠ l) (hjl : j ≠ l)
    (hx : X.env.scope.names.lookup x = some .local) (hy : X.env.scope.names.lookup y = some .local) (hz : X.env.scope.names.lookup z = some .local) (ha : DA X [a, b, c] ta)
    (hw : swappedStores [.Tuple [.Name x px, .Name y py, .Name z pz] kt pt] (.Tuple [a, b, c] k2 pt2) X.env = pure (some [x, y, z]))
    (hs : swapsWithSole [.Tuple [.Name x px, .Name y py, .Name z pz] kt pt] (.Tuple [a, b, c] k2 pt2) pos.line X.env = pure false := by rfl) :
    DS X W (.Assign [.Tuple [.Name x px, .Name y py, .Name z pz] kt pt] (.Tuple [a, b, c] k2 pt2) pos) (dPar3 i j l ta) :=
  PS.mono (ps_par3 hc hN hi hj hl hij hil hjl hx hy hz ha hw hs) fun E σ H ⟨δ, G, Z, D0, ok, rs, h, l⟩ =>
    ⟨δ, G, Z, _, ok, rs, h, fun ds G1 vs H1 h1 k1 ok1 r1 => by
      rcases r1 with _ | ⟨ra, r1⟩
      · exact False.elim h1
      rcases r1 with _ | ⟨rb, r1⟩
      · exact False.elim h1
      rcases r1 with _ | ⟨rc, r1⟩
      · exact False.elim h1
      rcases r1 with _ | ⟨rd, r1⟩
      · exact ⟨_, _, _, rfl, l.nx _ _ _ _ h1 k1 ok1 ((((rs.mono k1.keep).set ra _).set rb _).set rc _)⟩
      · exact False.elim h1⟩
/-- list(range(..)) -/
def dListRg1 (m : Bool) (ta : DTE) : DTE := fun δ G Q => ta δ G fun x G1 => match x with
  | .int n => RgOk 0 n ∧ lcEnd m (rngD 0 n.toNat) G1 Q
  | _ => False
def dListRg2 (m : Bool) (ta tb : DTE) : DTE := fun δ G Q => ta δ G fun x G1 => tb δ G1 fun y G2 => match x, y with
  | .int i, .int j => RgOk i j ∧ lcEnd m (rngD i (j - i).toNat) G2 Q
  | _, _ => False
theorem rg_rep {K : PySem.W.Frag} {W : Hp} (a b : Int) : Reps K W (rngD a (b - a).toNat) (rgV a b) := by
  unfold rngD rgV
  have e1 : (List.range (b - a).toNat).map (fun (i : Nat) => D.int (a + i)) = ((List.range (b - a).toNat).map fun (i : Nat) => (a + i : Int)).map D.int := by rw [List.map_map]; rfl
  have e2 : (List.range (b - a).toNat).map (fun (i : Nat) => V.int (a + i)) = ((List.range (b - a).toNat).map fun (i : Nat) => (a + i : Int)).map V.int := by rw [List.map_map]; rfl
  rw [e1, e2]
  exact Reps.of_ints _
theorem de_listRg1 (m : Bool) {a : Expr} {ta : DTE} {p p2 pos2 : Pos} (hc : X.calm = true) (hg : Gl X "list") (hm : X.mg "list" = none) (hg2 : Gl X "range") (hm2 : X.mg "range" = none) (ha : DE X a ta)
    (na : starEach [a] X.env = (false, eval a X.env) :: starEach [] X.env := by rfl) (nl : starEach [Expr.Call (.Name "range" p2) [a] [] pos2] X.env = (false, eval (.Call (.Name "range" p2) [a] [] pos2) X.env) :: starEach [] X.env := by rfl) :
    DE X (.Call (.Name "list" p) [.Call (.Name "range" p2) [a] [] pos2] [] pos) (dListRg1 m ta) :=
  PE.mono (pe_listRg hc hg hm (prg_1 hg2 hm2 ha na) nl) fun σ H Q ⟨δ, G, Z, Q0, ok, rs, h, k⟩ =>
    ⟨δ, G, Z, _, ok, rs, h, fun x G1 v H1 h1 k1 ok1 r1 => by
      cases r1 with
      | int n =>
        have h1 : RgOk 0 n ∧ lcEnd m (rngD 0 n.toNat) G1 Q0 := h1
        refine ⟨n, rfl, h1.1, fun q hq => lcEnd_of (m := m) ok1 hq (rg_rep 0 n) ?_ fun d G' v' H' q k2 ok2 r2 => k _ _ _ _ q (k1.trans k2) ok2 r2⟩
        rw [show (n - 0) = n by omega]
        exact h1.2
      | _ => exact False.elim h1⟩
theorem de_listRg2 (m : Bool) {a b : Expr} {ta tb : DTE} {p p2 pos2 : Pos} (hc : X.calm = true) (hg : Gl X "list") (hm : X.mg "list" = none) (hg2 : Gl X "range") (hm2 : X.mg "range" = none) (ha : DE X a ta) (hb : DE X b tb)
    (na : starEach [a, b] X.env = (false, eval a X.env) :: starEach [b] X.env := by rfl) (nb : starEach [b] X.env = (false, eval b X.env) :: starEach [] X.env := by rfl) (hp : (backTo pos2 (starEach [b] X.env)).any (·.1) = false := by rfl)
    (nl : starEach [Expr.Call (.Name "range" p2) [a, b] [] pos2] X.env = (false, eval (.Call (.Name "range" p2) [a, b] [] pos2) X.env) :: starEach [] X.env := by rfl) :
    DE X (.Call (.Name "list" p) [.Call (.Name "range" p2) [a, b] [] pos2] [] pos) (dListRg2 m ta tb) :=
  PE.mono (pe_listRg hc hg hm (prg_2 hg2 hm2 ha hb na nb hp) nl) fun σ H Q ⟨δ, G, Z, Q0, ok, rs, h, k⟩ =>
    ⟨δ, G, Z, _, ok, rs, h, fun x G1 v H1 h1 k1 ok1 r1 => ⟨δ, G1, Z, _, ok1, rs.mono k1.keep, h1, fun y G2 u H2 h2 k2 ok2 r2 => by
      cases r1 with
      | int i =>
        cases r2 with
        | int j => exact ⟨i, j, rfl, rfl, h2.1, fun q hq => lcEnd_of ok2 hq (rg_rep i j) h2.2 fun d G' v' H' q k3 ok3 r3 => k _ _ _ _ q (k1.trans (k2.trans k3)) ok3 r3⟩
        | _ => exact False.elim h2
      | _ => cases r2 <;> exact False.elim h2⟩⟩
/-- str(n) -/
def dStrR (x : D) (G : GHp) (Q : DK) : Prop := match x with
  | .int i => i.natAbs.log2 < 1920 ∧ Q (.str (toString i)) G
  | _ => False
theorem dcall_str : DCall X (.type "str") (dR1 dStrR) :=
  dcall1 call_str_int fun x v H G Z Q Q0 ok r h k => by
    cases r with
    | int i => exact ⟨i, rfl, h.1, k _ _ _ _ h.2 .refl ok (.str _)⟩
    | _ => exact False.elim h
/-- sep.join(a list of texts) -/
def strsOf : List D → Option (List Str)
  | [] => some []
  | .str i :: r => (strsOf r).map (i :: ·)
  | _ :: _ => none
theorem strsOf_map : ∀ ns : List Str, strsOf (ns.map D.str) = some ns
  | [] => rfl
  | n :: r => by simp [strsOf, strsOf_map r]
theorem strsOf_eq : ∀ {ds : List D} {ns : List Str}, strsOf ds = some ns → ds = ns.map D.str
  | [], ns, e => by simp [strsOf] at e; subst e; rfl
  | d :: r, ns, e => by
    cases d with
    | str i =>
      simp only [strsOf] at e
      cases q : strsOf r with
      | none => rw [q] at e; simp at e
      | some ms =>
        rw [q] at e
        simp at e
        subst e
        rw [List.map_cons, ← strsOf_eq q]
    | _ => simp [strsOf] at e
def dJoin (to te : DTE) : DTE := fun δ G Q => to δ G fun x G1 => match x with
  | .str a => te δ G1 fun y G2 => match (lsOf G2 y).bind strsOf with
    | some ys => (ys.map (·.length)).sum + ys.length * a.length ≤ 16777216 ∧ Q (.str (Txt.join a ys)) G2
    | none => False
  | _ => False
theorem de_join {o : Expr} {to : DTE} {apos : Pos} (ho : DE X o to) (he : DE X e te) (hs : starEach [e] X.env = [(false, eval e X.env)] := by rfl) (hbase : attributeBase o "join" X.env (eval o X.env) = eval o X.env := by rfl) (hline : (apos.endLine == pos.line) = true := by rfl) :
    DE X (.Call (.Attribute o "join" apos) [e] [] pos) (dJoin to te) :=
  PE.mono (pe_join ho he hs hbase hline) fun σ H Q ⟨δ, G, Z, Q0, ok, rs, h, k⟩ =>
    ⟨δ, G, Z, _, ok, rs, h, fun x G1 v H1 h1 k1 ok1 r1 => by
      cases r1 with
      | str a =>
        refine ⟨⟨a, rfl⟩, δ, G1, Z, _, ok1, rs.mono k1.keep, h1, fun y G2 u H2 h2 k2 ok2 r2 => ?_⟩
        have h2 : (match (lsOf G2 y).bind strsOf with
          | some ys => (ys.map (·.length)).sum + ys.length * a.length ≤ 16777216 ∧ Q0 (.str (Txt.join a ys)) G2
          | none => False) := h2
        split at h2
        · next ys e =>
          cases el : lsOf G2 y with
          | none => rw [el] at e; simp at e
          | some ds =>
            rw [el] at e
            simp only [Option.bind_some] at e
            obtain ⟨b, vs, rfl, hb, rb⟩ := lsOf_of ok2 r2 el
            rw [strsOf_eq e] at rb
            exact ⟨a, b, ys, rfl, rfl, .inl (SqL.of (by rw [hb, rb.strs])), h2.1, k _ _ _ _ h2.2 (k1.trans k2) ok2 (.str _)⟩
        · exact h2.elim
      | _ => exact False.elim h1⟩
end

/-! ### defs by their number of parameters -/
def sp0 (p : GHp → DK → DXK → Prop) : DSp := fun ds G Q E => match ds with
  | [] => p G Q E
  | _ => False
def sp1 (p : D → GHp → DK → DXK → Prop) : DSp := fun ds G Q E => match ds with
  | [a] => p a G Q E
  | _ => False
def sp2 (p : D → D → GHp → DK → DXK → Prop) : DSp := fun ds G Q E => match ds with
  | [a, b] => p a b G Q E
  | _ => False
def sp3 (p : D → D → D → GHp → DK → DXK → Prop) : DSp := fun ds G Q E => match ds with
  | [a, b, c] => p a b c G Q E
  | _ => False
def sp4 (p : D → D → D → D → GHp → DK → DXK → Prop) : DSp := fun ds G Q E => match ds with
  | [a, b, c, d] => p a b c d G Q E
  | _ => False
def sp5 (p : D → D → D → D → D → GHp → DK → DXK → Prop) : DSp := fun ds G Q E => match ds with
  | [a, b, c, d, e] => p a b c d e G Q E
  | _ => False
/-- where a body starts: the parameters, then no values -/
abbrev DRun (t : DTS) (δ : DSt) (G : GHp) (Q : DK) : Prop := t { nx := fun _ G' => Q .non G', rt := Q } δ G
section
variable {P : Program} {w : World} {K : PySem.W.Frag} {mg : Str → Option Value} {base : Heap} {x qual : Str} {st : Stmt} {f : Addr} {fd : FuncData} {N ps : List Str} {k : Nat} {t : DTS} {l : DSt} {dv : List V} {kv : List (Str × V)}
abbrev Der (P : Program) (w : World) (K : PySem.W.Frag) (mg : Str → Option Value) (base : Heap) (N : List Str) (qual : Str) (st : Stmt) (f : Addr) (k : Nat) (t : DTS) : Prop :=
  ∀ (cdv : Value) (A : Around) (outer : List Env) (s : Shared) (H : Hp) (E : XK), Room k (A.deeper (PyProof.Rows.envOfC qual (defScope st) s.heap.objs.size f cdv)) → DSs (cxOf CX0 P w K mg base N qual (defScope st) f cdv A outer s H E).nox W0 (defBody st) t
theorem DFunD.ok {sp : DSp} (F : FunD K x qual (defArgs st) (defBody st) (defScope st) dv kv f fd) (S : FnScope N ps (defScope st)) (len : ∀ ds G Q E, sp ds G Q E → ds.length = ps.length)
    (hbody : ∀ (cdv : Value) (A : Around) (outer : List Env) (s : Shared) (H : Hp) (E : XK) (ds : List D) (G : GHp) (Q : DK) (E0 : DXK), Room k (A.deeper (PyProof.Rows.envOfC qual (defScope st) s.heap.objs.size f cdv)) → sp ds G Q E0 →
      ∃ t, DSs (cxOf CX0 P w K mg base N qual (defScope st) f cdv A outer s H E).nox W0 (defBody st) t ∧ t { nx := fun _ G' => Q .non G', rt := Q } (dstart N ds) G) : FnOk P w K mg base CX0 (k + 1) f fd ps (cSp K sp) := by
  refine F.ok S (fun vs H Q E ⟨ds, G, Z, Q0, E0, ok, rs, h, k, x⟩ => rs.length.symm.trans (len _ _ _ _ h)) fun cdv A outer s H vs Q E hr ⟨ds, G, Z, Q0, E0, ok, rs, h, k, x⟩ => ?_
  obtain ⟨t, d, q⟩ := hbody cdv A outer s H E ds G Q0 E0 hr h
  exact ⟨_, PSs.nox d, _, G, Z, _, ok, RepSt.start rs, q, ⟨fun δ' G' σ' H' q k1 ok1 _ => k _ _ _ _ q k1 ok1 .non, fun _ _ _ _ q => q.elim, fun _ _ _ _ q => q.elim, fun d G' v H' q k1 ok1 r1 => k _ _ _ _ q k1 ok1 r1, fun _ _ _ _ _ q => q.elim, fun _ _ _ _ _ _ _ _ q => q.elim⟩⟩
theorem DFun.ok0 {p : GHp → DK → DXK → Prop} (F : FunD K x qual (defArgs st) (defBody st) (defScope st) dv kv f fd) (S : FnScope N ps (defScope st)) (hp : ps.length = 0) (hl : List.replicate (N.length - 0) none = l) (d : Der P w K mg base N qual st f k t) (rd : ∀ G Q E, p G Q E → DRun t l G Q) :
    FnOk P w K mg base CX0 (k + 1) f fd ps (cSp K (sp0 p)) :=
  DFunD.ok F S (fun ds G Q E h => by
    match ds, h with
    | [], _ => exact hp.symm) fun cdv A outer s H E ds G Q E0 hr h => by
    match ds, h with
    | [], h => exact ⟨t, d cdv A outer s H E hr, by subst hl; exact rd G Q E0 h⟩
theorem DFun.ok1 {p : D → GHp → DK → DXK → Prop} (F : FunD K x qual (defArgs st) (defBody st) (defScope st) dv kv f fd) (S : FnScope N ps (defScope st)) (hp : ps.length = 1) (hl : List.replicate (N.length - 1) none = l) (d : Der P w K mg base N qual st f k t) (rd : ∀ a G Q E, p a G Q E → DRun t (some a :: l) G Q) :
    FnOk P w K mg base CX0 (k + 1) f fd ps (cSp K (sp1 p)) :=
  DFunD.ok F S (fun ds G Q E h => by
    match ds, h with
    | [_], _ => exact hp.symm) fun cdv A outer s H E ds G Q E0 hr h => by
    match ds, h with
    | [a], h => exact ⟨t, d cdv A outer s H E hr, by subst hl; exact rd a G Q E0 h⟩
theorem DFun.ok2 {p : D → D → GHp → DK → DXK → Prop} (F : FunD K x qual (defArgs st) (defBody st) (defScope st) dv kv f fd) (S : FnScope N ps (defScope st)) (hp : ps.length = 2) (hl : List.replicate (N.length - 2) none = l) (d : Der P w K mg base N qual st f k t) (rd : ∀ a b G Q E, p a b G Q E → DRun t (some a :: some b :: l) G Q) :
    FnOk P w K mg base CX0 (k + 1) f fd ps (cSp K (sp2 p)) :=
  DFunD.ok F S (fun ds G Q E h => by
    match ds, h with
    | [_, _], _ => exact hp.symm) fun cdv A outer s H E ds G Q E0 hr h => by
    match ds, h with
    | [a, b], h => exact ⟨t, d cdv A outer s H E hr, by subst hl; exact rd a b G Q E0 h⟩
theorem DFun.ok3 {p : D → D → D → GHp → DK → DXK → Prop} (F : FunD K x qual (defArgs st) (defBody st) (defScope st) dv kv f fd) (S : FnScope N ps (defScope st)) (hp : ps.length = 3) (hl : List.replicate (N.length - 3) none = l) (d : Der P w K mg base N qual st f k t) (rd : ∀ a b c G Q E, p a b c G Q E → DRun t (some a :: some b :: some c :: l) G Q) :
    FnOk P w K mg base CX0 (k + 1) f fd ps (cSp K (sp3 p)) :=
  DFunD.ok F S (fun ds G Q E h => by
    match ds, h with
    | [_, _, _], _ => exact hp.symm) fun cdv A outer s H E ds G Q E0 hr h => by
    match ds, h with
    | [a, b, c], h => exact ⟨t, d cdv A outer s H E hr, by subst hl; exact rd a b c G Q E0 h⟩
theorem DFun.ok4 {p : D → D → D → D → GHp → DK → DXK → Prop} (F : FunD K x qual (defArgs st) (defBody st) (defScope st) dv kv f fd) (S : FnScope N ps (defScope st)) (hp : ps.length = 4) (hl : List.replicate (N.length - 4) none = l) (d : Der P w K mg base N qual st f k t) (rd : ∀ a b c e G Q E, p a b c e G Q E → DRun t (some a :: some b :: some c :: some e :: l) G Q) :
    FnOk P w K mg base CX0 (k + 1) f fd ps (cSp K (sp4 p)) :=
  DFunD.ok F S (fun ds G Q E h => by
    match ds, h with
    | [_, _, _, _], _ => exact hp.symm) fun cdv A outer s H E ds G Q E0 hr h => by
    match ds, h with
    | [a, b, c, e], h => exact ⟨t, d cdv A outer s H E hr, by subst hl; exact rd a b c e G Q E0 h⟩
theorem DFun.ok5 {p : D → D → D → D → D → GHp → DK → DXK → Prop} (F : FunD K x qual (defArgs st) (defBody st) (defScope st) dv kv f fd) (S : FnScope N ps (defScope st)) (hp : ps.length = 5) (hl : List.replicate (N.length - 5) none = l) (d : Der P w K mg base N qual st f k t) (rd : ∀ a b c e g G Q E, p a b c e g G Q E → DRun t (some a :: some b :: some c :: some e :: some g :: l) G Q) :
    FnOk P w K mg base CX0 (k + 1) f fd ps (cSp K (sp5 p)) :=
  DFunD.ok F S (fun ds G Q E h => by
    match ds, h with
    | [_, _, _, _, _], _ => exact hp.symm) fun cdv A outer s H E ds G Q E0 hr h => by
    match ds, h with
    | [a, b, c, e, g], h => exact ⟨t, d cdv A outer s H E hr, by subst hl; exact rd a b c e g G Q E0 h⟩
end
/-- a def of the text: its address, what stands at its name, how its arguments bind -/
structure FnT (K : PySem.W.Frag) (mg : Str → Option Value) (name : Str) (st : Stmt) (ps : List Str) where
  f : Addr
  fd : FuncData
  F : FunD K name name (defArgs st) (defBody st) (defScope st) [] [] f fd
  m : mg name = some (.ref f)
  b : Binds K fd ps []

/-- a plain def called with keywords -/
theorem kb_of_fun {K : PySem.W.Frag} {x qual : Str} {params : Arguments} {body : List Stmt} {scope : Scope} {f : Addr} {fd : FuncData} {ps ks : List Str} {n : Nat} (F : FunD K x qual params body scope [] [] f fd) (ix : List Nat)
    (h : ∀ (kV doc pm : Value) (an : Option Addr) (cdv ct : Value) (us ws : List Value), us.length = n → ws.length = ks.length → bindArgs (PySem.W.fnOf x qual params body scope .none kV doc pm an cdv ct) ⟨us, ks.zip ws⟩ = pure (ps.zip (kperm ix us ws))) : KBn K fd ps n ks (kperm ix) (kperm ix) := by
  obtain ⟨oc, od, dV, kV, doc, pm, an, cdv, ct, osl, rfl, _, _, hd, _⟩ := F.ex
  have e : dV = .none := by
    rcases hd with ⟨_, e⟩ | ⟨e, _⟩
    · exact e
    · exact absurd rfl e
  subst e
  exact kbn_of ix fun s us ws h1 h2 => .of_eq (h kV doc pm an cdv ct us ws h1 h2)

/-! ### the law -/
/-- the law's promise: at every script of at most n ints, each of at most 2 ^ 20 bits, it returns True -/
def spLaw (n : Nat) : DSp := sp1 fun a G Q _ => ∃ ns : List Int, a = .scr (ns.map .int) ∧ ns.length ≤ n ∧ (∀ z ∈ ns, Builtin.Int.intBits z ≤ 1048576) ∧ (∀ a, G a = none) ∧ Q (.bl true) G
theorem law_sp {K : PySem.W.Frag} {H : Hp} {a : Addr} {ns : List Int} {n : Nat} (hn : ns.length ≤ n) (hb : ∀ z ∈ ns, Builtin.Int.intBits z ≤ 1048576) (hs : SqL K H a (ns.map V.int)) :
    cSp K (spLaw n) [.ref a] H (fun v _ => v = .bl true) (fun _ _ _ => False) := by
  refine ⟨[.scr (ns.map .int)], fun _ => none, fun _ => false, fun d _ => d = .bl true, DX0, ⟨fun _ _ e => (nomatch e), fun _ e => (nomatch e)⟩, .cons (.scr (SqL.mono (fun b o e => U_of rfl rfl e) hs) (Reps.of_ints _)) .nil, ⟨ns, rfl, hn, hb, fun _ => rfl, rfl⟩, fun d G' v H' q _ _ r => ?_, .none⟩
  subst q
  cases r
  rfl
theorem walk_law {l : PySem.W.OpenLaw} {n k : Nat} {q : Program} {loose : List Str} {XP : (Str → Option Value) → Heap → Prop} {YP : World → Heap → Prop} {d : DefRec} {K : Params → PySem.W.Frag} {x : Str}
    (hn : l.most = some n) (hn2 : n ≤ sizeLine) (hdf : d.params.defaults = []) (hr : Room k callerA)
    (hY : ∀ (w : World) (h : Heap), YP w h → (K w.params).In h)
    (F : ∀ (w : World) (mg : Str → Option Value) (fa : Addr) (h : Heap), (K w.params).In h → h.Ns mainGlobals mg → mg d.name = some (.ref fa) →
      ∃ fd : FuncData, (∀ (s : Shared) (u : Value), BindsTo s fd ⟨[u], []⟩ [(x, u)]) ∧
        ∀ base : Heap, (K w.params).In base → base.Ns mainGlobals mg → FnOk l.prog w (K w.params) mg base CX0 k fa fd [x] (cSp (K w.params) (spLaw n))) :
    PySem.W.WalkO q loose XP YP l.row.toRowW d [] (fun f vs => PySem.call f vs) :=
  walk_ofB hn hn2 hdf hr hY F (fun w H a ns hl hb _ hS => law_sp hl hb hS) fun _ _ _ _ _ z => z
theorem walk_lawE {l : PySem.W.OpenLaw} {n k : Nat} {q : Program} {loose : List Str} {XP : (Str → Option Value) → Heap → Prop} {YP : World → Heap → Prop} {d : DefRec} {x : Str}
    (hn : l.most = some n) (hn2 : n ≤ sizeLine) (hdf : d.params.defaults = []) (hr : Room k callerA)
    (F : ∀ (w : World) (mg : Str → Option Value) (fa : Addr) (h : Heap), YP w h → h.Ns mainGlobals mg → mg d.name = some (.ref fa) →
      ∃ (K : PySem.W.Frag) (fd : FuncData), K.In h ∧ (∀ (s : Shared) (u : Value), BindsTo s fd ⟨[u], []⟩ [(x, u)]) ∧ ∀ base : Heap, K.In base → base.Ns mainGlobals mg → FnOk l.prog w K mg base CX0 k fa fd [x] (cSp K (spLaw n))) :
    PySem.W.WalkO q loose XP YP l.row.toRowW d [] (fun f vs => PySem.call f vs) := by
  apply Att.attach_callB hn hdf
  intro w s₀ s₁ mg mb fa o pm cd doc a vs ns g y ho hd hcd hmg hobj hints hlen hbits hg
  obtain ⟨K, fd, KX, hb, hF⟩ := F w mg fa _ y g.T.g hmg
  exact law_call KX g.T.g g.T.b g.T.builtins g.T.nolimit hg hobj hints (Nat.le_trans hlen hn2) hr hF hb (fun H _ hS => law_sp hlen hbits hS) fun _ _ _ z => z
end DL
set_option Elab.async false
set_option linter.all false
set_option maxRecDepth 100000
set_option maxHeartbeats 1000000
/-! DL, part 7: how readings are shown: loops by what remains, the small heap, trees, the law's draws. -/
namespace DL
open PySem PySem.Spec L2

/-! ### loops -/
theorem for_ind {gd : Gd} {g : Tgt} {tb : DTS} {E : DEnds} {α : Type} {enc : α → D} (I : List α → DSt → GHp → Prop) (hd : ∀ δ G, I [] δ G → gd.ok G ∧ E.nx δ G)
    (hs : ∀ x r δ G, I (x :: r) δ G → gd.ok G ∧ ∃ δ', g.set (enc x) δ = some δ' ∧ ∀ N : DSt → GHp → Prop, (∀ δ G, I r δ G → N δ G) → tb { E with nx := N, ct := N, bk := E.nx } δ' G) :
    ∀ (xs : List α) (δ : DSt) (G : GHp), I xs δ G → dForL gd g tb (xs.map enc) E δ G
  | [], δ, G, h => hd δ G h
  | x :: r, δ, G, h => by
    obtain ⟨h1, δ', e, h2⟩ := hs x r δ G h
    refine ⟨h1, ?_⟩
    rw [e]
    exact h2 _ fun δ G q => for_ind I hd hs r δ G q
theorem while_ind {c : DTT} {tb : DTS} {E : DEnds} {δ : DSt} {G : GHp} (I : Nat → DSt → GHp → Prop) (n : Nat) (h0 : I n δ G)
    (hs : ∀ n δ G, I n δ G → ∀ N : DSt → GHp → Prop, (∀ m δ G, m < n → I m δ G → N δ G) → c δ G fun b G1 => dIte b (tb { E with nx := N, ct := N, bk := E.nx } δ G1) (E.nx δ G1)) : dWhile c tb E δ G := by
  refine ⟨n + 1, ?_⟩
  have key : ∀ n m δ G, m ≤ n → I m δ G → dWhN c tb (n + 1) E δ G := by
    intro n
    induction n with
    | zero =>
      intro m δ G hm h
      exact hs m δ G h _ fun k δ G hk _ => absurd hk (by omega)
    | succ n ih =>
      intro m δ G hm h
      exact hs m δ G h _ fun k δ G hk q => ih k δ G (by omega) q
  exact key n n δ G (Nat.le_refl _) h0
theorem lc_ind {m : Bool} {gd : Gd} {g : Tgt} {tt : DTT} {te : DTE} {δw : DSt} {Q : DK} {α : Type} {enc : α → D} (I : List α → List D → GHp → Prop) (hd : ∀ acc G, I [] acc G → gd.ok G ∧ lcEnd m acc G Q)
    (hs : ∀ x r acc G, I (x :: r) acc G → gd.ok G ∧ ∃ δ', g.set (enc x) δw = some δ' ∧ ∀ N : List D → GHp → Prop, (∀ acc G, I r acc G → N acc G) →
      tt δ' G fun b G1 => dIte b (te δ' G1 fun y G2 => acc.length < sizeLine ∧ N (acc ++ [y]) G2) (N acc G1)) :
    ∀ (xs : List α) (acc : List D) (G : GHp), I xs acc G → dLcL m gd g tt te δw (xs.map enc) acc G Q
  | [], acc, G, h => hd acc G h
  | x :: r, acc, G, h => by
    obtain ⟨h1, δ', e, h2⟩ := hs x r acc G h
    refine ⟨h1, ?_⟩
    rw [e]
    exact h2 _ fun acc G q => lc_ind I hd hs r acc G q
/-- te gives v, and leaves all as it is -/
def Ev (te : DTE) (δ : DSt) (G : GHp) (v : D) : Prop := ∀ R : DK, R v G → te δ G R
def EvT (t : DTT) (δ : DSt) (G : GHp) (b : Bool) : Prop := ∀ R : Bool → GHp → Prop, R b G → t δ G R
theorem evT_yes {δ : DSt} {G : GHp} : EvT dYes δ G true := fun _ h => h
/-- a comprehension that changes nothing -/
theorem lc_map {m : Bool} {gd : Gd} {i : Nat} {tt : DTT} {te : DTE} {δw : DSt} {G : GHp} {Q : DK} {α : Type} {enc : α → D} {keep : α → Bool} {f : α → D} {xs : List α} (hz : xs.length ≤ sizeLine) (hg : gd.ok G)
    (ht : ∀ x ∈ xs, EvT tt (δw.set i (some (enc x))) G (keep x)) (he : ∀ x ∈ xs, keep x = true → Ev te (δw.set i (some (enc x))) G (f x)) (h : lcEnd m ((xs.filter keep).map f) G Q) :
    dLcL m gd (.nm i) tt te δw (xs.map enc) [] G Q := by
  refine lc_ind (fun r acc G' => G' = G ∧ ∃ pre, xs = pre ++ r ∧ acc = (pre.filter keep).map f) ?_ ?_ xs [] G ⟨rfl, [], rfl, rfl⟩
  · rintro acc _ ⟨rfl, pre, e, rfl⟩
    rw [List.append_nil] at e
    subst e
    exact ⟨hg, h⟩
  · rintro x r acc _ ⟨rfl, pre, e, rfl⟩
    refine ⟨hg, _, rfl, fun N hN => ?_⟩
    have hx : x ∈ xs := by rw [e]; simp
    refine ht x hx _ ⟨fun hk => ?_, fun hk => ?_⟩
    · refine he x hx hk _ ⟨?_, hN _ _ ⟨rfl, pre ++ [x], by rw [e]; simp, ?_⟩⟩
      · have h1 : ((pre.filter keep).map f).length ≤ pre.length := by rw [List.length_map]; exact List.length_filter_le _ _
        have h2 : xs.length = pre.length + (r.length + 1) := by rw [e]; simp
        omega
      · rw [List.filter_append, List.map_append]
        simp [hk]
    · refine hN _ _ ⟨rfl, pre ++ [x], by rw [e]; simp, ?_⟩
      rw [List.filter_append, List.map_append]
      simp [hk]

/-! ### the small heap -/
theorem gne {G : GHp} {p q : Addr} {o : GO} (h : G q = some o) (h' : G p = none) : q ≠ p := fun e => by rw [e, h'] at h; cases h
theorem lsOf_ref {G : GHp} {p : Addr} {ds : List D} (h : G p = some (.lst ds)) : lsOf G (.ref p) = some ds := by unfold lsOf; simp only [h]
theorem lsOf_lst {G : GHp} {ds : List D} : lsOf G (.lst ds) = some ds := rfl
theorem pdOf_ref {G : GHp} {p : Addr} {ds : List D} (h : G p = some (.lst ds)) : pdOf G (.ref p) = (D.dataL ds).map .list := by unfold pdOf; simp only [h]
theorem gupd_at {G : GHp} {a b : Addr} {o u : GO} (h : b ≠ a) (q : G b = some u) : gupd G a o b = some u := (gupd_ne h).trans q
theorem gupd_none {G : GHp} {a b : Addr} {o : GO} (h : gupd G a o b = none) : b ≠ a ∧ G b = none := by
  by_cases e : b = a
  · subst e; rw [gupd_same] at h; cases h
  · exact ⟨e, by rw [gupd_ne e] at h; exact h⟩
theorem gupd_comm {G : GHp} {a b : Addr} {o u : GO} (h : a ≠ b) : gupd (gupd G a o) b u = gupd (gupd G b u) a o := by
  funext c; unfold gupd
  by_cases e1 : c = a
  · by_cases e2 : c = b
    · exact absurd (e1.symm.trans e2) h
    · simp [e1, h]
  · by_cases e2 : c = b
    · subst e2; simp [e1]
    · simp [e1, e2]
/-- what was tracked at p is tracked no more -/
def gdel (G : GHp) (p : Addr) : GHp := fun b => if b = p then none else G b
theorem gdel_gupd {G : GHp} {p : Addr} {o : GO} (h : G p = none) : gdel (gupd G p o) p = G := by
  funext b; unfold gdel gupd
  split
  · next e => rw [e, h]
  · rfl
theorem gdel_ne {G : GHp} {p b : Addr} (h : b ≠ p) : gdel G p b = G b := by unfold gdel; rw [if_neg h]
theorem gdel_same {G : GHp} {p : Addr} : gdel G p p = none := by unfold gdel; rw [if_pos rfl]

/-! ### trees: lists at the addresses in S become trees -/
mutual
inductive Tree (G : GHp) (S : Addr → Prop) : D → D → Prop
  | same (d : D) : Tree G S d d
  | ref {a : Addr} {ds ts : List D} : S a → G a = some (.lst ds) → Trees G S ds ts → Tree G S (.ref a) (.lst ts)
  | tup {ds ts : List D} : Trees G S ds ts → Tree G S (.tup ds) (.tup ts)
  | lst {ds ts : List D} : Trees G S ds ts → Tree G S (.lst ds) (.lst ts)
inductive Trees (G : GHp) (S : Addr → Prop) : List D → List D → Prop
  | nil : Trees G S [] []
  | cons {d t : D} {ds ts : List D} : Tree G S d t → Trees G S ds ts → Trees G S (d :: ds) (t :: ts)
end
theorem Trees.same {G : GHp} {S : Addr → Prop} : ∀ ds : List D, Trees G S ds ds
  | [] => .nil
  | d :: r => .cons (.same d) (Trees.same r)
theorem Trees.append {G : GHp} {S : Addr → Prop} : ∀ {ds ts es us : List D}, Trees G S ds ts → Trees G S es us → Trees G S (ds ++ es) (ts ++ us)
  | _, _, _, _, .nil, q => q
  | _, _, _, _, .cons h r, q => .cons h (Trees.append r q)
theorem Trees.length {G : GHp} {S : Addr → Prop} : ∀ {ds ts : List D}, Trees G S ds ts → ds.length = ts.length
  | _, _, .nil => rfl
  | _, _, .cons h r => by simp [Trees.length r]
theorem Trees.get {G : GHp} {S : Addr → Prop} : ∀ {ds ts : List D} {i : Nat} {d : D}, Trees G S ds ts → ds[i]? = some d → ∃ t, ts[i]? = some t ∧ Tree G S d t
  | _, _, 0, d, .cons h r, e => by
    simp at e; subst e; exact ⟨_, rfl, h⟩
  | _, _, i + 1, d, .cons h r, e => by
    obtain ⟨v, h1, h2⟩ := Trees.get (i := i) (d := d) r (by simpa using e)
    exact ⟨v, by simpa using h1, h2⟩
theorem Trees.get' {G : GHp} {S : Addr → Prop} : ∀ {ds ts : List D} {i : Nat} {t : D}, Trees G S ds ts → ts[i]? = some t → ∃ d, ds[i]? = some d ∧ Tree G S d t
  | _, _, 0, d, .cons h r, e => by
    simp at e; subst e; exact ⟨_, rfl, h⟩
  | _, _, i + 1, d, .cons h r, e => by
    obtain ⟨v, h1, h2⟩ := Trees.get' (i := i) (t := d) r (by simpa using e)
    exact ⟨v, by simpa using h1, h2⟩
section
variable {K : PySem.W.Frag} {H : Hp} {G G' : GHp} {Z : Addr → Bool} {S : Addr → Prop}
mutual
theorem Tree.rep (ok : Ok K H G Z) (k : ∀ a o, U H G Z a = some o → U H G' Z a = some o) (hS : ∀ a, S a → G' a = none) : ∀ {d t : D} {v : V}, Tree G S d t → Rep K (U H G Z) d v → Rep K (U H G' Z) t v
  | _, _, _, .same d, r => r.mono k
  | _, _, _, .ref (a := a) hs hg ts, r => by
    cases r
    obtain ⟨hz, xs, hx, rx⟩ := ok.ok a _ hg
    exact .lst (U_of (hS a hs) hz hx) (Trees.rep ok k hS ts rx)
  | _, _, _, .tup ts, r => by
    cases r with
    | tup q rr => exact .tup (TupAt.mono k q) (Trees.rep ok k hS ts rr)
  | _, _, _, .lst ts, r => by
    cases r with
    | lst q rr => exact .lst (k _ _ q) (Trees.rep ok k hS ts rr)
theorem Trees.rep (ok : Ok K H G Z) (k : ∀ a o, U H G Z a = some o → U H G' Z a = some o) (hS : ∀ a, S a → G' a = none) : ∀ {ds ts : List D} {vs : List V}, Trees G S ds ts → Reps K (U H G Z) ds vs → Reps K (U H G' Z) ts vs
  | _, _, _, .nil, r => by cases r; exact .nil
  | _, _, _, .cons h q, r => by
    cases r with
    | cons r rr => exact .cons (Tree.rep ok k hS h r) (Trees.rep ok k hS q rr)
end
end
/-- slots told by trees, or forgotten -/
inductive TreeO (G : GHp) (S : Addr → Prop) : Option D → Option D → Prop
  | no (o : Option D) : TreeO G S o none
  | so {d t : D} : Tree G S d t → TreeO G S (some d) (some t)
abbrev TreeSt (G : GHp) (S : Addr → Prop) (δ δ' : DSt) : Prop := Paired (TreeO G S) δ δ'
theorem TreeSt.same {G : GHp} {S : Addr → Prop} : ∀ δ : DSt, TreeSt G S δ δ
  | [] => .nil
  | none :: r => .cons (.no _) (TreeSt.same r)
  | some d :: r => .cons (.so (.same d)) (TreeSt.same r)
theorem TreeSt.set {G : GHp} {S : Addr → Prop} {d t : D} (q : Tree G S d t) : ∀ {δ : DSt} {i : Nat}, δ[i]? = some (some d) → TreeSt G S δ (δ.set i (some t))
  | [], i, e => by simp at e
  | o :: r, 0, e => by
    simp at e; subst e
    exact .cons (.so q) (TreeSt.same r)
  | o :: r, i + 1, e => by
    have ih := TreeSt.set q (δ := r) (i := i) (by simpa using e)
    refine .cons ?_ ih
    cases o with
    | none => exact .no _
    | some d => exact .so (.same d)
/-- THE GHOST: the lists at S become trees; of the others those that G' tells stay tracked, with trees in them -/
theorem View.tree {K : PySem.W.Frag} {δ δ' : DSt} {G G' : GHp} (S : Addr → Prop) (hS : ∀ a, S a → G' a = none) (hG : ∀ a o, G' a = some o → G a = some o ∨ ∃ ds ts, G a = some (.lst ds) ∧ o = .lst ts ∧ Trees G S ds ts) (hd : TreeSt G S δ δ') : View K δ G δ' G' := by
  intro H Z σ ok rs
  have none_of : ∀ a, G a = none → G' a = none := fun a e => by
    cases e' : G' a with
    | none => rfl
    | some o =>
      rcases hG a o e' with q | ⟨ds, ts, q, _⟩ <;> (rw [e] at q; cases q)
  have k : ∀ a o, U H G Z a = some o → U H G' Z a = some o := fun a o e => by
    obtain ⟨e1, e2, e3⟩ := U_some e
    exact U_of (none_of a e1) e2 e3
  refine ⟨⟨k, fun _ _ _ e => e⟩, ⟨fun a o e => ?_, ok.hid⟩, ?_⟩
  · rcases hG a o e with q | ⟨ds, ts, q, rfl, tr⟩
    · obtain ⟨z, g⟩ := ok.ok a o q
      exact ⟨z, g.mono k rfl⟩
    · obtain ⟨z, xs, hx, rx⟩ := ok.ok a _ q
      exact ⟨z, xs, hx, Trees.rep ok k hS tr rx⟩
  · have key : ∀ {δ δ' : DSt} {σ : L2.St}, TreeSt G S δ δ' → RepSt K (U H G Z) δ σ → RepSt K (U H G' Z) δ' σ := by
      intro δ δ' σ h
      induction h generalizing σ with
      | nil => intro r; cases r; exact .nil
      | cons q t ih =>
        intro r
        cases r with
        | cons r1 r2 =>
          refine .cons ?_ (ih r2)
          cases q with
          | no o => exact .no _
          | so q =>
            cases r1 with
            | so r1 => exact .so (Tree.rep ok k hS q r1)
    exact key hd rs
theorem View.refl {K : PySem.W.Frag} {δ : DSt} {G : GHp} : View K δ G δ G := fun H Z σ ok rs => ⟨.refl, ok, rs⟩

/-- a tracked list is tracked no more -/
theorem View.forget {K : PySem.W.Frag} {δ : DSt} {G : GHp} {q : Addr} {o : GO} (h : G q = none) : View K δ (gupd G q o) δ G :=
  View.tree (fun a => a = q) (fun a e => by rw [e]; exact h) (fun a u e => .inl (by rw [gupd_ne (fun e2 => by rw [e2, h] at e; cases e)]; exact e)) (TreeSt.same δ)
/-! ### places in lists -/
theorem atI_of_lt {α : Type} {xs : List α} {i : Int} (h0 : 0 ≤ i) (h1 : i < xs.length) : atI xs i = xs[i.toNat]? := by
  unfold atI ixN
  rw [if_pos h0, if_pos h1]
  rfl
theorem atD_of {ds : List D} {i : Int} {Q : D → Prop} (h0 : 0 ≤ i) (h1 : i < ds.length) (h : ∀ d ∈ ds, Q d) : atD ds i Q := by
  unfold atD
  rw [atI_of_lt h0 h1]
  have hl : i.toNat < ds.length := by omega
  rw [List.getElem?_eq_getElem hl]
  exact h _ (List.getElem_mem hl)
theorem atD_get {ds : List D} {i : Int} {d : D} {Q : D → Prop} (h0 : 0 ≤ i) (h1 : i < ds.length) (e : ds[i.toNat]? = some d) (h : Q d) : atD ds i Q := by
  unfold atD
  rw [atI_of_lt h0 h1, e]
  exact h
theorem atD_nat {ds : List D} {i : Nat} {d : D} {Q : D → Prop} (e : ds[i]? = some d) (h : Q d) : atD ds (i : Int) Q := by
  have hl := (List.getElem?_eq_some_iff.mp e).1
  exact atD_get (by omega) (by omega) (by simpa using e) h
theorem atI_neg1 {α : Type} {xs : List α} (h : xs ≠ []) : atI xs (-1) = some (xs.getLast h) := by
  have hl : 0 < xs.length := List.length_pos_iff.mpr h
  unfold atI ixN
  rw [if_neg (by omega), if_pos (by omega)]
  have e : ((-1 : Int) + (xs.length : Int)).toNat = xs.length - 1 := by omega
  show xs[((-1 : Int) + (xs.length : Int)).toNat]? = _
  rw [e, List.getLast_eq_getElem, List.getElem?_eq_getElem]
theorem atD_last {ds : List D} {d : D} {Q : D → Prop} (h : Q d) : atD (ds ++ [d]) (-1) Q := by
  unfold atD
  rw [atI_neg1 (by simp)]
  simpa using h

/-! ### a law's draws: a box of three numbers -/
structure Bx where
  a : Int
  b : Int
  c : Int
def Bx.go (s : Bx) : GO := .lst [.int s.a, .int s.b, .int s.c]
structure Bx.Ok (s : Bx) (k : Nat) : Prop where
  a0 : 0 ≤ s.a
  b0 : 0 ≤ s.b
  b1 : s.b < 2147483648
  c0 : 0 ≤ s.c
  c1 : s.c ≤ k
theorem Bx.Ok.mono {s : Bx} {j k : Nat} (h : s.Ok j) (hk : j ≤ k) : s.Ok k := ⟨h.a0, h.b0, h.b1, h.c0, by have := h.c1; omega⟩
/-- box, many: any number below many is drawn -/
def spTake : DSp := sp2 fun x m G Q _ => ∃ (p : Addr) (s : Bx) (k : Nat) (n : Int), x = .ref p ∧ G p = some s.go ∧ s.Ok k ∧ k < 2 ^ 30 ∧ m = .int n ∧ 0 < n ∧ n.natAbs < 2 ^ 1000 ∧
  ∀ (v : Int) (s' : Bx), 0 ≤ v → v < n → s'.Ok (k + 1) → Q (.int v) (gupd G p s'.go)
/-- a new box -/
def spBox : DSp := sp1 fun x G Q _ => ∃ z : Int, x = .int z ∧ ∀ (p : Addr) (s : Bx), G p = none → s.Ok 0 → Q (.ref p) (gupd G p s.go)
/-- the k-th number of the script, or one that is made up -/
def spCell : DSp := sp2 fun x m G Q _ => ∃ (ns : List Int) (k : Int), x = .scr (ns.map .int) ∧ m = .int k ∧ 0 ≤ k ∧ k < 2 ^ 40 ∧ ∀ z : Int, Q (.int z) G
end DL
set_option Elab.async false
set_option linter.all false
set_option maxRecDepth 100000
set_option maxHeartbeats 1000000
/-! DL, part 8: max, min, sorted of tuples of ints, too. -/
namespace DL
open PySem PySem.Spec L2 PyProof.Rows

section
variable {prog : Program} {w : World} {A : Around} {E : Value → Shared → Prop} {s : Shared} {l : Addr}
theorem best_gtT {xs : Array (Int × Tok)} {Q : Value → Shared → Prop} (hh : A.handled = none) (hl : s.heap.IsTuple l (intItems xs)) (hne : 0 < xs.size)
    (h : ∀ v h' tk, (intItems xs)[argBest (fun i j => decide (numAt xs i > numAt xs j)) (xs.size - 1)]? = some v → (∀ b o, s.heap.get? b = some o → h'.get? b = some o) → Q v { s with heap := h', toks := tk }) :
    wpAny (model prog w) A (call (.builtin "max") [.ref l]) Q E s := by
  have hlt : l < s.heap.objs.size := by obtain ⟨_, e, _⟩ := hl; exact Heap.lt_size e
  refine call_max_walk (wpAny_pyIter_tuple hl ?_)
  refine ⟨_, _, _, _, _, _, _, rfl, Walks.tuple (A := A.in1) hh _ l (Nat.ne_of_lt hlt) (intItems xs), ⟨⟨_, Heap.get?_push_size _ rfl, rfl, rfl⟩, hl.push _⟩, fun b hb => ?_, by simpa [intItems] using hne, CmpOf.ints_gt (numAt xs) (fun _ _ => intItems_at), fun v h' tk hP hk => ?_⟩
  · show b < (s.heap.push _).objs.size
    rw [Heap.size_push]
    simp only [List.mem_cons, List.not_mem_nil, or_false] at hb
    rcases hb with rfl | rfl
    · exact Nat.lt_succ_self _
    · exact Nat.lt_succ_of_lt hlt
  · refine h v h' tk (by simpa [intItems] using hP) fun b o e => hk b o (fun hm => ?_) (Heap.get?_push_of_some _ e)
    simp only [List.mem_cons, List.not_mem_nil, or_false] at hm
    exact absurd (hm ▸ Heap.lt_size e) (Nat.lt_irrefl _)
theorem best_ltT {xs : Array (Int × Tok)} {Q : Value → Shared → Prop} (hh : A.handled = none) (hl : s.heap.IsTuple l (intItems xs)) (hne : 0 < xs.size)
    (h : ∀ v h' tk, (intItems xs)[argBest (fun i j => decide (numAt xs i < numAt xs j)) (xs.size - 1)]? = some v → (∀ b o, s.heap.get? b = some o → h'.get? b = some o) → Q v { s with heap := h', toks := tk }) :
    wpAny (model prog w) A (call (.builtin "min") [.ref l]) Q E s := by
  have hlt : l < s.heap.objs.size := by obtain ⟨_, e, _⟩ := hl; exact Heap.lt_size e
  refine call_min_walk (wpAny_pyIter_tuple hl ?_)
  refine ⟨_, _, _, _, _, _, _, rfl, Walks.tuple (A := A.in1) hh _ l (Nat.ne_of_lt hlt) (intItems xs), ⟨⟨_, Heap.get?_push_size _ rfl, rfl, rfl⟩, hl.push _⟩, fun b hb => ?_, by simpa [intItems] using hne, CmpOf.ints_lt (numAt xs) (fun _ _ => intItems_at), fun v h' tk hP hk => ?_⟩
  · show b < (s.heap.push _).objs.size
    rw [Heap.size_push]
    simp only [List.mem_cons, List.not_mem_nil, or_false] at hb
    rcases hb with rfl | rfl
    · exact Nat.lt_succ_self _
    · exact Nat.lt_succ_of_lt hlt
  · refine h v h' tk (by simpa [intItems] using hP) fun b o e => hk b o (fun hm => ?_) (Heap.get?_push_of_some _ e)
    simp only [List.mem_cons, List.not_mem_nil, or_false] at hm
    exact absurd (hm ▸ Heap.lt_size e) (Nat.lt_irrefl _)
variable {its : List Value} {ns : List Int} {Q : Value → Shared → Prop}
theorem max_rawT (hh : A.handled = none) (hl : s.heap.IsTuple l its.toArray) (hi : IntsAre its ns) (hne : ns ≠ [])
    (h : ∀ h' tk t', (∀ b o, s.heap.get? b = some o → h'.get? b = some o) → Q (.int (maxI ns) t') { s with heap := h', toks := tk }) : wpAny (model prog w) A (call (.builtin "max") [.ref l]) Q E s := by
  obtain ⟨xs, e⟩ := hi.allInts.items
  have hn : numsOf (intItems xs).toList = ns := by rw [← e]; exact hi.numsOf
  rw [nums_intItems] at hn
  subst hn
  rw [e] at hl
  have hsz : 0 < xs.size := by
    have := List.length_pos_iff.mpr hne
    simpa using this
  refine best_gtT hh hl hsz fun v h' tk hv hk => ?_
  obtain ⟨t, rfl⟩ := intItems_at hv
  obtain ⟨h1, h2⟩ := argBest_gt (numAt xs) (xs.size - 1)
  have e : numAt xs (argBest (fun i j => decide (numAt xs i > numAt xs j)) (xs.size - 1)) = maxI (List.map (fun x => x.fst) xs.toList) := by
    have h3 := maxI_mem hne
    have h4 : numAt xs (argBest (fun i j => decide (numAt xs i > numAt xs j)) (xs.size - 1)) ∈ List.map (fun x => x.fst) xs.toList := by
      rw [numAt_eq]; exact PySem.getD_mem (by rw [List.length_map, Array.length_toList]; omega)
    have h5 := h3.2 _ h4
    obtain ⟨j, hj, ej⟩ := mem_getD h3.1
    rw [List.length_map, Array.length_toList] at hj
    have h6 := h2 j (by omega)
    rw [numAt_eq] at h6
    have : maxI (List.map (fun x => x.fst) xs.toList) ≤ numAt xs (argBest (fun i j => decide (numAt xs i > numAt xs j)) (xs.size - 1)) := by rw [← ej]; exact h6
    omega
  rw [e]
  exact h h' tk t hk
theorem min_rawT (hh : A.handled = none) (hl : s.heap.IsTuple l its.toArray) (hi : IntsAre its ns) (hne : ns ≠ [])
    (h : ∀ h' tk t', (∀ b o, s.heap.get? b = some o → h'.get? b = some o) → Q (.int (minI ns) t') { s with heap := h', toks := tk }) : wpAny (model prog w) A (call (.builtin "min") [.ref l]) Q E s := by
  obtain ⟨xs, e⟩ := hi.allInts.items
  have hn : numsOf (intItems xs).toList = ns := by rw [← e]; exact hi.numsOf
  rw [nums_intItems] at hn
  subst hn
  rw [e] at hl
  have hsz : 0 < xs.size := by
    have := List.length_pos_iff.mpr hne
    simpa using this
  refine best_ltT hh hl hsz fun v h' tk hv hk => ?_
  obtain ⟨t, rfl⟩ := intItems_at hv
  obtain ⟨h1, h2⟩ := argBest_lt (numAt xs) (xs.size - 1)
  have e : numAt xs (argBest (fun i j => decide (numAt xs i < numAt xs j)) (xs.size - 1)) = minI (List.map (fun x => x.fst) xs.toList) := by
    have h3 := minI_mem hne
    have h4 : numAt xs (argBest (fun i j => decide (numAt xs i < numAt xs j)) (xs.size - 1)) ∈ List.map (fun x => x.fst) xs.toList := by
      rw [numAt_eq]; exact PySem.getD_mem (by rw [List.length_map, Array.length_toList]; omega)
    have h5 := h3.2 _ h4
    obtain ⟨j, hj, ej⟩ := mem_getD h3.1
    rw [List.length_map, Array.length_toList] at hj
    have h6 := h2 j (by omega)
    rw [numAt_eq xs j] at h6
    have : numAt xs (argBest (fun i j => decide (numAt xs i < numAt xs j)) (xs.size - 1)) ≤ minI (List.map (fun x => x.fst) xs.toList) := by rw [← ej]; exact h6
    omega
  rw [e]
  exact h h' tk t hk
theorem gatherT {vs : List Value} {Q : List Value → Shared → Prop} (hl : s.heap.IsTuple l vs.toArray)
    (h : Q vs { s with heap := (s.heap.push (seqObj "list" #[] 0)).update s.heap.objs.size (Obj.mapSeq (· ++ vs.toArray)) }) (hz : vs.length ≤ sizeLine) :
    wpAny (model prog w) A (collect (.ref l)) Q E s := by
  obtain ⟨o, ho, hc, n, hd⟩ := id hl
  unfold collect
  refine wpAny_bind (wpAny_runValue (codeAny_builtin PyProof.Rows.entry_proto_collect' ?_))
  show wpAny _ _ (do again (.builtin "list.__iadd__" ⟨[← newList [], .ref l], []⟩)) _ _ s
  refine wpAny_bind (wpAny_newList (wpAny_pure ⟨Code.quiet_builtin _ (by decide +kernel), codeAny_builtin PyProof.Rows.entry_list_iadd' ?_⟩))
  show wpAny _ _ (Builtin.List.listExtendWith (.ref s.heap.objs.size) (.ref l) (.ref s.heap.objs.size)) _ _ { s with heap := s.heap.push (seqObj "list" #[] 0) }
  unfold Builtin.List.listExtendWith
  have ho' : (s.heap.push (seqObj "list" #[] 0)).get? l = some o := Heap.get?_push_of_some _ ho
  refine wpAny_bind (wpAny_typeOf (T := "tuple") ⟨o, ho', hc⟩ ?_)
  rw [if_pos (by have ht : (Value.type "tuple" == Value.type "tuple") = true := by rfl
                 rw [ht]; simp)]
  refine wpAny_bind (PyProof.Rows.listItems_at ho' hd ?_)
  refine wpAny_bind (PyProof.Rows.listItems_at (xs := #[]) (n := 0) (Heap.get?_push_size _ rfl) rfl ?_)
  rw [if_neg (by simp)]
  refine wpAny_bind (PyProof.Rows.listUpdate_at (xs := #[]) (n := 0) (Heap.get?_push_size _ rfl) rfl ?_ (Nat.zero_le _) (by show (#[] ++ vs.toArray).size ≤ sizeLine + 1; simp only [Array.size_append, List.size_toArray, List.length_nil]; omega))
  refine wpAny_pure ?_
  show wpAny (model prog w) A (do
      let o ← load s.heap.objs.size
      match o.data with
      | .seq xs _ => pure xs.toList
      | _ => unsupported "internal:collect") Q E { s with heap := (s.heap.push (seqObj "list" #[] 0)).update s.heap.objs.size (Obj.mapSeq (· ++ vs.toArray)) }
  refine wpAny_bind (wpAny_load (PyProof.Rows.get?_update_seq (Heap.get?_push_size _ rfl) _) ?_)
  show wpAny _ _ (pure ((#[] : Array Value) ++ vs.toArray).toList) Q E _
  rw [show ((#[] : Array Value) ++ vs.toArray).toList = vs by simp]
  exact wpAny_pure h
open PyProof.Rows in
theorem sortedT {vs : List Value} {ltv : Value → Value → Bool} {Q : Value → Shared → Prop} (O : SrtO.Swo ltv) (hl : s.heap.IsTuple l vs.toArray) (hz : vs.length ≤ sizeLine)
    (hS : 2 ≤ vs.length → ∀ (h₁ : Heap) (a : Addr), SrtO.SortableO prog w A.in1.in1 { s with heap := h₁ } a vs ltv)
    (h : ∀ out : List Value, SrtO.Srtd ltv out → SrtO.Stb ltv out vs → Q (.ref (s.heap.objs.size + 1)) { s with heap := sortedAll s.heap vs out.toArray }) :
    wpAny (model prog w) A (call (.builtin "sorted") [.ref l]) Q E s := by
  refine Calls.call_function_entry kind_sorted plain_sorted entry_sorted (args_sorted1 _) ?_
  unfold Builtin.«sorted»
  refine wpAny_bind (m := checkCount "sorted" 1 1 _) (wpAny_pure ?_)
  refine wpAny_bind (gatherT hl ?_ hz)
  refine wpAny_bind (wpAny_newList ?_ hz)
  have hsz : ((s.heap.push (seqObj "list" #[] 0)).update s.heap.objs.size (Obj.mapSeq (· ++ vs.toArray))).objs.size = s.heap.objs.size + 1 := by
    rw [Heap.size_update, Heap.size_push]
  have hoL : (((s.heap.push (seqObj "list" #[] 0)).update s.heap.objs.size (Obj.mapSeq (· ++ vs.toArray))).push (seqObj "list" vs.toArray 0)).get? (s.heap.objs.size + 1) = some (seqObj "list" vs.toArray 0) := by
    rw [← hsz]; exact Heap.get?_push_size _ rfl
  show wpAny _ _ _ _ _ { s with heap := ((s.heap.push (seqObj "list" #[] 0)).update s.heap.objs.size (Obj.mapSeq (· ++ vs.toArray))).push (seqObj "list" vs.toArray 0) }
  rw [hsz]
  refine wpAny_bind (wpAny_holding (wpAny_call_entry slot_list_sort ⟨_, hoL, rfl⟩ entry_list_sort (SrtO.list_sort_ord O hoL hz (fun h2 => hS h2 _ _) fun out hs hb => ⟨_, rfl, ?_⟩) (args_list_sort _)))
  exact wpAny_pure ⟨_, rfl, h out hs hb⟩
end

section
variable {X : Cx}
theorem cr_maxT (hc : X.calm = true) : CallR X (.builtin "max") (fun vs H Q => ∃ (a : Addr) (ns : List Int), vs = [V.ref a] ∧ SqT X.K H a (ns.map V.int) ∧ ns ≠ [] ∧ Q (.int (maxI ns)) H) := by
  intro pins s σ H vs us Q I r h
  obtain ⟨a, ns, rfl, hs, hne, q⟩ := h
  obtain ⟨its, rv, hl, _⟩ := I.tuple hs
  rw [Vals.ref1 r]
  exact max_rawT (I.ok.hd hc) hl rv.ints hne fun h' tk t' hk => ⟨.int _, H, I.kept hk, ⟨_, rfl⟩, q⟩
theorem cr_minT (hc : X.calm = true) : CallR X (.builtin "min") (fun vs H Q => ∃ (a : Addr) (ns : List Int), vs = [V.ref a] ∧ SqT X.K H a (ns.map V.int) ∧ ns ≠ [] ∧ Q (.int (minI ns)) H) := by
  intro pins s σ H vs us Q I r h
  obtain ⟨a, ns, rfl, hs, hne, q⟩ := h
  obtain ⟨its, rv, hl, _⟩ := I.tuple hs
  rw [Vals.ref1 r]
  exact min_rawT (I.ok.hd hc) hl rv.ints hne fun h' tk t' hk => ⟨.int _, H, I.kept hk, ⟨_, rfl⟩, q⟩
theorem cr_sortedT : CallR X (.builtin "sorted") (fun vs H Q => ∃ (a : Addr) (ns : List Int), vs = [V.ref a] ∧ SqT X.K H a (ns.map V.int) ∧
    ∀ (ns' : List Int) (p : Addr), ns'.Perm ns → ns'.Pairwise (· ≤ ·) → H p = none → Q (.ref p) (upd H p (.lst (ns'.map V.int)))) := by
  intro pins s σ H vs us Q I r h
  obtain ⟨a, ns, rfl, hs, q⟩ := h
  obtain ⟨its, rv, hl, hz⟩ := I.tuple hs
  rw [Vals.ref1 r]
  have hi := rv.ints
  refine sortedT SrtO.swo_int hl (by rw [← rv.length]; exact hz) (fun h2 h₁ a' => SrtO.ints_sortable hi h2) fun out h1 h2 => ?_
  obtain ⟨k1, k2, k3⟩ := SrtO.ints_out hi h1 h2
  obtain ⟨ep, he'⟩ := PyProof.Rows.sortedAll_at s.heap its out.toArray
  have hlen : ((out.map SrtO.iv).map V.int).length ≤ sizeLine := by
    rw [List.length_map, k2.length_eq]
    rw [List.length_map] at hz
    exact hz
  exact ⟨.ref _, upd H (s.heap.objs.size + 1) (.lst ((out.map SrtO.iv).map V.int)), I.laid (t' := s.toks) (fun _ _ => PyProof.Rows.sortedAll_old) (Nat.le_succ _) ⟨hlen, out, ep, vals_of_ints k1, he'⟩, rfl, q _ _ k2 k3 (I.hok.fresh (Nat.le_succ _))⟩

/-- ints of a list, or of a tuple -/
def intsQ (G : GHp) : D → Option (List Int)
  | .tup ds => intsOf ds
  | x => intsG G x
theorem intsQ_of {K : PySem.W.Frag} {H : Hp} {G : GHp} {Z : Addr → Bool} {x : D} {v : V} {ns : List Int} (ok : Ok K H G Z) (r : Rep K (U H G Z) x v) (h : intsQ G x = some ns) : ∃ a, v = .ref a ∧ (H a = some (.lst (ns.map V.int)) ∨ SqT K H a (ns.map V.int)) := by
  cases x with
  | tup ds =>
    cases r with
    | tup q rr =>
      have h : intsOf ds = some ns := h
      rw [intsOf_eq h] at rr
      refine ⟨_, rfl, .inr ?_⟩
      rw [rr.ints] at q
      exact TupAt.sq U_le q
  | _ => obtain ⟨a, e, q⟩ := intsG_of (x := _) ok r h; exact ⟨a, e, .inl q⟩
def dOnIntsQ (C : List Int → Prop) (g : List Int → D) (x : D) (G : GHp) (Q : DK) : Prop := match intsQ G x with
  | some ns => C ns ∧ Q (g ns) G
  | none => False
theorem dcall_maxQ (hc : X.calm = true) : DCall X (.builtin "max") (dR1 (dOnIntsQ (fun ns => ns ≠ []) fun ns => .int (maxI ns))) :=
  dcall1 (CallR.or (cr_max hc) (cr_maxT hc)) fun x v H G Z Q Q0 ok r h k => by
    unfold dOnIntsQ at h
    split at h
    · next ns e =>
      obtain ⟨a, rfl, ha | ha⟩ := intsQ_of ok r e
      · refine .inl ⟨a, ns, rfl, SqL.of ha, List.length_pos_iff.mpr h.1, fun m hm hle => ?_⟩
        have e : m = maxI ns := by
          have h1 := maxI_mem h.1
          have h2 := hle _ h1.1
          have h3 := h1.2 _ hm
          omega
        subst e
        exact k _ _ _ _ h.2 .refl ok (.int _)
      · exact .inr ⟨a, ns, rfl, ha, h.1, k _ _ _ _ h.2 .refl ok (.int _)⟩
    · exact h.elim
theorem dcall_minQ (hc : X.calm = true) : DCall X (.builtin "min") (dR1 (dOnIntsQ (fun ns => ns ≠ []) fun ns => .int (minI ns))) :=
  dcall1 (CallR.or (cr_min hc) (cr_minT hc)) fun x v H G Z Q Q0 ok r h k => by
    unfold dOnIntsQ at h
    split at h
    · next ns e =>
      obtain ⟨a, rfl, ha | ha⟩ := intsQ_of ok r e
      · refine .inl ⟨a, ns, rfl, SqL.of ha, List.length_pos_iff.mpr h.1, fun m hm hle => ?_⟩
        have e : m = minI ns := by
          have h1 := minI_mem h.1
          have h2 := hle _ h1.1
          have h3 := h1.2 _ hm
          omega
        subst e
        exact k _ _ _ _ h.2 .refl ok (.int _)
      · exact .inr ⟨a, ns, rfl, ha, h.1, k _ _ _ _ h.2 .refl ok (.int _)⟩
    · exact h.elim
def dSortedQ (m : Bool) (x : D) (G : GHp) (Q : DK) : Prop := match intsQ G x with
  | some ns => lcEnd m ((sortI ns).map .int) G Q
  | none => False
theorem dcall_sortedQ (m : Bool) : DCall X (.builtin "sorted") (dR1 (dSortedQ m)) :=
  dcall1 (CallR.or cr_sortedI cr_sortedT) fun x v H G Z Q Q0 ok r h k => by
    unfold dSortedQ at h
    split at h
    · next ns e =>
      obtain ⟨a, rfl, ha⟩ := intsQ_of ok r e
      have fin : ∀ (ns' : List Int) (p : Addr), ns'.Perm ns → ns'.Pairwise (· ≤ ·) → H p = none → Q (.ref p) (upd H p (.lst (ns'.map V.int))) := fun ns' p hp hs hn => by
        have e : ns' = sortI ns := sorted_unique (hp.trans (sortI_perm ns).symm) hs (sortI_sorted ns)
        subst e
        exact lcEnd_of ok hn (Reps.of_ints _) h k
      rcases ha with ha | ha
      · exact .inl ⟨a, ns, rfl, SqL.of ha, fin⟩
      · exact .inr ⟨a, ns, rfl, ha, fin⟩
    · exact h.elim
end
end DL
set_option Elab.async false
set_option linter.all false
set_option maxRecDepth 100000
set_option maxHeartbeats 1000000
/-! DL, part 9: == and != of anything whose data is told, tracked lists within tracked lists too. -/
namespace DL
open PySem PySem.Spec L2

mutual
inductive DD (G : GHp) : D → PyData → Prop
  | non : DD G .non .none
  | bl (b : Bool) : DD G (.bl b) (.bool b)
  | int (i : Int) : DD G (.int i) (.int i)
  | str (x : Str) : DD G (.str x) (.str x)
  | tup {ds : List D} {ps : List PyData} : DDs G ds ps → DD G (.tup ds) (.tuple ps)
  | lst {ds : List D} {ps : List PyData} : DDs G ds ps → DD G (.lst ds) (.list ps)
  | ref {a : Addr} {ds : List D} {ps : List PyData} : G a = some (.lst ds) → DDs G ds ps → DD G (.ref a) (.list ps)
inductive DDs (G : GHp) : List D → List PyData → Prop
  | nil : DDs G [] []
  | cons {d : D} {p : PyData} {ds : List D} {ps : List PyData} : DD G d p → DDs G ds ps → DDs G (d :: ds) (p :: ps)
end
section
variable {K : PySem.W.Frag} {H : Hp} {G : GHp} {Z : Addr → Bool}
mutual
theorem DD.dp (ok : Ok K H G Z) : ∀ {d : D} {p : PyData} {v : V}, DD G d p → Rep K (U H G Z) d v → Dp K H v p
  | _, _, _, .non, r => by cases r; exact .non
  | _, _, _, .bl b, r => by cases r; exact .bl b
  | _, _, _, .int b, r => by cases r; exact .int b
  | _, _, _, .str b, r => by cases r; exact .str b
  | _, _, _, .tup h, r => by
    cases r with
    | tup q rr => exact .tup (TupAt.sq U_le q) (DDs.dp ok h rr)
  | _, _, _, .lst h, r => by
    cases r with
    | lst q rr => exact .lst (SqL.of (U_le _ _ q)) (DDs.dp ok h rr)
  | _, _, _, .ref e h, r => by
    cases r with
    | ref a =>
      obtain ⟨_, xs, h1, h2⟩ := ok.ok _ _ e
      exact .lst (SqL.of h1) (DDs.dp ok h h2)
theorem DDs.dp (ok : Ok K H G Z) : ∀ {ds : List D} {ps : List PyData} {vs : List V}, DDs G ds ps → Reps K (U H G Z) ds vs → DpAll K H vs ps
  | _, _, _, .nil, r => by cases r; exact .nil
  | _, _, _, .cons h t, r => by
    cases r with
    | cons r rr => exact .cons (DD.dp ok h r) (DDs.dp ok t rr)
end
end
def dEqQ : DR2 := fun x y G Q => match x, y with
  | .int i, .int j => Q (.bl (decide (i = j))) G
  | .str i, .str j => Q (.bl (decide (i = j))) G
  | .bl i, .bl j => Q (.bl (decide (i = j))) G
  | x, y => ∃ p q, DD G x p ∧ DD G y q ∧ SeqAt.shaped p = true ∧ SeqAt.shaped q = true ∧ Q (.bl (PyData.eqv p q)) G
def dNeQ : DR2 := fun x y G Q => match x, y with
  | .int i, .int j => Q (.bl (!decide (i = j))) G
  | .str i, .str j => Q (.bl (!decide (i = j))) G
  | .bl i, .bl j => Q (.bl (!decide (i = j))) G
  | x, y => ∃ p q, DD G x p ∧ DD G y q ∧ SeqAt.shaped p = true ∧ SeqAt.shaped q = true ∧ Q (.bl (!PyData.eqv p q)) G
section
variable {X : Cx}
theorem dop_eqQ (hu : X.A.units + 64 < cLine) : DOp X (compareOp .Eq) dEqQ :=
  OpR.imp (OpR.or op_eq (op_eqD hu)) fun v u H Q ⟨x, y, G, Z, Q0, ok, r1, r2, h, k⟩ => by
    have gen : (∃ p q, DD G x p ∧ DD G y q ∧ SeqAt.shaped p = true ∧ SeqAt.shaped q = true ∧ Q0 (.bl (PyData.eqv p q)) G) → rEqD X.K v u H Q :=
      fun ⟨p, q, e1, e2, s1, s2, h⟩ => ⟨p, q, e1.dp ok r1, e2.dp ok r2, s1, s2, k _ _ _ _ h .refl ok (.bl _)⟩
    cases r1 with
    | int i =>
      cases r2 with
      | int j => exact .inl ⟨rfl, by have := k _ _ _ _ h .refl ok (.bl _); simpa using this⟩
      | _ => exact .inr (gen h)
    | str i =>
      cases r2 with
      | str j => exact .inl ⟨rfl, by have := k _ _ _ _ h .refl ok (.bl _); simpa using this⟩
      | _ => exact .inr (gen h)
    | bl i =>
      cases r2 with
      | bl j => exact .inl ⟨rfl, by have := k _ _ _ _ h .refl ok (.bl _); simpa using this⟩
      | _ => exact .inr (gen h)
    | _ => cases r2 <;> exact .inr (gen h)
theorem dop_neQ (hu : X.A.units + 64 < cLine) : DOp X (compareOp .NotEq) dNeQ :=
  OpR.imp (OpR.or op_ne (op_neD hu)) fun v u H Q ⟨x, y, G, Z, Q0, ok, r1, r2, h, k⟩ => by
    have gen : (∃ p q, DD G x p ∧ DD G y q ∧ SeqAt.shaped p = true ∧ SeqAt.shaped q = true ∧ Q0 (.bl (!PyData.eqv p q)) G) → rNeD X.K v u H Q :=
      fun ⟨p, q, e1, e2, s1, s2, h⟩ => ⟨p, q, e1.dp ok r1, e2.dp ok r2, s1, s2, k _ _ _ _ h .refl ok (.bl _)⟩
    cases r1 with
    | int i =>
      cases r2 with
      | int j => exact .inl ⟨rfl, by have := k _ _ _ _ h .refl ok (.bl _); simpa using this⟩
      | _ => exact .inr (gen h)
    | str i =>
      cases r2 with
      | str j => exact .inl ⟨rfl, by have := k _ _ _ _ h .refl ok (.bl _); simpa using this⟩
      | _ => exact .inr (gen h)
    | bl i =>
      cases r2 with
      | bl j => exact .inl ⟨rfl, by have := k _ _ _ _ h .refl ok (.bl _); simpa using this⟩
      | _ => exact .inr (gen h)
    | _ => cases r2 <;> exact .inr (gen h)
end
/-! shapes -/
/-- laid with depth n at most -/
def Shp (n : Nat) (p : PyData) : Prop := p.canLay0 = true ∧ p.depth ≤ n
def Shps (n : Nat) (ps : List PyData) : Prop := PyData.canLayAll0 ps = true ∧ PyData.depthAll ps ≤ n
theorem Shp.ok {n : Nat} {p : PyData} (h : Shp n p) (hn : n ≤ 64) : SeqAt.shaped p = true := by
  unfold SeqAt.shaped
  rw [Bool.and_eq_true_iff]
  exact ⟨h.1, decide_eq_true (by have := h.2; omega)⟩
theorem Shp.int {n : Nat} (i : Int) : Shp n (.int i) := ⟨by simp [PyData.canLay0], by simp [PyData.depth]⟩
theorem Shp.bl {n : Nat} (i : Bool) : Shp n (.bool i) := ⟨by simp [PyData.canLay0], by simp [PyData.depth]⟩
theorem Shp.non {n : Nat} : Shp n .none := ⟨by simp [PyData.canLay0], by simp [PyData.depth]⟩
theorem Shps.nil {n : Nat} : Shps n [] := ⟨by simp [PyData.canLayAll0], by simp [PyData.depthAll]⟩
theorem Shps.cons {n : Nat} {p : PyData} {ps : List PyData} (h : Shp n p) (t : Shps n ps) : Shps n (p :: ps) :=
  ⟨by simp only [PyData.canLayAll0, h.1, t.1, Bool.and_self], by have := h.2; have := t.2; simp only [PyData.depthAll]; omega⟩
theorem Shps.of {n : Nat} : ∀ {ps : List PyData}, (∀ p ∈ ps, Shp n p) → Shps n ps
  | [], _ => .nil
  | p :: r, h => .cons (h p List.mem_cons_self) (Shps.of fun q hq => h q (List.mem_cons_of_mem _ hq))
theorem Shps.list {n : Nat} {ps : List PyData} (h : Shps n ps) : Shp (n + 1) (.list ps) := ⟨by simpa only [PyData.canLay0] using h.1, by have := h.2; simp only [PyData.depth]; omega⟩
theorem Shps.tuple {n : Nat} {ps : List PyData} (h : Shps n ps) : Shp (n + 1) (.tuple ps) := ⟨by simpa only [PyData.canLay0] using h.1, by have := h.2; simp only [PyData.depth]; omega⟩
theorem Shps.ints {n : Nat} (ns : List Int) : Shps n (ns.map .int) := .of fun p hp => by
  obtain ⟨i, _, rfl⟩ := List.mem_map.mp hp
  exact .int i
theorem DDs.ints {G : GHp} : ∀ ns : List Int, DDs G (ns.map .int) (ns.map .int)
  | [] => .nil
  | n :: r => .cons (.int n) (DDs.ints r)
theorem eqv_nil_r : ∀ ps : List PyData, PyData.eqv (.list ps) (.list []) = ps.isEmpty
  | [] => by simp [PyData.eqv, PyData.eqvAll]
  | p :: r => by simp [PyData.eqv, PyData.eqvAll]
mutual
theorem DD.len {G : GHp} : ∀ {ds : List D} {ps : List PyData}, DDs G ds ps → ds.length = ps.length
  | _, _, .nil => rfl
  | _, _, .cons _ t => by simp [DD.len t]
end
/-- xs == [] -/
theorem eq_nilL {G : GHp} {Q : DK} {ds : List D} {ps : List PyData} (d : DDs G ds ps) (s : Shps 63 ps) (h : Q (.bl ds.isEmpty) G) : dEqQ (.lst ds) (.lst []) G Q :=
  ⟨_, _, .lst d, .lst .nil, s.list.ok (by decide), (Shps.nil (n := 0)).list.ok (by decide), by
    rw [eqv_nil_r]
    have e := DD.len d
    cases ds <;> cases ps <;> simp_all⟩
theorem eq_nilR {G : GHp} {Q : DK} {a : Addr} {ds : List D} {ps : List PyData} (e : G a = some (.lst ds)) (d : DDs G ds ps) (s : Shps 63 ps) (h : Q (.bl ds.isEmpty) G) : dEqQ (.ref a) (.lst []) G Q :=
  ⟨_, _, .ref e d, .lst .nil, s.list.ok (by decide), (Shps.nil (n := 0)).list.ok (by decide), by
    rw [eqv_nil_r]
    have e := DD.len d
    cases ds <;> cases ps <;> simp_all⟩
theorem ne_nilL {G : GHp} {Q : DK} {ds : List D} {ps : List PyData} (d : DDs G ds ps) (s : Shps 63 ps) (h : Q (.bl (!ds.isEmpty)) G) : dNeQ (.lst ds) (.lst []) G Q :=
  ⟨_, _, .lst d, .lst .nil, s.list.ok (by decide), (Shps.nil (n := 0)).list.ok (by decide), by
    rw [eqv_nil_r]
    have e := DD.len d
    cases ds <;> cases ps <;> simp_all⟩
theorem ne_nilR {G : GHp} {Q : DK} {a : Addr} {ds : List D} {ps : List PyData} (e : G a = some (.lst ds)) (d : DDs G ds ps) (s : Shps 63 ps) (h : Q (.bl (!ds.isEmpty)) G) : dNeQ (.ref a) (.lst []) G Q :=
  ⟨_, _, .ref e d, .lst .nil, s.list.ok (by decide), (Shps.nil (n := 0)).list.ok (by decide), by
    rw [eqv_nil_r]
    have e := DD.len d
    cases ds <;> cases ps <;> simp_all⟩
end DL
set_option linter.all false
set_option maxRecDepth 100000
set_option maxHeartbeats 1000000
/-! DL, part 10: what many laws draw and compare by. -/
namespace DL
open PySem PySem.Spec L2
def tBox : DTS :=
  (dRet (dLstM (dCons (dCB (dR2 dMax2R) (dCons (dC (.int 0)) (dCons (dOp (dI0 fun i j => .int (i - j)) (dVar 0) (dOp (dI CPow fun i j => .int (i ^ j.toNat)) (dC (.int 10)) (dC (.int 18)))) dNil))) (dCons (dOp (dI (fun _ j => 0 < j) fun i j => .int (i % j)) (dCB (dR1 dIntR) (dCons (dVar 0) dNil)) (dC (.int 2147483587))) (dCons (dC (.int 0)) dNil)))))
def tTake : DTS :=
  (dSeq (dIf (dTestB (dOp (dCmpR (fun i j => decide (j < i)) (fun a b => decide (b < a))) (dOp dIxR (dVar 0) (dC (.int 0))) (dC (.int 0)))) (dSeq (dAsg (dOp (dI (fun _ j => 0 < j) fun i j => .int (i % j)) (dCB (dR1 dIntR) (dCons (dOp dIxR (dVar 0) (dC (.int 0))) dNil)) (dVar 1)) (.nm 2))
  (dSeq (dSub (dOp (dI CDivW fun i j => .int (i / j)) (dOp dIxR (dVar 0) (dC (.int 0))) (dVar 1)) (dVar 0) (dC (.int 0)))
  (dRet (dVar 2)))) dNext)
  (dSeq (dSub (dOp dAddR (dOp dIxR (dVar 0) (dC (.int 2))) (dC (.int 1))) (dVar 0) (dC (.int 2)))
  (dSeq (dAsg (dOp (dI (fun _ j => 0 < j) fun i j => .int (i % j)) (dCB (dR1 dIntR) (dCons (dOp (dI CPow fun i j => .int (i ^ j.toNat)) (dOp dAddR (dOp dAddR (dOp dIxR (dVar 0) (dC (.int 1))) (dOp (dI MulOk fun i j => .int (i * j)) (dC (.int 7001)) (dOp dIxR (dVar 0) (dC (.int 2))))) (dC (.int 37))) (dC (.int 5))) dNil)) (dC (.int 2147483647))) (.nm 3))
  (dSeq (dAsg (dOp (dI (fun _ j => 0 < j) fun i j => .int (i % j)) (dCB (dR1 dIntR) (dCons (dOp (dI CPow fun i j => .int (i ^ j.toNat)) (dOp dAddR (dOp (dI MulOk fun i j => .int (i * j)) (dOp dIxR (dVar 0) (dC (.int 1))) (dOp dIxR (dVar 0) (dC (.int 2)))) (dC (.int 65003))) (dC (.int 3))) dNil)) (dC (.int 2147483629))) (.nm 4))
  (dRet (dOp (dI (fun _ j => 0 < j) fun i j => .int (i % j)) (dOp (dI CDivW fun i j => .int (i / j)) (dOp dAddR (dOp (dI MulOk fun i j => .int (i * j)) (dVar 3) (dC (.int 2147483629))) (dVar 4)) (dC (.int 8))) (dVar 1)))))))
def tSame (sp_law_same : DSp) : DTS :=
  (dSeq (dIf (dOr (dTestB (dOp dIsR (dVar 1) (dC .non))) (dTest (dCB (dR2 dIsiR) (dCons (dVar 1) (dCons (dC (.ty .bool)) dNil))))) (dRet (dIfE (dTestB (dOp dIsR (dVar 1) (dC .non))) (dOp dIsR (dVar 0) (dC .non)) (dAndV (dCB (dR2 dIsiR) (dCons (dVar 0) (dCons (dC (.ty .bool)) dNil))) (dOp dEqQ (dOp dIsR (dVar 0) (dC (.bl true))) (dOp dIsR (dVar 1) (dC (.bl true))))))) dNext)
  (dSeq (dIf (dTest (dCB (dR2 dIsiR) (dCons (dVar 1) (dCons (dC (.ty .int)) dNil)))) (dRet (dAndV (dCB (dR2 dIsiR) (dCons (dVar 0) (dCons (dC (.ty .int)) dNil))) (dAndV (dNotV (dCB (dR2 dIsiR) (dCons (dVar 0) (dCons (dC (.ty .bool)) dNil)))) (dOp dEqQ (dOp (dI0 fun i j => .int (i - j)) (dCB (dR1 dIntR) (dCons (dVar 0) dNil)) (dVar 1)) (dC (.int 0)))))) dNext)
  (dSeq (dIf (dTest (dCB (dR2 dIsiR) (dCons (dVar 1) (dCons (dC (.ty .str)) dNil)))) (dSeq (dIf (dOr (dNot (dTest (dCB (dR2 dIsiR) (dCons (dVar 0) (dCons (dC (.ty .str)) dNil))))) (dTestB (dOp dNeQ (dCB (dR1 dLenR) (dCons (dVar 0) dNil)) (dCB (dR1 dLenR) (dCons (dVar 1) dNil))))) (dRet (dC (.bl false))) dNext)
  (dRet (dOp dEqQ (dLc false (dRng1 (dCB (dR1 dLenR) (dCons (dVar 1) dNil))) (.nm 2) (dTestB (dOp dNeQ (dSl (dSlR false) (dVar 0) (dPart (dVar 2)) (dPart (dOp dAddR (dVar 2) (dC (.int 1))))) (dOp dIxR (dVar 1) (dVar 2)))) (dVar 2) [2]) (dLst dNil)))) dNext)
  (dSeq (dIf (dOr (dTestB (dOp dNeQ (dCB (dR2 dIsiR) (dCons (dVar 0) (dCons (dC (.ty .lst)) dNil))) (dCB (dR2 dIsiR) (dCons (dVar 1) (dCons (dC (.ty .lst)) dNil))))) (dTestB (dOp dNeQ (dCB (dR2 dIsiR) (dCons (dVar 0) (dCons (dC (.ty .tup)) dNil))) (dCB (dR2 dIsiR) (dCons (dVar 1) (dCons (dC (.ty .tup)) dNil)))))) (dRet (dC (.bl false))) dNext)
  (dRet (dAndV (dOp dEqQ (dCB (dR1 dLenR) (dCons (dVar 0) dNil)) (dCB (dR1 dLenR) (dCons (dVar 1) dNil))) (dOp dEqQ (dLc false (dRng1 (dCB (dR1 dLenR) (dCons (dVar 1) dNil))) (.nm 2) (dNot (dTest (dCall sp_law_same [] (dCons (dOp dIxR (dVar 0) (dVar 2)) (dCons (dOp dIxR (dVar 1) (dVar 2)) dNil))))) (dVar 2) [2]) (dLst dNil))))))))
theorem qb {Q : DK} {G : GHp} {b : Bool} (e : b = true) (h : Q (.bl true) G) : Q (.bl b) G := e ▸ h
theorem ft {P : Prop} (e : false = true) : P := nomatch e
theorem tf {P : Prop} (e : true = false) : P := nomatch e
theorem qi {Q : DK} {G : GHp} {i j : Int} (e : i = j) (h : Q (.int i) G) : Q (.int j) G := e ▸ h

theorem mul_small {i j : Int} (h : (-(2 ^ 64) < i ∧ i < 2 ^ 64) ∨ (-(2 ^ 64) < j ∧ j < 2 ^ 64)) : MulOk i j := .inl h
theorem pow_small {i j : Int} (h : 0 ≤ j ∧ j ≤ 1000000 ∧ i.natAbs < 2 ^ 64) : L2.CPow i j := h
theorem divw_small {i j : Int} (h : 0 < j) (h2 : j.natAbs < 2 ^ 1000) : L2.CDivW i j := ⟨h, by
  have h3 : j.natAbs ≠ 0 := by omega
  have := (Nat.log2_lt h3).mpr h2
  omega⟩
theorem rd_take : ∀ x m G Q (E : DXK), (∃ (p : Addr) (s : Bx) (k : Nat) (n : Int), x = .ref p ∧ G p = some s.go ∧ s.Ok k ∧ k < 2 ^ 30 ∧ m = .int n ∧ 0 < n ∧ n.natAbs < 2 ^ 1000 ∧
  ∀ (v : Int) (s' : Bx), 0 ≤ v → v < n → s'.Ok (k + 1) → Q (.int v) (gupd G p s'.go)) → DRun tTake [some x, some m, none, none, none] G Q := by
  rintro x m G Q E ⟨p, ⟨a, b, c⟩, k, n, rfl, hp, ⟨a0, b0, b1, c0, c1⟩, hk, rfl, hn, hn2, h⟩
  change G p = some (.lst [.int a, .int b, .int c]) at hp
  change 0 ≤ a at a0
  change 0 ≤ b at b0
  change b < _ at b1
  change 0 ≤ c at c0
  change c ≤ _ at c1
  have hl : lsOf G (.ref p) = some [.int a, .int b, .int c] := lsOf_ref hp
  conv => whnf
  rw [hl]
  conv => whnf
  refine ⟨fun e => ?_, fun e => ?_⟩
  · have ha : 0 < a := of_decide_eq_true e
    conv => whnf
    rw [hl]
    conv => whnf
    refine ⟨hn, ?_⟩
    conv => whnf
    rw [hl]
    conv => whnf
    refine ⟨divw_small hn hn2, ?_⟩
    conv => whnf
    rw [hp]
    conv => whnf
    exact h _ ⟨a / n, b, c⟩ (Int.emod_nonneg _ (by omega)) (Int.emod_lt_of_pos _ hn) ⟨Int.ediv_nonneg a0 (by omega), b0, b1, c0, by show c ≤ _; omega⟩
  · have ha : a ≤ 0 := by have := of_decide_eq_false e; omega
    conv => whnf
    rw [hl]
    conv => whnf
    rw [hp]
    conv => whnf
    rw [lsOf_ref gupd_same]
    conv => whnf
    rw [lsOf_ref gupd_same]
    conv => whnf
    refine ⟨mul_small (.inl (by omega)), ?_⟩
    conv => whnf
    refine ⟨pow_small (by omega), ?_⟩
    conv => whnf
    refine ⟨by omega, ?_⟩
    conv => whnf
    rw [lsOf_ref gupd_same]
    conv => whnf
    rw [lsOf_ref gupd_same]
    conv => whnf
    refine ⟨mul_small (.inl (by omega)), ?_⟩
    conv => whnf
    refine ⟨pow_small ⟨by omega, by omega, ?_⟩, ?_⟩
    · have := Int.mul_le_mul_of_nonneg_right (show b ≤ 2147483648 by omega) (show 0 ≤ c + 1 by omega)
      have h0 : 0 ≤ b * (c + 1) := Int.mul_nonneg b0 (by omega)
      show (b * (c + 1) + 65003).natAbs < _
      omega
    conv => whnf
    refine ⟨by omega, ?_⟩
    conv => whnf
    refine ⟨mul_small (.inr (by omega)), ?_⟩
    conv => whnf
    refine ⟨⟨by decide, by decide⟩, ?_⟩
    conv => whnf
    refine ⟨hn, ?_⟩
    conv => whnf
    exact h _ ⟨a, b, c + 1⟩ (Int.emod_nonneg _ (by omega)) (Int.emod_lt_of_pos _ hn) ⟨a0, b0, b1, by show 0 ≤ c + 1; omega, by show c + 1 ≤ _; omega⟩
theorem rd_box : ∀ x G Q (E : DXK), (∃ z : Int, x = .int z ∧ ∀ (p : Addr) (s : Bx), G p = none → s.Ok 0 → Q (.ref p) (gupd G p s.go)) → DRun tBox [some x] G Q := by
  rintro x G Q E ⟨z, rfl, h⟩
  conv => whnf
  refine ⟨pow_small (by decide), ?_⟩
  conv => whnf
  refine ⟨by omega, ?_⟩
  conv => whnf
  refine ⟨by show 3 ≤ sizeLine; decide, fun p hp => ?_⟩
  exact h p ⟨max 0 (z - 10 ^ 18), z % 2147483587, 0⟩ hp ⟨by show 0 ≤ max 0 _; omega, Int.emod_nonneg _ (by omega), by have := Int.emod_lt_of_pos z (show (0 : Int) < 2147483587 by omega); show z % _ < _; omega, by show (0 : Int) ≤ 0; decide, by show (0 : Int) ≤ 0; decide⟩

theorem smallL {n : Nat} (h : n ≤ 100000) : n ≤ sizeLine := Nat.le_trans h (by decide)
theorem smallLt {n : Nat} (h : n < 100000) : n < sizeLine := Nat.lt_of_lt_of_le h (by decide)

theorem isEmpty_map {α β : Type} (f : α → β) (l : List α) : (l.map f).isEmpty = l.isEmpty := by cases l <;> rfl

theorem filter_no {α : Type} (l : List α) : l.filter (fun _ => false) = [] := by simp

theorem filter_yes {α : Type} (l : List α) : l.filter (fun _ => true) = l := by simp

/-- None, truths, whole numbers, lists and tuples of such, below depth n -/
def fz : Nat → D → Bool
  | 0, _ => false
  | _ + 1, .non => true
  | _ + 1, .bl _ => true
  | _ + 1, .int _ => true
  | n + 1, .tup ds => decide (ds.length ≤ 1000) && ds.all (fz n)
  | n + 1, .lst ds => decide (ds.length ≤ 1000) && ds.all (fz n)
  | _ + 1, _ => false
def prSame (n : Nat) (x y : D) (G : GHp) (Q : DK) : Prop := ∃ S, Tree G S x y ∧ fz n y = true ∧ Q (.bl true) G
def spSame (n : Nat) : DSp := sp2 fun x y G Q _ => prSame n x y G Q
theorem no_same {ds : List D} {G : GHp} {Q : DK} {E : DXK} (h : spSame 0 ds G Q E) : False := by
  match ds, h with
  | [x, y], ⟨S, _, h, _⟩ => cases h
theorem rd_sameG (n : Nat) {sp : DSp} (hsp : ∀ ds G Q E, spSame n ds G Q E → sp ds G Q E) : ∀ x y G Q (E : DXK), prSame (n + 1) x y G Q → DRun (tSame sp) [some x, some y, none] G Q := by
  rintro x y G Q E ⟨S, ht, hz, h⟩
  cases y with
  | non =>
    cases ht
    conv => whnf
    refine ⟨fun _ => ?_, fun e => tf e⟩
    conv => whnf
    refine ⟨fun _ => ?_, fun e => tf e⟩
    conv => whnf
    exact ⟨fun _ => h, fun e => tf e⟩
  | bl b =>
    cases ht
    conv => whnf
    refine ⟨fun e => ft e, fun _ => ?_⟩
    conv => whnf
    refine ⟨fun _ => ?_, fun e => tf e⟩
    conv => whnf
    refine ⟨fun e => ft e, fun _ => ?_⟩
    conv => whnf
    refine ⟨fun _ => ?_, fun e => tf e⟩
    conv => whnf
    exact qb (decide_eq_true rfl) h
  | int i =>
    cases ht
    conv => whnf
    refine ⟨fun e => ft e, fun _ => ?_⟩
    conv => whnf
    refine ⟨fun e => ft e, fun _ => ?_⟩
    conv => whnf
    refine ⟨fun _ => ?_, fun e => tf e⟩
    conv => whnf
    refine ⟨fun _ => ?_, fun e => tf e⟩
    conv => whnf
    refine ⟨fun _ => ?_, fun e => tf e⟩
    conv => whnf
    exact qb (decide_eq_true (by omega)) h
  | lst ts =>
    have hz : (decide (ts.length ≤ 1000) && ts.all (fz n)) = true := hz
    rw [Bool.and_eq_true] at hz
    have hl := of_decide_eq_true hz.1
    have hall := List.all_eq_true.mp hz.2
    have key : ∀ (ds : List D), Trees G S ds ts → (x = .lst ds ∨ ∃ a, x = .ref a ∧ G a = some (.lst ds)) → DRun (tSame sp) [some x, some (.lst ts), none] G Q := by
      intro ds tr hx
      have el := tr.length
      rcases hx with rfl | ⟨a, rfl, ha⟩
      · conv => whnf
        refine ⟨fun e => ft e, fun _ => ?_⟩
        conv => whnf
        refine ⟨fun e => ft e, fun _ => ?_⟩
        conv => whnf
        refine ⟨fun e => ft e, fun _ => ?_⟩
        conv => whnf
        refine ⟨fun e => ft e, fun _ => ?_⟩
        conv => whnf
        refine ⟨fun e => ft e, fun _ => ?_⟩
        conv => whnf
        refine ⟨fun e => ft e, fun _ => ?_⟩
        conv => whnf
        refine ⟨fun _ => ?_, fun e => absurd (of_decide_eq_false e) (fun q => q (by rw [el]))⟩
        conv => whnf
        refine ⟨by unfold RgB; omega, ?_⟩
        refine lc_map (enc := fun (i : Nat) => D.int (0 + i)) (keep := fun _ => false) (f := fun i => D.int (0 + i)) (smallL (by rw [List.length_range]; omega)) trivial (fun i hi R hR => ?_) (fun d hd _ R hR => hR) ?_
        · have hi : i < ts.length := by have := List.mem_range.mp hi; omega
          conv => whnf
          refine atD_get (d := ds[i]'(by omega)) (by omega) (by omega) (by rw [show ((0 : Int) + (i : Int)).toNat = i by omega, List.getElem?_eq_getElem (by omega)]) ?_
          conv => whnf
          refine atD_get (d := ts[i]) (by omega) (by omega) (by rw [show ((0 : Int) + (i : Int)).toNat = i by omega, List.getElem?_eq_getElem (by omega)]) ?_
          conv => whnf
          obtain ⟨t, e1, e2⟩ := tr.get (i := i) (d := ds[i]'(by omega)) (List.getElem?_eq_getElem (by omega))
          rw [List.getElem?_eq_getElem hi] at e1
          cases e1
          refine hsp [_, _] _ _ _ ⟨S, e2, hall _ (List.getElem_mem hi), ?_⟩
          exact hR
        · rw [filter_no]
          conv => whnf
          refine ⟨smallL (by simp), ?_⟩
          exact eq_nilL .nil .nil h
      · conv => whnf
        refine ⟨fun e => ft e, fun _ => ?_⟩
        conv => whnf
        refine ⟨fun e => ft e, fun _ => ?_⟩
        conv => whnf
        refine ⟨fun e => ft e, fun _ => ?_⟩
        conv => whnf
        refine ⟨fun e => ft e, fun _ => ?_⟩
        conv => whnf
        rw [show tgOf G (.ref a) = some .lst by unfold tgOf; simp only [ha]]
        conv => whnf
        refine ⟨fun e => ft e, fun _ => ?_⟩
        conv => whnf
        rw [show tgOf G (.ref a) = some .lst by unfold tgOf; simp only [ha]]
        conv => whnf
        refine ⟨fun e => ft e, fun _ => ?_⟩
        conv => whnf
        rw [lsOf_ref ha]
        conv => whnf
        refine ⟨fun _ => ?_, fun e => absurd (of_decide_eq_false e) (fun q => q (by rw [el]))⟩
        conv => whnf
        refine ⟨by unfold RgB; omega, ?_⟩
        refine lc_map (enc := fun (i : Nat) => D.int (0 + i)) (keep := fun _ => false) (f := fun i => D.int (0 + i)) (smallL (by rw [List.length_range]; omega)) trivial (fun i hi R hR => ?_) (fun d hd _ R hR => hR) ?_
        · have hi : i < ts.length := by have := List.mem_range.mp hi; omega
          conv => whnf
          rw [lsOf_ref ha]
          refine atD_get (d := ds[i]'(by omega)) (by omega) (by omega) (by rw [show ((0 : Int) + (i : Int)).toNat = i by omega, List.getElem?_eq_getElem (by omega)]) ?_
          conv => whnf
          refine atD_get (d := ts[i]) (by omega) (by omega) (by rw [show ((0 : Int) + (i : Int)).toNat = i by omega, List.getElem?_eq_getElem (by omega)]) ?_
          conv => whnf
          obtain ⟨t, e1, e2⟩ := tr.get (i := i) (d := ds[i]'(by omega)) (List.getElem?_eq_getElem (by omega))
          rw [List.getElem?_eq_getElem hi] at e1
          cases e1
          refine hsp [_, _] _ _ _ ⟨S, e2, hall _ (List.getElem_mem hi), ?_⟩
          exact hR
        · rw [filter_no]
          conv => whnf
          refine ⟨smallL (by simp), ?_⟩
          exact eq_nilL .nil .nil h
    cases ht with
    | same => exact key ts (Trees.same ts) (.inl rfl)
    | lst tr => exact key _ tr (.inl rfl)
    | ref hs ha tr => exact key _ tr (.inr ⟨_, rfl, ha⟩)
  | tup ts =>
    have hz : (decide (ts.length ≤ 1000) && ts.all (fz n)) = true := hz
    rw [Bool.and_eq_true] at hz
    have hl := of_decide_eq_true hz.1
    have hall := List.all_eq_true.mp hz.2
    have key : ∀ (ds : List D), Trees G S ds ts → DRun (tSame sp) [some (.tup ds), some (.tup ts), none] G Q := by
      intro ds tr
      have el := tr.length
      conv => whnf
      refine ⟨fun e => ft e, fun _ => ?_⟩
      conv => whnf
      refine ⟨fun e => ft e, fun _ => ?_⟩
      conv => whnf
      refine ⟨fun e => ft e, fun _ => ?_⟩
      conv => whnf
      refine ⟨fun e => ft e, fun _ => ?_⟩
      conv => whnf
      refine ⟨fun e => ft e, fun _ => ?_⟩
      conv => whnf
      refine ⟨fun e => ft e, fun _ => ?_⟩
      conv => whnf
      refine ⟨fun _ => ?_, fun e => absurd (of_decide_eq_false e) (fun q => q (by rw [el]))⟩
      conv => whnf
      refine ⟨by unfold RgB; omega, ?_⟩
      refine lc_map (enc := fun (i : Nat) => D.int (0 + i)) (keep := fun _ => false) (f := fun i => D.int (0 + i)) (smallL (by rw [List.length_range]; omega)) trivial (fun i hi R hR => ?_) (fun d hd _ R hR => hR) ?_
      · have hi : i < ts.length := by have := List.mem_range.mp hi; omega
        conv => whnf
        refine atD_get (d := ds[i]'(by omega)) (by omega) (by omega) (by rw [show ((0 : Int) + (i : Int)).toNat = i by omega, List.getElem?_eq_getElem (by omega)]) ?_
        conv => whnf
        refine atD_get (d := ts[i]) (by omega) (by omega) (by rw [show ((0 : Int) + (i : Int)).toNat = i by omega, List.getElem?_eq_getElem (by omega)]) ?_
        conv => whnf
        obtain ⟨t, e1, e2⟩ := tr.get (i := i) (d := ds[i]'(by omega)) (List.getElem?_eq_getElem (by omega))
        rw [List.getElem?_eq_getElem hi] at e1
        cases e1
        refine hsp [_, _] _ _ _ ⟨S, e2, hall _ (List.getElem_mem hi), ?_⟩
        exact hR
      · rw [filter_no]
        conv => whnf
        refine ⟨smallL (by simp), ?_⟩
        exact eq_nilL .nil .nil h
    cases ht with
    | same => exact key ts (Trees.same ts)
    | tup tr => exact key _ tr
  | _ => cases hz
theorem rd_same (n : Nat) : ∀ x y G Q (E : DXK), prSame (n + 1) x y G Q → DRun (tSame (spSame n)) [some x, some y, none] G Q := rd_sameG n fun _ _ _ _ h => h

/-- a box at p, drawn from k times at most; all else as in G0 -/
def Bk (G0 : GHp) (p : Addr) (k : Nat) (G : GHp) : Prop := (∃ s : Bx, G p = some s.go ∧ s.Ok k) ∧ ∀ b, b ≠ p → G b = G0 b
theorem Bk.mono {G0 G : GHp} {p : Addr} {j k : Nat} (h : Bk G0 p j G) (hk : j ≤ k) : Bk G0 p k G := by
  obtain ⟨⟨s, h1, h2⟩, h3⟩ := h
  exact ⟨⟨s, h1, h2.mono hk⟩, h3⟩
theorem tk {sp : DSp} (hsp : ∀ ds G Q E, spTake ds G Q E → sp ds G Q E) {G0 G : GHp} {p : Addr} {k : Nat} {n : Int} {Q : DK} {E : DXK} (B : Bk G0 p k G) (hk : k < 1000000) (hn : 0 < n) (hb : n < 2 ^ 64) (h : ∀ v G', 0 ≤ v → v < n → Bk G0 p (k + 1) G' → Q (.int v) G') : sp [.ref p, .int n] G Q E := by
  apply hsp
  obtain ⟨⟨s, h1, h2⟩, h3⟩ := B
  refine ⟨p, s, k, n, rfl, h1, h2, by omega, rfl, hn, Nat.lt_of_lt_of_le (show n.natAbs < 2 ^ 64 by omega) (Nat.pow_le_pow_right (by decide) (by decide)), fun v s' a b c => h v _ a b ⟨⟨s', gupd_same, c⟩, fun b hb => ?_⟩⟩
  rw [gupd_ne hb]; exact h3 b hb
theorem Bk.put {G0 G : GHp} {p q : Addr} {k : Nat} {o o' : GO} (B : Bk (gupd G0 q o) p k G) (hq : q ≠ p) : Bk (gupd G0 q o') p k (gupd G q o') := by
  obtain ⟨⟨s, h1, h2⟩, h3⟩ := B
  refine ⟨⟨s, gupd_at hq.symm h1, h2⟩, fun b hb => ?_⟩
  by_cases e : b = q
  · subst e; rw [gupd_same, gupd_same]
  · rw [gupd_ne e, gupd_ne e, h3 b hb, gupd_ne e]
theorem Bk.new {G0 G : GHp} {p q : Addr} {k : Nat} {o : GO} (B : Bk G0 p k G) (hq : q ≠ p) : Bk (gupd G0 q o) p k (gupd G q o) := by
  obtain ⟨⟨s, h1, h2⟩, h3⟩ := B
  refine ⟨⟨s, gupd_at hq.symm h1, h2⟩, fun b hb => ?_⟩
  by_cases e : b = q
  · subst e; rw [gupd_same, gupd_same]
  · rw [gupd_ne e, gupd_ne e, h3 b hb]
theorem Bk.at_ {G0 G : GHp} {p q : Addr} {k : Nat} {o : GO} (B : Bk (gupd G0 q o) p k G) (hq : q ≠ p) : G q = some o := by rw [B.2 q hq, gupd_same]
theorem Bk.ne {G0 G : GHp} {p q : Addr} {k : Nat} (B : Bk G0 p k G) (hq : G q = none) : q ≠ p := fun e => by
  obtain ⟨⟨s, h1, _⟩, _⟩ := B
  rw [e, h1] at hq; cases hq

end DL
set_option Elab.async false
set_option linter.all false
set_option maxRecDepth 100000
set_option maxHeartbeats 1000000
/-! DL, part 11: enumerate of a tuple; comprehensions with any target. -/
namespace DL
open PySem PySem.Spec L2 PyProof.Rows

theorem meets_enumT (l : Addr) (items : Array Value) :
    Meets (Builtin.«enumerate.__new__» ⟨[.type "enumerate", .ref l], []⟩) (fun _ R s => s.heap.IsTuple l items ∧
      R (.ok (.ret (.ref (s.heap.push { cls := .type "tuple_iterator", data := .fields #[.ref l, .int 0 0] }).objs.size)))
        { s with heap := (s.heap.push { cls := .type "tuple_iterator", data := .fields #[.ref l, .int 0 0] }).push { cls := .type "enumerate", data := .fields #[.none, .bool false, .ref s.heap.objs.size, rawInt 0, .none, .none] } }) :=
  .of_wp fun prog w A R s h => by
    obtain ⟨hp, g, d, tk, os⟩ := s
    obtain ⟨hL, h⟩ := h
    have hsub := sub_enumerate
    have q1 : ∀ {A' : Around} {E : Value → Shared → Prop} {Q : Value → Shared → Prop}, Q (.ref hp.objs.size) ⟨hp.push { cls := .type "tuple_iterator", data := .fields #[.ref l, .int 0 0] }, g, d, tk, os⟩ → wpAny (model prog w) A' (pyIter (.ref l)) Q E ⟨hp, g, d, tk, os⟩ :=
      fun q => wpAny_pyIter_tuple hL q
    wp_walk using q1
    refine wpAny_stack_any fun st => wpAny_pure ?_
    split
    · rename_i c _ _ _ _ _
      cases (c == Value.type "enumerate")
      · wp_walk using q1
        exact ⟨_, rfl, h⟩
      · wp_walk using q1
        exact ⟨_, rfl, h⟩
    · wp_walk using q1
      exact ⟨_, rfl, h⟩
section
variable {prog : Program} {w : World} {A : Around} {E : Value → Shared → Prop} {s : Shared}
theorem call_enumT {l : Addr} {items : Array Value} {Q : Value → Shared → Prop} (hL : s.heap.IsTuple l items)
    (h : ∀ h', IsEnum h' (s.heap.objs.size + 1) s.heap.objs.size 0 .none → h'.IsTupleIter s.heap.objs.size l 0 → h'.objs.size = s.heap.objs.size + 2 →
      (∀ b o, s.heap.get? b = some o → h'.get? b = some o) → Q (.ref (s.heap.objs.size + 1)) { s with heap := h' }) :
    wpAny (model prog w) A (call (.type "enumerate") [.ref l]) Q E s := by
  refine callType_new F.called_enumerate (by decide) (F.typeCall_enumerate_1 _) (F.newCall_enumerate_1 _) (fun obj => F.args_object_init_2 obj _) F.entry_enumerate_new
    (meets_enumT l items) ⟨hL, ?_⟩
  have hz : (s.heap.push { cls := .type "tuple_iterator", data := .fields #[.ref l, .int 0 0] }).objs.size = s.heap.objs.size + 1 := Heap.size_push ..
  show _ ∧ _
  rw [hz]
  have he : IsEnum ((s.heap.push { cls := .type "tuple_iterator", data := .fields #[.ref l, .int 0 0] }).push
      { cls := .type "enumerate", data := .fields #[.none, .bool false, .ref s.heap.objs.size, rawInt 0, .none, .none] }) (s.heap.objs.size + 1) s.heap.objs.size 0 .none := by
    have := Heap.get?_push_size (s.heap.push { cls := .type "tuple_iterator", data := .fields #[.ref l, .int 0 0] })
      (o := { cls := .type "enumerate", data := .fields #[.none, .bool false, .ref s.heap.objs.size, rawInt 0, .none, .none] }) rfl
    rw [hz] at this; exact this
  exact ⟨⟨_, he, rfl⟩, h _ he ⟨_, Heap.get?_push_of_some _ (Heap.get?_push_size _ rfl), rfl, rfl⟩ (by rw [Heap.size_push, hz]) fun b o x => Heap.get?_push_of_some _ (Heap.get?_push_of_some _ x)⟩
end
/-- the tuple at a, each item in a new pair -/
def IteT (K : PySem.W.Frag) (a : Addr) : It :=
  ⟨fun i H => ∃ (xs : List V) (x : V), SqT K H a xs ∧ xs[i]? = some x, fun i H v H' => ∃ T x, v = .ref T ∧ H T = none ∧ H' = upd H T (.tup [.int (i : Nat), x]) ∧ ∀ xs, SqT K H a xs → xs[i]? = some x, fun i H => ∃ xs : List V, SqT K H a xs ∧ xs.length ≤ i⟩
theorem turn_enumT {P : Program} {w : World} {K : PySem.W.Frag} {elts : List Expr} {kk : Nat} {tpos : Pos} (a e it : Addr) :
    Turn P w K (.Tuple elts kk tpos) (IteT K a) [e, it] e (fun i h => (∃ old, IsEnum h e it ((i : Nat) : Int) old) ∧ h.IsTupleIter it a i ∧ e ≠ it ∧ a ≠ it ∧ a ≠ e) where
  mem := by simp
  obj := fun i h st b hb => by
    obtain ⟨⟨old, he⟩, ⟨o, ho, hc, hd⟩, _⟩ := st
    have e' : b = e ∨ b = it := by simpa using hb
    rcases e' with z | z
    · rw [z]; exact ⟨_, he, fun v q => nomatch q⟩
    · rw [z]; exact ⟨o, ho, fun v q => by rw [hd] at q; cases q⟩
  keep := fun i h h' st k => let ⟨⟨old, he⟩, hi, hne⟩ := st; ⟨⟨old, k e (by simp) _ he⟩, hi.at fun o q => k it (by simp) o q, hne⟩
  item := by
    intro X hP hw hK hc i pins s σ H E I hf st hg
    subst hP hw hK
    obtain ⟨⟨old, he⟩, hit, hne, hait, hae⟩ := st
    obtain ⟨xs, x, hq, hx⟩ := hg
    obtain ⟨its, rv, p, hz⟩ := I.tuple hq
    have p : s.heap.IsTuple a its.toArray := p
    obtain ⟨u, hu, ru⟩ := rv.get hx
    have hel : e < s.heap.objs.size := Heap.lt_size he
    have hil : it < s.heap.objs.size := by obtain ⟨_, q, _⟩ := hit; exact Heap.lt_size q
    have hi : i < its.toArray.size := by
      have := (List.getElem?_eq_some_iff.mp hu).1
      simpa using this
    refine wpAny_pyNext_enum_itemD (Draws.tuple (A := X.A.in1) (I.ok.hd hc) it a hait its.toArray) he ⟨hit, p⟩ hi hne (by simp [hne, Ne.symm hae]) fun y h' tk hy ho hst' hT hsz hk => ?_
    have ey : y = u := by
      have h1 : its.toArray[i]? = some y := hy
      rw [show its.toArray[i]? = its[i]? by simp, hu] at h1
      exact (Option.some.inj h1).symm
    subst ey
    have hit' := hst'.1
    refine ⟨_, rfl, wpAny_letOwnedTupleGo_enum (s := { s with heap := h', toks := tk + 1 }) ho fun h'' he' sb => ?_⟩
    have hT2 : h''.get? s.heap.objs.size = some { cls := .type "tuple", data := .seq #[.int i tk, y] } := (sb.2 _ (Nat.ne_of_gt hel)).trans hT
    have new : ObjOk X.prog X.w (upd H s.heap.objs.size (.tup [.int (i : Nat), x])) h'' s.heap.objs.size (.tup [.int (i : Nat), x]) :=
      ⟨by show 2 ≤ sizeLine; decide, [.int i tk, y], .cons ⟨_, rfl⟩ (.cons ru .nil), ⟨_, hT2, rfl, _, rfl⟩⟩
    have I1 : Inv X pins σ (upd H s.heap.objs.size (.tup [.int (i : Nat), x])) { s with heap := h'', toks := tk + 1 } :=
      I.turnedNew (ch := [e, it]) (fun b ob hb q => (sb.2 b (fun z => hb (by simp [z]))).trans (hk b ob (fun z => hb (by simp [z])) (fun z => hb (by simp [z])) q)) hf (Nat.le_refl _) new
    refine ⟨.ref s.heap.objs.size, _, I1, rfl, ⟨_, x, rfl, I.hok.fresh (Nat.le_refl _), rfl, fun ys hy => by rw [I.tuple_inj hy hq]; exact hx⟩, ⟨⟨y, ?_⟩, hit'.at fun o q => (sb.2 it (Ne.symm hne)).trans q, hne, hait, hae⟩, fun b hb => ?_⟩
    · have e1 : ((i + 1 : Nat) : Int) = (i : Int) + 1 := by omega
      rw [e1]; exact he'
    · have hb' : b < s.heap.objs.size := by
        have e' : b = e ∨ b = it := by simpa using hb
        rcases e' with z | z
        · rw [z]; exact hel
        · rw [z]; exact hil
      rw [upd_ne (Nat.ne_of_lt hb')]
      exact (hf b hb).1
  done := by
    intro X hP hw hK hc i pins s σ H E I hf st hg
    subst hP hw hK
    obtain ⟨⟨old, he⟩, hit, hne, hait, hae⟩ := st
    obtain ⟨xs, hq, hx⟩ := hg
    obtain ⟨its, rv, p, hz⟩ := I.tuple hq
    have p : s.heap.IsTuple a its.toArray := p
    obtain ⟨f0, f1, f2, f3, f4, f5⟩ := hf it (by simp)
    have hl := rv.length
    have hT : s.TypeIs (.ref e) "enumerate" := ⟨_, he, rfl⟩
    unfold pyNext
    refine wpAny_bind (wpAny_attempt (wpAny_callSpecial?_slot (name := Str.ofString "__next__") hT F.slot_enumerate_next
      (wpAny_call_entry F.slot_enumerate_next hT F.entry_enumerate_next ?_ (F.args_enumerate_next_1 _))))
    show wpAny _ _ (field (.ref e) 2 >>= _) _ _ _
    refine wpAny_bind (wpAny_field he rfl (x := .ref it) rfl ?_)
    refine wpAny_bind (wpAny_nextOf_tuple_end (A := X.A.in1) (I.ok.hd hc) hit p (by simp; omega) fun h' x he' hx' => ?_)
    obtain ⟨o, ho, hc'⟩ := hx'
    refine wpAny_bind (wpAny_isInstance (T := "StopIteration") (b := true) ⟨o, ho, hc'⟩ isSubtype_stop ?_)
    exact wpAny_pure ⟨rfl, I.turned (t' := s.toks) (fun b o hb q => he' b o hb q) f0 f1 f3 f4 f5⟩
  self := fun A i s Q E st h => let ⟨⟨_, he⟩, _⟩ := st; wpAny_pyIter_enum he h
def iEnumQ (K : PySem.W.Frag) (ta : TA) : TI := fun σ H R => ta σ H fun vs H1 => ∃ a xs, vs = [.ref a] ∧ ((SqL K H1 a xs ∧ R (Ite K a) H1) ∨ (SqT K H1 a xs ∧ R (IteT K a) H1))
theorem pi_enumQ {X : Cx} {e : Expr} {ta : TA} {p pos tpos : Pos} {elts : List Expr} {kk : Nat} (hg : Gl X "enumerate") (hm : X.mg "enumerate" = none) (ha : PA X [e] ta) (hs : starEach [e] X.env = [(false, eval e X.env)] := by rfl) :
    PI X (.Tuple elts kk tpos) (.Call (.Name "enumerate" p) [e] [] pos) (iEnumQ X.K ta) := by
  refine ⟨fun pins s σ H R I h => ?_⟩
  refine PyProof.Rows.Call_ (ld_blt I hg hm PyProof.Rows.boot_enumerate (PyProof.Rows.callWith_type1 (thn (ha.run pos pins s σ H _ I h) fun us s1 ⟨vs, H1, I1, r1, q1⟩ => ?_) hs rfl))
  obtain ⟨a, xs, ex, hq⟩ := q1
  subst ex
  cases r1 with
  | cons r rr =>
    cases rr
    cases r
    rcases hq with ⟨hq, q⟩ | ⟨hq, q⟩
    · obtain ⟨its, rv, p', hz⟩ := I1.list hq
      refine call_enumerate_list p'.isList fun h' he hit hsz hk => wpAny_pyIter_enum he ?_
      have I2 : Inv X pins σ H1 { s1 with heap := h' } := I1.kept (t' := s1.toks) hk
      refine ⟨s1.heap.objs.size + 1, [s1.heap.objs.size + 1, s1.heap.objs.size], _, _, H1, rfl, I2, turn_enum a (s1.heap.objs.size + 1) s1.heap.objs.size, ⟨⟨.none, he⟩, hit, Nat.succ_ne_self _⟩, fun b hb => ?_, q⟩
      have e' : b = s1.heap.objs.size + 1 ∨ b = s1.heap.objs.size := by simpa using hb
      have hle : s1.heap.objs.size ≤ b := by
        rcases e' with z | z
        · rw [z]; exact Nat.le_add_right _ _
        · rw [z]; exact Nat.le_refl _
      exact I1.fpOk hle (I1.hok.fresh hle)
    · obtain ⟨its, rv, p', hz⟩ := I1.tuple hq
      have p' : s1.heap.IsTuple a its.toArray := p'
      have hal : a < s1.heap.objs.size := by obtain ⟨_, q, _⟩ := p'; exact Heap.lt_size q
      refine call_enumT p' fun h' he hit hsz hk => wpAny_pyIter_enum he ?_
      have I2 : Inv X pins σ H1 { s1 with heap := h' } := I1.kept (t' := s1.toks) hk
      refine ⟨s1.heap.objs.size + 1, [s1.heap.objs.size + 1, s1.heap.objs.size], _, _, H1, rfl, I2, turn_enumT a (s1.heap.objs.size + 1) s1.heap.objs.size, ⟨⟨.none, he⟩, hit, Nat.succ_ne_self _, Nat.ne_of_lt hal, Nat.ne_of_lt (Nat.lt_succ_of_lt hal)⟩, fun b hb => ?_, q⟩
      have e' : b = s1.heap.objs.size + 1 ∨ b = s1.heap.objs.size := by simpa using hb
      have hle : s1.heap.objs.size ≤ b := by
        rcases e' with z | z
        · rw [z]; exact Nat.le_add_right _ _
        · rw [z]; exact Nat.le_refl _
      exact I1.fpOk hle (I1.hok.fresh hle)
section
variable {K : PySem.W.Frag} {H : Hp} {G : GHp} {Z : Addr → Bool}
theorem it_enumT {a : Addr} {xs : List V} {ds : List D} (h : SqT K (U H G Z) a xs) (r : Reps K (U H G Z) ds xs) : ItOk K (IteT K a) (enumFrom 0 ds) none H G Z := by
  have hq : ∀ H' G', Kq H G Z H' G' → SqT K (U H' G' Z) a xs := fun H' G' k => SqT.mono k.keep h
  refine ⟨fun i d H' G' e k ok gd => ?_, fun H' G' k ok gd => ?_⟩
  · rw [enumFrom_get] at e
    cases e0 : ds[i]? with
    | none => rw [e0] at e; simp at e
    | some y =>
      rw [e0] at e
      simp only [Option.map_some, Option.some.injEq, Nat.zero_add] at e
      subst e
      have hs := SqT.mono U_le (hq H' G' k)
      obtain ⟨v, hv, rv⟩ := r.get e0
      refine ⟨⟨xs, v, hs, hv⟩, fun x H'' ⟨T, w, e1, e2, e3, e4⟩ => ?_⟩
      subst e1 e3
      have ew := e4 xs hs
      rw [hv] at ew; cases ew
      have k2 := Kp.laid (H := H') (G := G') (Z := Z) (o := .tup [.int ((i : Nat) : Int), v]) e2
      refine ⟨k2, ok.laid e2, .tup (.inl (U_laid ok e2)) (.cons (.int _) (.cons ((rv.mono k.keep).mono k2.keep) .nil))⟩
  · exact ⟨xs, SqT.mono U_le (hq H' G' k), by rw [enumFrom_length]; exact Nat.le_of_eq r.length.symm⟩
end
def dEnumQ (te : DTE) : DTI := fun δ G R => te δ G fun x G1 => match x with
  | .tup ds => R (enumFrom 0 ds) none G1
  | x => match lsOf G1 x with
    | some ds => R (enumFrom 0 ds) (gdOf G1 x) G1
    | none => False
section
variable {X : Cx} {e : Expr} {te : DTE} {p pos : Pos}
theorem di_enumQ {tpos : Pos} {elts : List Expr} {kk : Nat} (hg : Gl X "enumerate") (hm : X.mg "enumerate" = none) (he : DE X e te) (hs : starEach [e] X.env = [(false, eval e X.env)] := by rfl) :
    DI X (.Tuple elts kk tpos) (.Call (.Name "enumerate" p) [e] [] pos) (dEnumQ te) :=
  PI.mono (pi_enumQ hg hm (pa_cons he pa_nil hs) hs) fun σ H R ⟨δ, G, Z, Q0, ok, rs, h, k⟩ =>
    ⟨δ, G, Z, _, ok, rs, h, fun x G1 v H1 h1 k1 ok1 r1 => by
      have lst : (match lsOf G1 x with | some ds => Q0 (enumFrom 0 ds) (gdOf G1 x) G1 | none => False) → ∃ a xs, [v] = [V.ref a] ∧ ((SqL X.K H1 a xs ∧ R (Ite X.K a) H1) ∨ (SqT X.K H1 a xs ∧ R (IteT X.K a) H1)) := by
        intro h1
        split at h1
        · next ds e =>
          obtain ⟨a, xs, rfl, ha, _⟩ := ls_stay (fun _ _ => rfl) ok1 r1 e
          refine ⟨a, xs, rfl, .inl ⟨SqL.of ha, k _ _ _ _ _ h1 k1 ok1 fun Z' z1 z2 => ?_⟩⟩
          obtain ⟨a', xs', e', _, st⟩ := ls_stay z2 ok1 r1 e
          cases e'
          exact it_enum st
        · exact h1.elim
      cases r1 with
      | tup q rr => exact ⟨_, _, rfl, .inr ⟨TupAt.sq U_le q, k _ _ _ _ _ h1 k1 ok1 fun Z' z1 z2 => it_enumT (TupAt.sq (U_ext z2) q) (rr.mono (U_ext z2))⟩⟩
      | _ => exact lst h1⟩
end
/-- a comprehension that changes nothing, any target -/
theorem lc_mapG {m : Bool} {gd : Gd} {g : Tgt} {tt : DTT} {te : DTE} {δw : DSt} {G : GHp} {Q : DK} {α : Type} {enc : α → D} {keep : α → Bool} {f : α → D} {xs : List α} (dst : α → DSt) (hz : xs.length ≤ sizeLine) (hg : gd.ok G) (hd : ∀ x ∈ xs, g.set (enc x) δw = some (dst x))
    (ht : ∀ x ∈ xs, EvT tt (dst x) G (keep x)) (he : ∀ x ∈ xs, keep x = true → Ev te (dst x) G (f x)) (h : lcEnd m ((xs.filter keep).map f) G Q) :
    dLcL m gd g tt te δw (xs.map enc) [] G Q := by
  refine lc_ind (fun r acc G' => G' = G ∧ ∃ pre, xs = pre ++ r ∧ acc = (pre.filter keep).map f) ?_ ?_ xs [] G ⟨rfl, [], rfl, rfl⟩
  · rintro acc _ ⟨rfl, pre, e, rfl⟩
    rw [List.append_nil] at e
    subst e
    exact ⟨hg, h⟩
  · rintro x r acc _ ⟨rfl, pre, e, rfl⟩
    have hx : x ∈ xs := by rw [e]; simp
    refine ⟨hg, _, hd x hx, fun N hN => ?_⟩
    refine ht x hx _ ⟨fun hk => ?_, fun hk => ?_⟩
    · refine he x hx hk _ ⟨?_, hN _ _ ⟨rfl, pre ++ [x], by rw [e]; simp, ?_⟩⟩
      · have h1 : ((pre.filter keep).map f).length ≤ pre.length := by rw [List.length_map]; exact List.length_filter_le _ _
        have h2 : xs.length = pre.length + (r.length + 1) := by rw [e]; simp
        omega
      · rw [List.filter_append, List.map_append]
        simp [hk]
    · refine hN _ _ ⟨rfl, pre ++ [x], by rw [e]; simp, ?_⟩
      rw [List.filter_append, List.map_append]
      simp [hk]
end DL
set_option Elab.async false
set_option linter.all false
set_option maxRecDepth 100000
set_option maxHeartbeats 1000000
/-! DL, part 12: exceptions at the heads of statements. -/
namespace DL
open PySem PySem.Spec L2

/-! ### what makes an exception -/
abbrev DTM := DSt → GHp → DXK → Prop
def cM (K : PySem.W.Frag) (t : DTM) : St → Hp → XK → Prop := fun σ H Q => ∃ (δ : DSt) (G : GHp) (Z : Addr → Bool) (Q0 : DXK), Ok K H G Z ∧ RepSt K (U H G Z) δ σ ∧ t δ G Q0 ∧ XLk K Z Q0 Q H G
def DMk (X : Cx) (e : Expr) (t : DTM) : Prop := PMk X e (cM X.K t)
theorem PMk.mono {X : Cx} {e : Expr} {t u : St → Hp → XK → Prop} (h : PMk X e t) (k : ∀ σ H Q, u σ H Q → t σ H Q) : PMk X e u := fun pins s σ H Q I q => h pins s σ H Q I (k σ H Q q)
/-- an expression that may let an exception out -/
abbrev DTX := DSt → GHp → DK → DXK → Prop
def cEx (K : PySem.W.Frag) (W : WX) (t : DTX) : TE := fun σ H Q => ∃ (δ : DSt) (G : GHp) (Z : Addr → Bool) (Q0 : DK) (E0 : DXK), Ok K H G Z ∧ RepSt K (U H G Z) δ σ ∧ t δ G Q0 E0 ∧
  (∀ d G' v H', Q0 d G' → Kp H G Z H' G' → Ok K H' G' Z → Rep K (U H' G' Z) d v → Q v H') ∧ XLk K Z E0 (WE W σ) H G
def DEx (X : Cx) (W : WX) (e : Expr) (t : DTX) : Prop := PE X e (cEx X.K W t)
/-- where the ends' exceptions go, from the slots δ -/
def exAt (D : DEnds) (δ : DSt) : DXK := fun c fs G => D.ex c fs δ G
theorem ELk.xl {K : PySem.W.Frag} {W : WX} {Z : Addr → Bool} {D0 : DEnds} {E : Ends} {H : Hp} {G : GHp} {δ : DSt} {σ : St} (l : ELk K W Z D0 E H G) (rs : RepSt K (U H G Z) δ σ) : XLk K Z (exAt D0 δ) (WE W σ) H G :=
  ⟨fun c G' H' q k ok => l.exb _ _ _ _ _ q k ok (rs.mono k.keep), fun c fs G' H' dx xs q k ok u e r => l.exo _ _ _ _ _ _ _ _ q k ok (rs.mono k.keep) u e r⟩
section
variable {X : Cx} {W : WX} {e : Expr} {t : DTX} {tm : DTM} {pos : Pos}
/-- raise C(..) -/
def dRaise (t : DTM) : DTS := fun D δ G => t δ G (exAt D δ)
theorem ds_raise (hc : X.calm = true) (tk : Takes X W) (he : DMk X e tm) : DS X W (.Raise (some e) none pos) (dRaise tm) :=
  PS.mono (ps_raise hc tk he) fun E σ H ⟨δ, G, Z, D0, ok, rs, h, l⟩ => ⟨δ, G, Z, _, ok, rs, h, l.xl rs⟩
/-- f(..) as a statement -/
def dDropX (t : DTX) : DTS := fun D δ G => t δ G (fun _ G1 => D.nx δ G1) (exAt D δ)
theorem ds_exprX (he : DEx X W e t) (hs : swapsWith e none pos.line X.env = pure false := by rfl) : DS X W (.Expr e pos) (dDropX t) :=
  PS.mono (ps_expr he hs) fun E σ H ⟨δ, G, Z, D0, ok, rs, h, l⟩ =>
    ⟨δ, G, Z, _, _, ok, rs, h, fun d G' v H' q k ok' _ => l.nx _ _ _ _ q k ok' (rs.mono k.keep), l.xl rs⟩
/-- return f(..) -/
def dRetX (t : DTX) : DTS := fun D δ G => t δ G D.rt (exAt D δ)
theorem ds_retX (he : DEx X W e t) : DS X W (.Return (some e) pos) (dRetX t) :=
  PS.mono (ps_ret he) fun E σ H ⟨δ, G, Z, D0, ok, rs, h, l⟩ =>
    ⟨δ, G, Z, _, _, ok, rs, h, fun d G' v H' q k ok' r => l.rt _ _ _ _ q k ok' r, l.xl rs⟩
/-- target = f(..) -/
def dAsgX (t : DTX) (g : Tgt) : DTS := fun D δ G => t δ G (fun d G1 => match g.set d δ with
  | some δ' => D.nx δ' G1
  | none => False) (exAt D δ)
theorem asg_splitX {K : PySem.W.Frag} {g : Tgt} {E : Ends} {σ : St} {H : Hp} {W : WX} (h : cS K W (dAsgX t g) E σ H) : tAsg (cEx K W t) (g.tg K) E σ H := by
  obtain ⟨δ, G, Z, D0, ok, rs, h, l⟩ := h
  refine ⟨δ, G, Z, _, _, ok, rs, h, fun d G1 v H1 h1 k1 ok1 r1 => ?_, l.xl rs⟩
  have h1 : (match g.set d δ with | some δ' => D0.nx δ' G1 | none => False) := h1
  split at h1
  · next δ' e =>
    exact g.run U_le r1 (rs.mono k1.keep) e fun σ' rs' _ => l.nx _ _ _ _ h1 k1 ok1 rs'
  · exact h1.elim
theorem ds_asgX {tg : Expr} {g : Tgt} (he : DEx X W e t) (hg : PG X tg (g.tg X.K)) (hs : swapsWithSole [tg] e pos.line X.env = pure false := by rfl) (hw : swappedStores [tg] e X.env = pure none := by rfl)
    (h1 : (assignEach [tg] X.env).map (·.2) = [assign tg X.env] := by rfl) : DS X W (.Assign [tg] e pos) (dAsgX t g) :=
  PS.mono (ps_asg he hg hs hw h1) fun E σ H h => asg_splitX h
theorem ds_setX {i : Nat} {x : Str} {pos' : Pos} (hN : X.N.Nodup) (hi : X.N[i]? = some x) (hx : Loc X.env.scope x) (he : DEx X W e t) (hs : swapsWith e (some (.Name x pos')) pos.line X.env = pure false := by rfl) (hf : X.fn x = true ∨ X.env.scope.names.lookup x = some .local := by first | exact .inl rfl | exact .inr rfl | assumption) :
    DS X W (.Assign [.Name x pos'] e pos) (dAsgX t (.nm i)) :=
  PS.mono (ps_set hN hi hx he hs hf) fun E σ H h => asg_splitX (g := .nm i) h
/-! ### calls that may raise -/
def dCallX (sp : DSp) (t : DTA) : DTX := fun δ G Q E => t δ G fun ds G1 => sp ds G1 Q E
theorem de_callX {k : Nat} {f : Addr} {fd : FuncData} {ps : List Str} {sp : DSp} {x : Str} {p : Pos} {es : List Expr} {ta : DTA} (tk : Takes X W) (F : FnOk X.prog X.w X.K X.mg X.base (L2.CX X.prog X.w) k f fd ps (cSp X.K sp)) (hr : Room k X.A) (hg : Gl X x) (hm : X.mg x = some (.ref f)) (hk : PySem.W.keepIn X.K (.ref f) = true) (hb : Binds X.K fd ps [])
    (ha : DA X (e :: es) ta) (hdb : (x == ("__debug__" : Str)) = false := by decide) (he : starEach (e :: es) X.env = (false, eval e X.env) :: starEach es X.env := by rfl) (hpl : (backTo pos (starEach es X.env)).any (·.1) = false := by rfl) :
    DEx X W (.Call (.Name x p) (e :: es) [] pos) (dCallX sp ta) :=
  PE.mono (pe_callS (E := WE W) F hr hg hm hk hb (fun σ => passAt tk σ) ha hdb he hpl) fun σ H Q ⟨δ, G, Z, Q0, E0, ok, rs, h, k, x⟩ =>
    ⟨δ, G, Z, _, ok, rs, h, fun ds G1 vs H1 h1 k1 ok1 r1 => ⟨ds, G1, Z, Q0, E0, ok1, r1, h1, fun d G' v H' q k2 ok2 r2 => k _ _ _ _ q (k1.trans k2) ok2 r2, x.after k1⟩⟩
end
/-! ### defs that may raise -/
section
variable {P : Program} {w : World} {K : PySem.W.Frag} {mg : Str → Option Value} {base : Heap} {x qual : Str} {st : Stmt} {f : Addr} {fd : FuncData} {N ps : List Str} {k : Nat} {t : DTS} {l : DSt} {dv : List V} {kv : List (Str × V)}
abbrev WD (E : XK) : WX := fun c d _ H => E c d H
theorem takes_cx {scope : Scope} {cdv : Value} {A : Around} {outer : List Env} {s : Shared} {H : Hp} {E : XK} : Takes (cxOf (L2.CX P w) P w K mg base N qual scope f cdv A outer s H E) (WD E) := takes_of rfl rfl rfl rfl
theorem passes_cx {scope : Scope} {cdv : Value} {A : Around} {outer : List Env} {s : Shared} {H : Hp} {E : XK} : PassesOwn (model P w) (cxOf (L2.CX P w) P w K mg base N qual scope f cdv A outer s H E).A (cxOf (L2.CX P w) P w K mg base N qual scope f cdv A outer s H E).env (cxOf (L2.CX P w) P w K mg base N qual scope f cdv A outer s H E).xe := passes_of rfl
abbrev DerX (P : Program) (w : World) (K : PySem.W.Frag) (mg : Str → Option Value) (base : Heap) (N : List Str) (qual : Str) (st : Stmt) (f : Addr) (k : Nat) (t : DTS) : Prop :=
  ∀ (cdv : Value) (A : Around) (outer : List Env) (s : Shared) (H : Hp) (E : XK), Room k (A.deeper (PyProof.Rows.envOfC qual (defScope st) s.heap.objs.size f cdv)) → DSs (cxOf (L2.CX P w) P w K mg base N qual (defScope st) f cdv A outer s H E) (WD E) (defBody st) t
/-- where a body starts, and where its exceptions go -/
abbrev DRunX (t : DTS) (δ : DSt) (G : GHp) (Q : DK) (E0 : DXK) : Prop := t { nx := fun _ G' => Q .non G', rt := Q, ex := fun c fs _ G' => E0 c fs G' } δ G
theorem DFunX.ok {sp : DSp} (F : FunD K x qual (defArgs st) (defBody st) (defScope st) dv kv f fd) (S : FnScope N ps (defScope st)) (len : ∀ ds G Q E, sp ds G Q E → ds.length = ps.length) (d : DerX P w K mg base N qual st f k t)
    (rd : ∀ ds G Q E0, sp ds G Q E0 → DRunX t (dstart N ds) G Q E0) : FnOk P w K mg base (L2.CX P w) (k + 1) f fd ps (cSp K sp) := by
  refine F.ok S (fun vs H Q E ⟨ds, G, Z, Q0, E0, ok, rs, h, k, x⟩ => rs.length.symm.trans (len _ _ _ _ h)) fun cdv A outer s H vs Q E hr ⟨ds, G, Z, Q0, E0, ok, rs, h, k, x⟩ => ?_
  refine ⟨_, d cdv A outer s H E hr, _, G, Z, _, ok, RepSt.start rs, rd ds G Q0 E0 h, ⟨fun δ' G' σ' H' q k1 ok1 _ => k _ _ _ _ q k1 ok1 .non, fun _ _ _ _ q => q.elim, fun _ _ _ _ q => q.elim, fun d G' v H' q k1 ok1 r1 => k _ _ _ _ q k1 ok1 r1,
    fun c δ' G' σ' H' q k1 ok1 _ => x.bare c G' H' q k1 ok1, fun c fs δ' G' σ' H' dx xs q k1 ok1 _ u e r => x.own c fs G' H' dx xs q k1 ok1 u e r⟩⟩
end
end DL
set_option Elab.async false
set_option linter.all false
set_option maxRecDepth 100000
set_option maxHeartbeats 1000000
/-! DL, part 13: the __init__ of an own exception class that calls its own base class's. -/
namespace DL
open PySem PySem.Spec L2 PyProof.Rows

/-- what the base class must say: its __init__ is ValueError's -/
structure BsC (K : PySem.W.Frag) (C : Addr) : Prop where
  rd : PySem.W.readsIn K C (.type "type") = true
  ga : PySem.W.specialIn K (.ref C) "__getattribute__" = some (some (.builtin "type.__getattribute__"))
  at_ : PySem.W.findCls K (.ref C) (.type "type") "__init__" = some (.val (.builtin "ValueError.__init__"))
section
variable {X : Cx} {e : Expr} {es : List Expr} {ta : TA} {x : Str} {C : Addr} {p1 p2 pos : Pos} {pl : Sem Bool}
theorem pe_bsinit (T : BsC X.K C) (hg : Gl X x) (hm : X.mg x = some (.ref C)) (ha : PA X (e :: es) ta) (hdb : (x == ("__debug__" : Str)) = false := by decide)
    (hc : eval (.Call (.Attribute (.Name x p1) "__init__" p2) (e :: es) [] pos) X.env = (do
      let ov ← eval (.Name x p1) X.env
      standAt p2.atName
      let (f, first) ← holding [ov] (getMethod ov "__init__" pl)
      callWith pos f first (backTo pos (starEach (e :: es) X.env)) (backToKw pos (keywordEach [] X.env))) := by rfl)
    (he : starEach (e :: es) X.env = (false, eval e X.env) :: starEach es X.env := by rfl) (hpl : (backTo pos (starEach es X.env)).any (·.1) = false := by rfl) :
    PE X (.Call (.Attribute (.Name x p1) "__init__" p2) (e :: es) [] pos) (tVeI X.K ta) := by
  refine ⟨fun pins s σ H Q I h => ?_⟩
  refine PySem.W.methodCall_KW (ld_glob I hg hm ?_ hdb) hc
  refine PySem.W.method_cls I.kIn T.ga (PySem.W.cls_value I.kIn T.rd T.at_ (by decide +kernel) ?_)
  show wpAny _ _ (callWith pos (Value.builtin "ValueError.__init__") [] (backTo pos (starEach (e :: es) X.env)) []) _ _ _
  refine PyProof.Rows.callWith_method1 (thn (ha.run pos pins _ σ H _ (I.tok _) h) fun us s1 ⟨vs, H1, I1, r1, a, C, ws, ev, hl, T, ea, q⟩ => ?_) he hpl
  subst ev
  cases r1 with
  | @cons _ u0 _ ur ra rw' =>
    obtain rfl : u0 = Value.ref a := ra
    have hlen : ur.length ≤ sizeLine := by
      rw [← Paired.length rw', sizeLine_eq]
      omega
    exact oinit_ok T I1 ea hlen fun s' J => ⟨.non, H1, J, rfl, q⟩
end
/-! ### C(e): an own __init__ that keeps its one argument in the field f -/
def spI (C : Addr) (f : Str) : Sp := fun vs H Q _ => ∃ (a : Addr) (v : V), vs = [.ref a, v] ∧ H a = some (exo a C none) ∧ ∀ dx, H dx = none → dx ≠ a → Q .non (upd (upd H dx (exd dx [(f, v)])) a (exo a C (some dx)))
/-- raise C(e) -/
def dMk1 (C : Addr) (f : Str) (ta : DTA) : DTM := fun δ G Q => ta δ G fun ds G1 => match ds with
  | [d] => Q (.ref C) (some [(f, d)]) G1
  | _ => False
section
variable {X : Cx} {e : Expr} {es : List Expr} {ta : DTA} {x : Str} {C fI : Addr} {p pos : Pos} {k : Nat} {fd : FuncData} {ps : List Str} {f : Str}
theorem made_heap {H1 : Hp} {a C dx : Addr} {f : Str} {v : V} (ha : H1 a = none) (hne : dx ≠ a) :
    upd (del (upd (upd (upd H1 a (exo a C none)) dx (exd dx [(f, v)])) a (exo a C (some dx))) a) dx (.xd [(f, v)]) = upd H1 dx (.xd [(f, v)]) := by
  funext b
  by_cases h1 : b = dx
  · rw [h1, upd_same, upd_same]
  · rw [upd_ne h1, upd_ne h1]
    by_cases h2 : b = a
    · rw [h2, del_same, ha]
    · rw [del_ne h2, upd_ne h2, upd_ne h1, upd_ne h2]
theorem dm_mk1 (T : OexC X.K C) (iC : PySem.W.findIn X.K (.ref C) "__init__" = some (some (.ref fI))) (tI : PySem.W.typeIn X.K (.ref fI) = some (.type "function"))
    (F1 : FnOk X.prog X.w X.K X.mg X.base CX0 k fI fd ps (spI C f)) (hr : Room (k + 1) X.A) (hb : Binds X.K fd ps []) (hg : Gl X x) (hm : X.mg x = some (.ref C)) (ha : DA X (e :: es) ta)
    (hdb : (x == ("__debug__" : Str)) = false := by decide) (he : starEach (e :: es) X.env = (false, eval e X.env) :: starEach es X.env := by rfl) (hpl : (backTo pos (starEach es X.env)).any (·.1) = false := by rfl) :
    DMk X (.Call (.Name x p) (e :: es) [] pos) (dMk1 C f ta) :=
  PMk.mono (pmk_oex T iC tI F1 hr hb .nil pass0 hg hm ha hdb he hpl) fun σ H Q ⟨δ, G, Z, Q0, ok, rs, h, xl⟩ =>
    ⟨δ, G, Z, _, ok, rs, h, fun ds G1 vs H1 h1 k1 ok1 r1 => by
      rcases r1 with _ | ⟨ra, r1⟩
      · exact False.elim h1
      rcases r1 with _ | ⟨rb, r1⟩
      · next d v =>
        have h1 : Q0 (.ref C) (some [(f, d)]) G1 := h1
        refine ⟨by simp, fun a hna => ⟨a, v, rfl, upd_same, fun dx hdx hne => ⟨rfl, dx, [(f, v)], upd_same, by rw [upd_ne hne, upd_same], by rw [upd_ne hne] at hdx; exact hdx, ?_⟩⟩⟩
        have hdx' : H1 dx = none := by rw [upd_ne hne] at hdx; exact hdx
        rw [made_heap hna hne]
        have k2 := Kp.laid (H := H1) (G := G1) (Z := Z) (o := .xd [(f, v)]) hdx'
        exact xl.own _ _ _ _ _ _ h1 (k1.trans k2) (ok1.laid hdx') (U_laid ok1 hdx') rfl (.cons (ra.mono k2.keep) .nil)
      · exact False.elim h1⟩
end
end DL
set_option Elab.async false
set_option linter.all false
set_option maxRecDepth 100000
set_option maxHeartbeats 1000000
/-! DL, part 14: try: .. except C as e: return e.f -/
namespace DL
open PySem PySem.Spec L2

theorem lookup_rep {K : PySem.W.Frag} {W : Hp} {f : Str} : ∀ {fs : List (Str × D)} {xs : List (Str × V)} {d : D}, xs.map (·.1) = fs.map (·.1) → Reps K W (fs.map (·.2)) (xs.map (·.2)) → fs.lookup f = some d → ∃ v, xs.lookup f = some v ∧ Rep K W d v
  | [], _, _, _, _, e => by simp at e
  | (g, y) :: fs, [], _, hn, _, _ => by simp at hn
  | (g, y) :: fs, (g', u) :: xs, d, hn, r, e => by
    simp only [List.map_cons, List.cons.injEq] at hn
    obtain ⟨h1, h2⟩ := hn
    have h1 : g' = g := h1
    subst h1
    cases r with
    | cons r1 r2 =>
      by_cases h : f = g'
      · subst h
        simp [List.lookup] at e
        subst e
        exact ⟨u, by simp [List.lookup], r1⟩
      · have hf : (f == g') = false := by simpa using h
        simp only [List.lookup, hf] at e ⊢
        exact lookup_rep h2 r2 e
/-- what a handler 'except c as n: return n.f' makes of an exception -/
def exRet (K : PySem.W.Frag) (c : Value) (C : Addr) (f : Str) (i : Nat) (D : DEnds) : DXS := fun cls fs δ G =>
  ∃ b, PySem.W.exmOne K cls c = some b ∧ (b = true → cls = .ref C ∧ i < δ.length ∧ ∃ fs' d, fs = some fs' ∧ fs'.lookup f = some d ∧ D.rt d G) ∧ (b = false → D.ex cls fs δ G)
def dTryRet (K : PySem.W.Frag) (c : Value) (C : Addr) (f : Str) (i : Nat) (tb : DTS) : DTS := fun D δ G => tb { D with ex := exRet K c C f i D } δ G
section
variable {X : Cx} {W : WX} {x n f : Str} {c : Value} {C : Addr} {i : Nat} {body : List Stmt} {np p1 p2 p3 pos pos' : Pos} {tb : DTS}
theorem ds_tryRet (hs : X.stack = X.env :: X.outer) (hf : X.env.frame = some X.env.locals) (hN : X.N.Nodup) (hi : X.N[i]? = some n) (hln : X.env.kindOf n = some .local) (hc : Names X x c) (tk : Takes X W)
    (hb : ∀ (W' : WX) (pn : List (Addr × Obj)) (xe : Value → Shared → Prop), Takes (X.tr pn xe) W' → PassesOwn (model X.prog X.w) X.A X.env xe → DSs (X.tr pn xe) W' body tb)
    (T : XfC X.K C) (hno : PySem.W.findIn X.K (.ref C) f = some none)
    (hv : ∀ (a : Addr) (pn : List (Addr × Obj)), PE (X.suite a pn) (.Name n p1) (tVar i)) :
    DS X W (.Try body [.ExceptHandler (some (.Name x np)) (some n) [.Return (some (.Attribute (.Name n p1) f p2)) p3] pos'] [] [] pos) (dTryRet X.K c C f i tb) :=
  PS.mono (ps_try_as (tb := fun W' => cS X.K W' tb) (ts := fun a cls d D σ H => tXf a cls d C f (tVar i) σ H D.rt) hs hf hN hi hln hc tk (fun W' pn xe t1 t2 => hb W' pn xe t1 t2)
    (fun a oe cls d pn hz hfl => pss_one (ps_ret (pe_xf T hno hz hfl (hv a _))))) fun E σ H ⟨δ, G, Z, D0, ok, rs, h, l⟩ => by
    refine ⟨δ, G, Z, _, ok, rs, h, ⟨l.nx, l.bk, l.ct, l.rt, fun cls δ' G' σ' H' q k ok' rs' => ?_, fun cls fs δ' G' σ' H' dx xs q k ok' rs' u e r => ?_⟩⟩
    · obtain ⟨b, hb1, h1, h2⟩ := q
      refine ⟨b, hb1, fun hb2 => ?_, fun hb2 => l.exb _ _ _ _ _ (h2 hb2) k ok' rs'⟩
      obtain ⟨_, _, fs', d, e, _⟩ := h1 hb2
      cases e
    · obtain ⟨b, hb1, h1, h2⟩ := q
      refine ⟨b, hb1, fun hb2 a ha => ?_, fun hb2 => l.exo _ _ _ _ _ _ _ _ (h2 hb2) k ok' rs' u e r⟩
      obtain ⟨ec, hil, fs', d, ef, hl, hrt⟩ := h1 hb2
      cases ef
      obtain ⟨v, hv1, hv2⟩ := lookup_rep e r hl
      have hl2 : i < σ'.length := by rw [← rs'.length]; exact hil
      exact ⟨.ref a, by simp [hl2], rfl, ec, dx, xs, v, rfl, U_le _ _ u, hv1, l.rt _ _ _ _ hrt k ok' hv2⟩
end
end DL
set_option Elab.async false
set_option linter.all false
set_option maxRecDepth 100000
set_option maxHeartbeats 1000000
/-! DL, part 15: what an own exception's __init__ (base's __init__(self, text); self.f = e) does, at HandS' level. -/
namespace DL
open PySem PySem.Spec L2 PyProof.Rows
/-- B.__init__(self, m); self.f = p -/
def tInit1 (K : PySem.W.Frag) (m f : Str) : TS := tSeq (tDrop (tVeI K (tCons (tVar 0) (tCons (tC (.str m)) tNil)))) (tOst K f (tVar 0) (tVar 1))
section
variable {P : Program} {w : World} {K : PySem.W.Frag} {mg : Str → Option Value} {base : Heap} {x qual : Str} {st : Stmt} {fI C : Addr} {fd : FuncData} {k : Nat} {a b m f : Str} {dv : List V} {kv : List (Str × V)}
theorem ok_init1 (T : OexC K C) (hno : PySem.W.findIn K (.ref C) f = some none) (F : FunD K x qual (defArgs st) (defBody st) (defScope st) dv kv fI fd) (S : FnScope [a, b] [a, b] (defScope st))
    (d : ∀ (cdv : Value) (A : Around) (outer : List Env) (s : Shared) (H : Hp) (E : XK), PSs (cxOf CX0 P w K mg base [a, b] qual (defScope st) fI cdv A outer s H E).nox (defBody st) (tInit1 K m f)) :
    FnOk P w K mg base CX0 (k + 1) fI fd [a, b] (spI C f) := by
  refine F.ok S (fun vs H Q E ⟨o, v, e, _⟩ => by rw [e]; rfl) fun cdv A outer s H vs Q E hr ⟨o, v, e, ha, q⟩ => ?_
  subst e
  refine ⟨_, PSs.nox (d cdv A outer s H E), ?_⟩
  conv => whnf
  refine ⟨.ref o, rfl, ?_⟩
  conv => whnf
  refine ⟨o, C, [.str m], rfl, (show 1 ≤ 1000 by omega), T, ha, ?_⟩
  conv => whnf
  refine ⟨v, rfl, ?_⟩
  conv => whnf
  refine ⟨.ref o, rfl, o, C, rfl, T, hno, .inl ⟨ha, fun dx hn hne => q dx hn hne⟩⟩
end
end DL
set_option Elab.async false
set_option linter.all false
set_option maxRecDepth 100000
set_option maxHeartbeats 1000000
/-! DL, part 16: facts about own exception classes, told by one Bool more; the Hook for it. -/
namespace DL
open PySem PySem.Spec L2 PyProof.Rows He
/-! ### the Hook: defs, facts, one Bool -/
abbrev AlE : Type := AlD × Bool
def obsE (fa : List Fa) (fn : List DefD) (ex : PySem.W.Frag → Bool) (K : PySem.W.Frag) : AlE := (obsD fa fn K, ex K)
def valE (fn : List DefD) : AlE := (valD fn, true)
def SaysE (fa : List Fa) (fn : List DefD) (ex : PySem.W.Frag → Bool) (K : PySem.W.Frag) : Prop := obsE fa fn ex K = valE fn
def obsEG (n : Nat) (fa : List Fa) (fn : List DefD) (ex : PySem.W.Frag → Bool) (g : Addr → Option Obj) : AlE := obsE fa fn ex (frG g (cStatics :: asD g n))
def hookE (n : Nat) (fa : List Fa) (fn : List DefD) (ex : PySem.W.Frag → Bool) : PySem.W.Hook where
  α := AlE
  obs := fun s => obsEG n fa fn ex s.heap.get?
  val := fun _ => valE fn
  says := fun _ h => ∃ K : PySem.W.Frag, K.In h ∧ SaysE fa fn ex K
  of := fun _ _ e => ⟨_, frG_in, e⟩
  keeps := fun _ _ _ ⟨K, hK, c⟩ k => ⟨K, PySem.W.Frag.In.keeps hK k, c⟩
theorem obsEG_eq {n : Nat} {fa : List Fa} {fn : List DefD} {ex : PySem.W.Frag → Bool} {g : Addr → Option Obj} {s : Shared} (h : ∀ a, g a = s.heap.get? a) : obsEG n fa fn ex g = (hookE n fa fn ex).obs s := by
  have e : g = s.heap.get? := funext h
  rw [e] <;> rfl
section
variable {fa : List Fa} {fn : List DefD} {ex : PySem.W.Frag → Bool} {K : PySem.W.Frag}
theorem SaysE.d (c : SaysE fa fn ex K) : SaysD fa fn K := congrArg (fun z : AlE => z.1) c
theorem SaysE.more (c : SaysE fa fn ex K) : ex K = true := congrArg (fun z : AlE => z.2) c
end
/-! ### an own class under ValueError -/
def oexO (C : Addr) : Obj → Bool
  | ⟨oc, _, .cls cd, sl⟩ => eqO (some (some oc)) (some (some (.type "type"))) && (decide (cd.mro = .ref C :: cd.mro.tail) && (PySem.HandSPX.refsVE cd.mro.tail && (cd.hasDict && (!cd.hasDel &&
    decide (sl = #[sl.getD 0 none, sl.getD 1 none, sl.getD 2 none, sl.getD 3 none, some (.builtin "ValueError.__new__"), sl.getD 5 none])))))
  | _ => false
theorem oexO_ok {C : Addr} {o : Obj} (h : oexO C o = true) : ∃ nm q N bs bm sn sub ab col dd k0 k1 k2 k3 k5, o = excClassObj nm q C N bs bm true sn sub ab col dd k0 k1 k2 k3 k5 "ValueError.__new__" ∧ PySem.HandSPX.refsVE bm = true := by
  obtain ⟨oc, od, dt, sl⟩ := o
  cases dt with
  | cls cd =>
    obtain ⟨h1, h2⟩ := ba h
    have h1 := Option.some.inj (Option.some.inj (eqO_ok h1))
    obtain ⟨h3, h4⟩ := ba h2
    obtain ⟨h5, h6⟩ := ba h4
    obtain ⟨h7, h8⟩ := ba h6
    obtain ⟨h9, h10⟩ := ba h8
    have h3 := of_decide_eq_true h3
    have h10 := of_decide_eq_true h10
    obtain ⟨nm, bs, mro, ns, q, hd, sn, sub, ab, col, del⟩ := cd
    have h3 : mro = .ref C :: mro.tail := h3
    have h5 : PySem.HandSPX.refsVE mro.tail = true := h5
    have h7 : hd = true := h7
    have h9 : (!del) = true := h9
    cases del with
    | true => cases h9
    | false =>
      subst h7
      subst h1
      exact ⟨nm, q, ns, bs, mro.tail, sn, sub, ab, col, od, sl.getD 0 none, sl.getD 1 none, sl.getD 2 none, sl.getD 3 none, sl.getD 5 none, by
        show (⟨_, _, .cls ⟨nm, bs, mro, ns, q, true, sn, sub, ab, col, false⟩, sl⟩ : Obj) = ⟨_, _, .cls ⟨nm, bs, .ref C :: mro.tail, ns, q, true, sn, sub, ab, col, false⟩, #[sl.getD 0 none, sl.getD 1 none, sl.getD 2 none, sl.getD 3 none, some (.builtin "ValueError.__new__"), sl.getD 5 none]⟩
        rw [← h3, ← h10], h5⟩
  | _ => cases h
def oexB (K : PySem.W.Frag) (C : Addr) : Bool := (match K.lookup C with
  | some o => oexO C o
  | none => false) && (eqO (PySem.W.findIn K (.ref C) "__setattr__") (some (some (.builtin "object.__setattr__"))) && (decide (PySem.W.subIn K (.ref C) (.type "BaseException") = some true) && (decide (PySem.W.typeIn K (.ref C) = some (.type "type")) && PySem.W.keepIn K (.ref C))))
theorem oexB_ok {K : PySem.W.Frag} {C : Addr} (h : oexB K C = true) : OexC K C := by
  obtain ⟨h1, h2⟩ := ba h
  obtain ⟨h3, h4⟩ := ba h2
  obtain ⟨h5, h6⟩ := ba h4
  obtain ⟨h7, h8⟩ := ba h6
  cases q : K.lookup C with
  | none =>
    rw [q] at h1
    cases h1
  | some o =>
    rw [q] at h1
    obtain ⟨nm, qn, N, bs, bm, sn, sub, ab, col, dd, k0, k1, k2, k3, k5, e, r⟩ := oexO_ok h1
    exact ⟨⟨nm, qn, N, bs, bm, sn, sub, ab, col, dd, k0, k1, k2, k3, k5, by rw [q, e], r⟩, eqO_ok h3, of_decide_eq_true h5, of_decide_eq_true h7, h8⟩
/-- the base class's __init__ is ValueError's -/
def cfV : Option PySem.W.CFound → Option (Option Value)
  | some (.val v) => some (some v)
  | _ => none
theorem cfV_ok : ∀ {o : Option PySem.W.CFound} {v : Value}, cfV o = some (some v) → o = some (.val v)
  | some (.val v), w, h => by
    have e : v = w := Option.some.inj (Option.some.inj h)
    rw [e]
  | some (.get _ _ _ _), _, h => by cases h
  | none, _, h => by cases h
def bscB (K : PySem.W.Frag) (C : Addr) : Bool := PySem.W.readsIn K C (.type "type") && (eqO (PySem.W.specialIn K (.ref C) "__getattribute__") (some (some (.builtin "type.__getattribute__"))) && eqO (cfV (PySem.W.findCls K (.ref C) (.type "type") "__init__")) (some (some (.builtin "ValueError.__init__"))))
theorem bscB_ok {K : PySem.W.Frag} {C : Addr} (h : bscB K C = true) : BsC K C := by
  obtain ⟨h1, h2⟩ := ba h
  obtain ⟨h3, h4⟩ := ba h2
  exact ⟨h1, eqO_ok h3, cfV_ok (eqO_ok h4)⟩
/-- where nothing is raised -/
theorem takes_w0 {X : Cx} : Takes X W0 := fun u s' ⟨a, B, sI, pins, σ, H, cls, d, e, I, nb, up, sky, na, os, ag, w⟩ => w.elim
end DL
set_option Elab.async false
set_option linter.all false
set_option maxRecDepth 100000
set_option maxHeartbeats 1000000
/-! DL, part 17: loops and comprehensions over range(n) with an invariant by the index; lists told by a function of the index. -/
namespace DL
open PySem PySem.Spec L2
def fup {α : Type} (f : Nat → α) (x : Nat) (v : α) : Nat → α := fun y => if y = x then v else f y
theorem fup_same {α : Type} {f : Nat → α} {x : Nat} {v : α} : fup f x v x = v := if_pos rfl
theorem fup_ne {α : Type} {f : Nat → α} {x y : Nat} {v : α} (h : y ≠ x) : fup f x v y = f y := if_neg h
theorem for_rng {gd : Gd} {g : Tgt} {tb : DTS} {E : DEnds} {enc : Nat → D} (I : Nat → DSt → GHp → Prop) (n : Nat) (hd : ∀ δ G, I n δ G → gd.ok G ∧ E.nx δ G)
    (hs : ∀ i, i < n → ∀ δ G, I i δ G → gd.ok G ∧ ∃ δ', g.set (enc i) δ = some δ' ∧ ∀ N : DSt → GHp → Prop, (∀ δ G, I (i + 1) δ G → N δ G) → tb { E with nx := N, ct := N, bk := E.nx } δ' G) (δ : DSt) (G : GHp) (h0 : I 0 δ G) :
    dForL gd g tb ((List.range n).map enc) E δ G := by
  refine for_ind (enc := enc) (fun r δ G => ∃ i, List.range n = List.range i ++ r ∧ i + r.length = n ∧ I i δ G) ?_ ?_ (List.range n) δ G ⟨0, rfl, by rw [List.length_range]; omega, h0⟩
  · rintro δ G ⟨i, e1, e2, h⟩
    rw [List.length_nil, Nat.add_zero] at e2
    subst e2
    exact hd δ G h
  · rintro j r δ G ⟨i, e1, e2, h⟩
    rw [List.length_cons] at e2
    have ej : j = i := by
      have := congrArg (fun l => l[i]?) e1
      simp only [List.getElem?_append_right (show (List.range i).length ≤ i by rw [List.length_range]; exact Nat.le_refl _), List.length_range, Nat.sub_self, List.getElem?_cons_zero] at this
      rw [List.getElem?_range (by omega)] at this
      exact (Option.some.inj this).symm
    subst ej
    obtain ⟨a, δ', b, c⟩ := hs j (by omega) δ G h
    refine ⟨a, δ', b, fun N hN => c N fun δ G q => hN δ G ⟨j + 1, by rw [e1, List.range_succ, List.append_assoc]; rfl, by omega, q⟩⟩
/-- the list of f 0 .. f (n - 1) -/
def tab (n : Nat) (f : Nat → D) : List D := (List.range n).map f
theorem tab_len (n : Nat) (f : Nat → D) : (tab n f).length = n := by simp [tab]
theorem tab_at {n : Nat} {f : Nat → D} {i : Nat} (h : i < n) {Q : D → Prop} (q : Q (f i)) : atD (tab n f) i Q := by
  refine atD_nat (d := f i) ?_ q
  unfold tab
  rw [List.getElem?_map, List.getElem?_range h]; rfl
theorem tab_set {n : Nat} {f : Nat → D} {i : Nat} {v : D} : (tab n f).set i v = tab n (fup f i v) := by
  refine List.ext_getElem? fun j => ?_
  unfold tab
  by_cases hj : j < n
  · by_cases e : j = i
    · subst e
      rw [List.getElem?_set_self (by simpa using hj), List.getElem?_map, List.getElem?_range hj]
      simp [fup]
    · rw [List.getElem?_set_ne (Ne.symm e), List.getElem?_map, List.getElem?_map, List.getElem?_range hj]
      simp [fup, e]
  · rw [List.getElem?_eq_none (by simp; omega), List.getElem?_eq_none (by simp; omega)]
theorem rep_tab (v : D) (n : Nat) : (List.replicate n [v]).flatten = tab n fun _ => v := by
  unfold tab
  induction n with
  | zero => rfl
  | succ n ih => rw [List.replicate_succ', List.flatten_append, ih, List.range_succ, List.map_append]; simp
theorem ixN_nat {n i : Nat} (h : i < n) : ixN n (i : Int) = some i := by
  unfold ixN
  rw [if_pos (by omega), if_pos (by omega)]
  simp
theorem fup_map {α β : Type} (g : α → β) (f : Nat → α) (x : Nat) (v : α) : (fun y => g (fup f x v y)) = fup (fun y => g (f y)) x (g v) := by
  funext y; unfold fup; split <;> rfl
theorem lc_rng {m : Bool} {gd : Gd} {g : Tgt} {tt : DTT} {te : DTE} {δw : DSt} {Q : DK} {enc : Nat → D} (I : Nat → List D → GHp → Prop) (n : Nat) (hd : ∀ acc G, I n acc G → gd.ok G ∧ lcEnd m acc G Q)
    (hs : ∀ i, i < n → ∀ acc G, I i acc G → gd.ok G ∧ ∃ δ', g.set (enc i) δw = some δ' ∧ ∀ N : List D → GHp → Prop, (∀ acc G, I (i + 1) acc G → N acc G) →
      tt δ' G fun b G1 => dIte b (te δ' G1 fun y G2 => acc.length < sizeLine ∧ N (acc ++ [y]) G2) (N acc G1)) (acc : List D) (G : GHp) (h0 : I 0 acc G) :
    dLcL m gd g tt te δw ((List.range n).map enc) acc G Q := by
  refine lc_ind (enc := enc) (fun r acc G => ∃ i, List.range n = List.range i ++ r ∧ i + r.length = n ∧ I i acc G) ?_ ?_ (List.range n) acc G ⟨0, rfl, by rw [List.length_range]; omega, h0⟩
  · rintro acc G ⟨i, e1, e2, h⟩
    rw [List.length_nil, Nat.add_zero] at e2
    subst e2
    exact hd acc G h
  · rintro j r acc G ⟨i, e1, e2, h⟩
    rw [List.length_cons] at e2
    have ej : j = i := by
      have := congrArg (fun l => l[i]?) e1
      simp only [List.getElem?_append_right (show (List.range i).length ≤ i by rw [List.length_range]; exact Nat.le_refl _), List.length_range, Nat.sub_self, List.getElem?_cons_zero] at this
      rw [List.getElem?_range (by omega)] at this
      exact (Option.some.inj this).symm
    subst ej
    obtain ⟨a, δ', b, c⟩ := hs j (by omega) acc G h
    refine ⟨a, δ', b, fun N hN => c N fun acc G q => hN acc G ⟨j + 1, by rw [e1, List.range_succ, List.append_assoc]; rfl, by omega, q⟩⟩
theorem tab_succ {n : Nat} {f : Nat → D} : tab (n + 1) f = tab n f ++ [f n] := by unfold tab; rw [List.range_succ, List.map_append]; rfl
theorem tab_congr {n : Nat} {f g : Nat → D} (h : ∀ i, i < n → f i = g i) : tab n f = tab n g := by
  unfold tab; exact List.map_congr_left fun i hi => h i (List.mem_range.mp hi)
theorem tab_at0 {n : Nat} {f : Nat → D} {i : Nat} (h : i < n) {Q : D → Prop} (q : Q (f i)) : atD (tab n f) (0 + (i : Int)) Q := by rw [Int.zero_add]; exact tab_at h q
theorem ixN_nat0 {n i : Nat} (h : i < n) : ixN n (0 + (i : Int)) = some i := by rw [Int.zero_add]; exact ixN_nat h
end DL
set_option Elab.async false
set_option linter.all false
set_option maxRecDepth 100000
set_option maxHeartbeats 1000000
/-! DL, part 18: defs that may raise by their number of parameters; what is known of an own exception class with one field. -/
namespace DL
open PySem PySem.Spec L2 PyProof.Rows He
/-- a def that may raise, called where it doesn't -/
theorem passX0 {X : Cx} : Passes (L2.CX X.prog X.w) X (fun _ _ _ => False) := fun pins σ H s e s' I c => passAt (W := W0) takes_w0 σ pins H s e s' I c
/-- an exception of the class that the module's name x stands for, with these fields -/
abbrev exC (K : PySem.W.Frag) (x : Str) : Value := .ref (ga K x)
section
variable {P : Program} {w : World} {K : PySem.W.Frag} {mg : Str → Option Value} {base : Heap} {x qual : Str} {st : Stmt} {f : Addr} {fd : FuncData} {N ps : List Str} {k : Nat} {t : DTS} {l : DSt} {dv : List V} {kv : List (Str × V)}
theorem DFunX.ok0 {p : GHp → DK → DXK → Prop} (F : FunD K x qual (defArgs st) (defBody st) (defScope st) dv kv f fd) (S : FnScope N ps (defScope st)) (hp : ps.length = 0) (hl : List.replicate (N.length - 0) none = l) (d : DerX P w K mg base N qual st f k t)
    (rd : ∀ G Q E, p G Q E → DRunX t (l) G Q E) : FnOk P w K mg base (L2.CX P w) (k + 1) f fd ps (cSp K (sp0 p)) :=
  DFunX.ok F S (fun ds G Q E h => by
    match ds, h with
    | [], _ => exact hp.symm) d fun ds G Q E0 h => by
    match ds, h with
    | [], h => subst hl; exact rd G Q E0 h
theorem DFunX.ok1 {p : D → GHp → DK → DXK → Prop} (F : FunD K x qual (defArgs st) (defBody st) (defScope st) dv kv f fd) (S : FnScope N ps (defScope st)) (hp : ps.length = 1) (hl : List.replicate (N.length - 1) none = l) (d : DerX P w K mg base N qual st f k t)
    (rd : ∀ a G Q E, p a G Q E → DRunX t (some a :: l) G Q E) : FnOk P w K mg base (L2.CX P w) (k + 1) f fd ps (cSp K (sp1 p)) :=
  DFunX.ok F S (fun ds G Q E h => by
    match ds, h with
    | [_], _ => exact hp.symm) d fun ds G Q E0 h => by
    match ds, h with
    | [a], h => subst hl; exact rd a G Q E0 h
theorem DFunX.ok2 {p : D → D → GHp → DK → DXK → Prop} (F : FunD K x qual (defArgs st) (defBody st) (defScope st) dv kv f fd) (S : FnScope N ps (defScope st)) (hp : ps.length = 2) (hl : List.replicate (N.length - 2) none = l) (d : DerX P w K mg base N qual st f k t)
    (rd : ∀ a b G Q E, p a b G Q E → DRunX t (some a :: some b :: l) G Q E) : FnOk P w K mg base (L2.CX P w) (k + 1) f fd ps (cSp K (sp2 p)) :=
  DFunX.ok F S (fun ds G Q E h => by
    match ds, h with
    | [_, _], _ => exact hp.symm) d fun ds G Q E0 h => by
    match ds, h with
    | [a, b], h => subst hl; exact rd a b G Q E0 h
theorem DFunX.ok3 {p : D → D → D → GHp → DK → DXK → Prop} (F : FunD K x qual (defArgs st) (defBody st) (defScope st) dv kv f fd) (S : FnScope N ps (defScope st)) (hp : ps.length = 3) (hl : List.replicate (N.length - 3) none = l) (d : DerX P w K mg base N qual st f k t)
    (rd : ∀ a b c G Q E, p a b c G Q E → DRunX t (some a :: some b :: some c :: l) G Q E) : FnOk P w K mg base (L2.CX P w) (k + 1) f fd ps (cSp K (sp3 p)) :=
  DFunX.ok F S (fun ds G Q E h => by
    match ds, h with
    | [_, _, _], _ => exact hp.symm) d fun ds G Q E0 h => by
    match ds, h with
    | [a, b, c], h => subst hl; exact rd a b c G Q E0 h
theorem DFunX.ok4 {p : D → D → D → D → GHp → DK → DXK → Prop} (F : FunD K x qual (defArgs st) (defBody st) (defScope st) dv kv f fd) (S : FnScope N ps (defScope st)) (hp : ps.length = 4) (hl : List.replicate (N.length - 4) none = l) (d : DerX P w K mg base N qual st f k t)
    (rd : ∀ a b c e G Q E, p a b c e G Q E → DRunX t (some a :: some b :: some c :: some e :: l) G Q E) : FnOk P w K mg base (L2.CX P w) (k + 1) f fd ps (cSp K (sp4 p)) :=
  DFunX.ok F S (fun ds G Q E h => by
    match ds, h with
    | [_, _, _, _], _ => exact hp.symm) d fun ds G Q E0 h => by
    match ds, h with
    | [a, b, c, e], h => subst hl; exact rd a b c e G Q E0 h
theorem DFunX.ok5 {p : D → D → D → D → D → GHp → DK → DXK → Prop} (F : FunD K x qual (defArgs st) (defBody st) (defScope st) dv kv f fd) (S : FnScope N ps (defScope st)) (hp : ps.length = 5) (hl : List.replicate (N.length - 5) none = l) (d : DerX P w K mg base N qual st f k t)
    (rd : ∀ a b c e g G Q E, p a b c e g G Q E → DRunX t (some a :: some b :: some c :: some e :: some g :: l) G Q E) : FnOk P w K mg base (L2.CX P w) (k + 1) f fd ps (cSp K (sp5 p)) :=
  DFunX.ok F S (fun ds G Q E h => by
    match ds, h with
    | [_, _, _, _, _], _ => exact hp.symm) d fun ds G Q E0 h => by
    match ds, h with
    | [a, b, c, e, g], h => subst hl; exact rd a b c e g G Q E0 h
end
def sp6 (p : D → D → D → D → D → D → GHp → DK → DXK → Prop) : DSp := fun ds G Q E => match ds with
  | [a, b, c, d, e, g] => p a b c d e g G Q E
  | _ => False
section
variable {P : Program} {w : World} {K : PySem.W.Frag} {mg : Str → Option Value} {base : Heap} {x qual : Str} {st : Stmt} {f : Addr} {fd : FuncData} {N ps : List Str} {k : Nat} {t : DTS} {l : DSt} {dv : List V} {kv : List (Str × V)}
theorem DFun.ok6 {p : D → D → D → D → D → D → GHp → DK → DXK → Prop} (F : FunD K x qual (defArgs st) (defBody st) (defScope st) dv kv f fd) (S : FnScope N ps (defScope st)) (hp : ps.length = 6) (hl : List.replicate (N.length - 6) none = l) (d : Der P w K mg base N qual st f k t)
    (rd : ∀ a b c e g i G Q E, p a b c e g i G Q E → DRun t (some a :: some b :: some c :: some e :: some g :: some i :: l) G Q) :
    FnOk P w K mg base CX0 (k + 1) f fd ps (cSp K (sp6 p)) :=
  DFunD.ok F S (fun ds G Q E h => by
    match ds, h with
    | [_, _, _, _, _, _], _ => exact hp.symm) fun cdv A outer s H E ds G Q E0 hr h => by
    match ds, h with
    | [a, b, c, e, g, i], h => exact ⟨t, d cdv A outer s H E hr, by subst hl; exact rd a b c e g i G Q E0 h⟩
theorem DFunX.ok6 {p : D → D → D → D → D → D → GHp → DK → DXK → Prop} (F : FunD K x qual (defArgs st) (defBody st) (defScope st) dv kv f fd) (S : FnScope N ps (defScope st)) (hp : ps.length = 6) (hl : List.replicate (N.length - 6) none = l) (d : DerX P w K mg base N qual st f k t)
    (rd : ∀ a b c e g i G Q E, p a b c e g i G Q E → DRunX t (some a :: some b :: some c :: some e :: some g :: some i :: l) G Q E) : FnOk P w K mg base (L2.CX P w) (k + 1) f fd ps (cSp K (sp6 p)) :=
  DFunX.ok F S (fun ds G Q E h => by
    match ds, h with
    | [_, _, _, _, _, _], _ => exact hp.symm) d fun ds G Q E0 h => by
    match ds, h with
    | [a, b, c, e, g, i], h => subst hl; exact rd a b c e g i G Q E0 h
/-- what is known of an own class x over the class b, whose __init__ keeps its argument in the field g -/
structure XC1 (K : PySem.W.Frag) (mg : Str → Option Value) (x b g : Str) : Prop where
  m : mg x = some (.ref (ga K x))
  o : OexC K (ga K x)
  xf : XfC K (ga K x)
  no : PySem.W.findIn K (.ref (ga K x)) g = some none
  ini : PySem.W.findIn K (.ref (ga K x)) "__init__" = some (some (.ref (fAd K (x, some "__init__"))))
  ti : PySem.W.typeIn K (.ref (fAd K (x, some "__init__"))) = some (.type "function")
  bm : mg b = some (.ref (ga K b))
  bs : BsC K (ga K b)
  ex : PySem.W.exmOne K (.ref (ga K x)) (.ref (ga K x)) = some true
def xc1B (K : PySem.W.Frag) (x b g : Str) : Bool := eqO (PySem.W.nsIn K mainGlobals x) (some (some (.ref (ga K x)))) && (eqO (PySem.W.nsIn K mainGlobals b) (some (some (.ref (ga K b)))) && (oexB K (ga K x) && (xfB K (ga K x) &&
  (eqO (PySem.W.findIn K (.ref (ga K x)) g) (some none) && (eqO (PySem.W.findIn K (.ref (ga K x)) "__init__") (some (some (.ref (fAd K (x, some "__init__"))))) && (decide (PySem.W.typeIn K (.ref (fAd K (x, some "__init__"))) = some (.type "function")) &&
  (bscB K (ga K b) && decide (PySem.W.exmOne K (.ref (ga K x)) (.ref (ga K x)) = some true))))))))
theorem xc1B_ok {h : Heap} (X : K.In h) (G : h.Ns mainGlobals mg) {x b g : Str} (c : xc1B K x b g = true) : XC1 K mg x b g := by
  obtain ⟨h1, c⟩ := ba c
  obtain ⟨h2, c⟩ := ba c
  obtain ⟨h3, c⟩ := ba c
  obtain ⟨h4, c⟩ := ba c
  obtain ⟨h5, c⟩ := ba c
  obtain ⟨h6, c⟩ := ba c
  obtain ⟨h7, c⟩ := ba c
  obtain ⟨h8, h9⟩ := ba c
  exact ⟨PySem.W.mg_of X G (eqO_ok h1), oexB_ok h3, xfB_ok h4, eqO_ok h5, eqO_ok h6, of_decide_eq_true h7, PySem.W.mg_of X G (eqO_ok h2), bscB_ok h8, of_decide_eq_true h9⟩
end
end DL
set_option Elab.async false
set_option linter.all false
set_option maxRecDepth 100000
set_option maxHeartbeats 1000000
/-! DL, part 19: comprehensions that draw. -/
namespace DL
open PySem PySem.Spec L2
theorem at_map {α : Type} {f : α → D} {l : List α} {i : Nat} (h : i < l.length) {Q : D → Prop} (q : Q (f l[i])) : atD (l.map f) (i : Int) Q :=
  atD_nat (d := f l[i]) (by rw [List.getElem?_map, List.getElem?_eq_getElem h]; rfl) q
theorem tab_atZ {n : Nat} {f : Nat → D} {z : Int} (h0 : 0 ≤ z) (h : z < n) {Q : D → Prop} (q : Q (f z.toNat)) : atD (tab n f) z Q := by
  obtain ⟨i, rfl⟩ := Int.eq_ofNat_of_zero_le h0
  exact tab_at (by omega) q
theorem enum_tab (n : Nat) (f : Nat → D) : enumFrom 0 (tab n f) = (List.range n).map fun (k : Nat) => D.tup [.int k, f k] := by
  refine List.ext_getElem? fun i => ?_
  unfold tab
  rw [enumFrom_get, List.getElem?_map, List.getElem?_map]
  by_cases h : i < n
  · rw [List.getElem?_range h]
    simp
  · rw [List.getElem?_eq_none (by simp; omega)]
    rfl
theorem Paired.len {α β : Type} {P : α → β → Prop} {xs : List α} {ys : List β} (h : Paired P xs ys) : xs.length = ys.length := Paired.length h
theorem Paired.snoc {α β : Type} {P : α → β → Prop} {x : α} {y : β} (q : P x y) : ∀ {xs : List α} {ys : List β}, Paired P xs ys → Paired P (xs ++ [x]) (ys ++ [y])
  | _, _, .nil => .cons q .nil
  | _, _, .cons h t => .cons h (Paired.snoc q t)
theorem Paired.at_ {α β : Type} {P : α → β → Prop} : ∀ {xs : List α} {ys : List β}, Paired P xs ys → ∀ {i : Nat} {x : α} {y : β}, xs[i]? = some x → ys[i]? = some y → P x y
  | _, _, .nil, i, x, y, h, _ => by simp at h
  | _, _, .cons q t, 0, x, y, h, g => by
    simp at h g
    subst h g
    exact q
  | _, _, .cons q t, i + 1, x, y, h, g => Paired.at_ t (by simpa using h) (by simpa using g)
theorem Paired.all2 {α β : Type} {P : α → β → Prop} {R : β → Prop} (k : ∀ x y, P x y → R y) : ∀ {xs : List α} {ys : List β}, Paired P xs ys → ∀ y ∈ ys, R y
  | _, _, .nil, y, h => by simp at h
  | _, _, .cons q t, y, h => by
    rcases List.mem_cons.mp h with rfl | h
    · exact k _ _ q
    · exact Paired.all2 k t y h
/-- a list of encoded things -/
theorem Paired.enc {α β γ : Type} {P : α → β → Prop} {f : β → γ} : ∀ {xs : List α} {ds : List γ}, Paired (fun x d => ∃ w, d = f w ∧ P x w) xs ds → ∃ ws, ds = ws.map f ∧ Paired P xs ws
  | _, _, .nil => ⟨[], rfl, .nil⟩
  | _, _, .cons ⟨w, e, q⟩ t => by
    obtain ⟨ws, e2, t2⟩ := Paired.enc t
    exact ⟨w :: ws, by rw [e, e2]; rfl, .cons q t2⟩
/-- each item's value is made with the box; c draws an item at most -/
theorem lc_bk {m : Bool} {gd : Gd} {g : Tgt} {te : DTE} {δw : DSt} {G0 G : GHp} {p : Addr} {Q : DK} {α : Type} {enc : α → D} {xs : List α} (P : α → D → Prop) (k c : Nat) (dst : α → DSt) (hz : xs.length ≤ sizeLine) (hg : ∀ k G', Bk G0 p k G' → gd.ok G')
    (hs : ∀ x ∈ xs, g.set (enc x) δw = some (dst x))
    (he : ∀ x ∈ xs, ∀ j G', j < xs.length → Bk G0 p (k + c * j) G' → ∀ R : DK, (∀ d G2, P x d → Bk G0 p (k + c * (j + 1)) G2 → R d G2) → te (dst x) G' R)
    (hd : ∀ ds G', Paired P xs ds → Bk G0 p (k + c * xs.length) G' → lcEnd m ds G' Q) (h0 : Bk G0 p k G) : dLcL m gd g dYes te δw (xs.map enc) [] G Q := by
  refine lc_ind (enc := enc) (fun r acc G' => ∃ pre, xs = pre ++ r ∧ Paired P pre acc ∧ Bk G0 p (k + c * pre.length) G') ?_ ?_ xs [] G ⟨[], rfl, .nil, h0⟩
  · rintro acc G' ⟨pre, e, hp, B⟩
    rw [List.append_nil] at e
    subst e
    exact ⟨hg _ _ B, hd _ _ hp B⟩
  · rintro x r acc G' ⟨pre, e, hp, B⟩
    have hx : x ∈ xs := by rw [e]; simp
    have hl : pre.length < xs.length := by rw [e]; simp
    refine ⟨hg _ _ B, _, hs x hx, fun N hN => ⟨fun _ => ?_, fun e => tf e⟩⟩
    refine he x hx _ _ hl B _ fun d G2 hP B2 => ⟨?_, hN _ _ ⟨pre ++ [x], by rw [e]; simp, Paired.snoc hP hp, by rw [List.length_append]; exact B2⟩⟩
    rw [← Paired.length hp]; omega
end DL
set_option Elab.async false
set_option linter.all false
set_option maxRecDepth 100000
set_option maxHeartbeats 1000000
/-! DL, part 20: defs with keyword-only defaults. -/
namespace DL
open PySem PySem.Spec L2 PyProof.Rows
def pick {α : Type} (ix : List Nat) (l : List α) : List α := ix.filterMap fun i => l[i]?
/-- n positional values, keywords ks, the lacking ones' values ms -/
def KBk (K : PySem.W.Frag) (fd : FuncData) (ps : List Str) (n : Nat) (ks : List Str) (ix : List Nat) (ms : List V) : Prop :=
  ∃ mv : List Value, KBn K fd ps n ks (fun us ws => pick ix (us ++ ws ++ mv)) (fun vs zs => pick ix (vs ++ zs ++ ms))
/-- a def with keyword-only defaults -/
structure FnK (K : PySem.W.Frag) (mg : Str → Option Value) (name : Str) (st : Stmt) (kws : List (Str × V)) where
  f : Addr
  fd : FuncData
  F : FunD K name name (defArgs st) (defBody st) (defScope st) [] kws f fd
  m : mg name = some (.ref f)
section
variable {K : PySem.W.Frag} {x qual : Str} {params : Arguments} {body : List Stmt} {scope : Scope} {kws : List (Str × V)} {f : Addr} {fd : FuncData} {ps ks : List Str} {n : Nat}
theorem kbk_of (F : FunD K x qual params body scope [] kws f fd) (ix : List Nat) (ms : List (Str × V)) (hn : ms ≠ []) (hms : ∀ q ∈ ms, q ∈ kws)
    (h : ∀ (D : Addr) (doc pm : Value) (an : Option Addr) (cdv ct : Value) (us ws mv : List Value), us.length = n → ws.length = ks.length → mv.length = ms.length →
      KwChain D ((ms.map (·.1)).zip mv) (bindArgs (PySem.W.fnOf x qual params body scope .none (.ref D) doc pm an cdv ct) ⟨us, ks.zip ws⟩) (ps.zip (pick ix (us ++ ws ++ mv)))) : KBk K fd ps n ks ix (ms.map (·.2)) := by
  obtain ⟨oc, od, dV, kV, doc, pm, an, cdv, ct, osl, rfl, lk, hcd, hD, hK⟩ := F.ex
  rcases hD with ⟨_, rfl⟩ | ⟨e, _⟩
  · rcases hK with e | ⟨D, rfl, hq⟩
    · cases ms with
      | nil => exact absurd rfl hn
      | cons m r =>
        have := hms m List.mem_cons_self
        rw [e] at this
        simp at this
    · obtain ⟨mv, hl, rk, hks⟩ := kwd_vals (ms := ms) fun q hm => hq q (hms q hm)
      exact ⟨mv, fun s us ws X l1 l2 => BindsTo.of_looks fun M => KwChain.looks X hks (h D doc pm an cdv ct us ws mv l1 l2 hl), fun r1 r2 => Vals.pick ((r1.append r2).append rk) ix⟩
  · exact absurd rfl e
/-- nothing lacks -/
theorem kbk_all (F : FunD K x qual params body scope [] kws f fd) (ix : List Nat)
    (h : ∀ (kV doc pm : Value) (an : Option Addr) (cdv ct : Value) (us ws : List Value), us.length = n → ws.length = ks.length → bindArgs (PySem.W.fnOf x qual params body scope .none kV doc pm an cdv ct) ⟨us, ks.zip ws⟩ = pure (ps.zip (pick ix (us ++ ws ++ [])))) : KBk K fd ps n ks ix [] := by
  obtain ⟨oc, od, dV, kV, doc, pm, an, cdv, ct, osl, rfl, lk, hcd, hD, hK⟩ := F.ex
  rcases hD with ⟨_, rfl⟩ | ⟨e, _⟩
  · exact ⟨[], fun s us ws X l1 l2 => .of_eq (h kV doc pm an cdv ct us ws l1 l2), fun r1 r2 => Vals.pick ((r1.append r2).append .nil) ix⟩
  · exact absurd rfl e
end
section
variable {X : Cx} {CX : CXT} {k : Nat} {f : Addr} {fd : FuncData} {ps : List Str} {sp : DSp} {E : XK} {x : Str} {p pos : Pos} {e : Expr} {es : List Expr} {t : DTA} {ix : List Nat} {ms : List V} {mds : List D}
theorem Reps.pickK {K : PySem.W.Frag} {W : Hp} (ix : List Nat) {ds es : List D} {vs us : List V} (hmd : ∀ W, Reps K W mds ms) (r : Reps K W ds vs) (q : Reps K W es us) : Reps K W (DL.pick ix (ds ++ es ++ mds)) (DL.pick ix (vs ++ us ++ ms)) := Reps.pick ((r.append q).append (hmd W)) ix
theorem de_callK {n : Nat} {ks : List Str} {kws : List Keyword} {tk : DTA} (F : FnOk X.prog X.w X.K X.mg X.base CX k f fd ps (cSp X.K sp)) (hr : Room k X.A) (hg : Gl X x) (hm : X.mg x = some (.ref f)) (hk : PySem.W.keepIn X.K (.ref f) = true) (hb : KBk X.K fd ps n ks ix ms)
    (hmd : ∀ W, Reps X.K W mds ms) (hx : Passes CX X E)
    (ha : DA X (e :: es) t) (hkw : DKw X kws tk) (hall : (backToKw pos (keywordEach kws X.env)).all (·.1.isSome) = true := by rfl) (hks : (backToKw pos (keywordEach kws X.env)).filterMap (·.1) = ks := by rfl)
    (hdb : (x == ("__debug__" : Str)) = false := by decide) (he : starEach (e :: es) X.env = (false, eval e X.env) :: starEach es X.env := by rfl)
    (hpl : ((backTo pos (starEach (e :: es) X.env)).any (·.1) || (backToKw pos (keywordEach kws X.env)).any (·.1.isNone)) = false := by rfl) :
    DE X (.Call (.Name x p) (e :: es) kws pos) (dCallN n ks.length sp (fun ds es => pick ix (ds ++ es ++ mds)) t tk) := by
  obtain ⟨mv, h⟩ := hb
  exact de_callN F hr hg hm hk h (fun _ _ _ _ _ r q => Reps.pickK ix hmd r q) hx ha hkw hall hks hdb he hpl
theorem de_callK0 {ks : List Str} {kws : List Keyword} {tk : DTA} (F : FnOk X.prog X.w X.K X.mg X.base CX k f fd ps (cSp X.K sp)) (hr : Room k X.A) (hg : Gl X x) (hm : X.mg x = some (.ref f)) (hk : PySem.W.keepIn X.K (.ref f) = true) (hb : KBk X.K fd ps 0 ks ix ms)
    (hmd : ∀ W, Reps X.K W mds ms) (hx : Passes CX X E)
    (hkw : DKw X kws tk) (hall : (backToKw pos (keywordEach kws X.env)).all (·.1.isSome) = true := by rfl) (hks : (backToKw pos (keywordEach kws X.env)).filterMap (·.1) = ks := by rfl)
    (hdb : (x == ("__debug__" : Str)) = false := by decide) (hpl : ((backTo pos (starEach [] X.env)).any (·.1) || (backToKw pos (keywordEach kws X.env)).any (·.1.isNone)) = false := by rfl) :
    DE X (.Call (.Name x p) [] kws pos) (dCallN 0 ks.length sp (fun ds es => pick ix (ds ++ es ++ mds)) dNil tk) := by
  obtain ⟨mv, h⟩ := hb
  exact de_callN0 F hr hg hm hk h (fun _ _ _ _ _ r q => Reps.pickK ix hmd r q) hx hkw hall hks hdb hpl
end
end DL
set_option linter.all false
set_option maxRecDepth 100000
set_option maxHeartbeats 1000000
namespace NUM
open PySem PySem.Spec L2 DL
open Rat
/-! DL, part 21: exact numbers: whole ones and parts are rational numbers; what the program's and the laws' reckoning does. -/
/-- is_plain: 0 thing -/
def t_is_plain : DTS :=
  (dRet (dAndV (dCB (dR2 dIsiR) (dCons (dVar 0) (dCons (dC (.ty .int)) dNil))) (dNotV (dCB (dR2 dIsiR) (dCons (dVar 0) (dCons (dC (.ty .bool)) dNil))))))
/-- is_whole: 0 thing, 1 low, 2 high -/
def t_is_whole (sp_is_plain : DSp) : DTS :=
  (dRet (dAndV (dCall sp_is_plain [] (dCons (dVar 0) dNil)) (dChain (dCmpR (fun i j => decide (i ≤ j)) (fun a b => !decide (b < a))) (dCmpR (fun i j => decide (i ≤ j)) (fun a b => !decide (b < a))) (dVar 1) (dVar 0) (dVar 2))))
/-- common_part: 0 one, 1 other -/
def t_common_part : DTS :=
  (dSeq (dPar 0 1 (dCons (dCB (dR1 dAbsR) (dCons (dVar 0) dNil)) (dCons (dCB (dR1 dAbsR) (dCons (dVar 1) dNil)) dNil)))
  (dSeq (dWhile (dTestB (dOp dNeQ (dVar 1) (dC (.int 0)))) (dPar 0 1 (dCons (dVar 1) (dCons (dOp (dI (fun _ j => 0 < j) fun i j => .int (i % j)) (dVar 0) (dVar 1)) dNil))))
  (dRet (dVar 0))))
/-- is_part: 0 thing, 1 top, 2 base -/
def t_is_part (sp_is_plain : DSp) (sp_common_part : DSp) : DTS :=
  (dSeq (dIf (dOr (dNot (dTest (dCB (dR2 dIsiR) (dCons (dVar 0) (dCons (dC (.ty .tup)) dNil))))) (dTestB (dOp dNeQ (dCB (dR1 dLenR) (dCons (dVar 0) dNil)) (dC (.int 2))))) (dRet (dC (.bl false))) dNext)
  (dSeq (dAsg (dVar 0) (.tp [(.nm 1), (.nm 2)]))
  (dRet (dAndV (dCall sp_is_plain [] (dCons (dVar 1) dNil)) (dAndV (dCall sp_is_plain [] (dCons (dVar 2) dNil)) (dAndV (dOp (dCmpR (fun i j => decide (j < i)) (fun a b => decide (b < a))) (dVar 2) (dC (.int 1))) (dOp dEqQ (dCall sp_common_part [] (dCons (dVar 1) (dCons (dVar 2) dNil))) (dC (.int 1)))))))))
/-- is_number: 0 thing -/
def t_is_number (sp_is_plain : DSp) (sp_is_part : DSp) : DTS :=
  (dRet (dOrV (dCall sp_is_plain [] (dCons (dVar 0) dNil)) (dCall sp_is_part [] (dCons (dVar 0) dNil))))
/-- reckoned: 0 top, 1 base, 2 part -/
def t_reckoned (sp_common_part : DSp) : DTS :=
  (dSeq (dAsg (dCall sp_common_part [] (dCons (dVar 0) (dCons (dVar 1) dNil))) (.nm 2))
  (dSeq (dIf (dTestB (dOp (dCmpR (fun i j => decide (i < j)) (fun a b => decide (a < b))) (dVar 1) (dC (.int 0)))) (dAsg (dOp (dI0 fun i j => .int (i - j)) (dC (.int 0)) (dVar 2)) (.nm 2)) dNext)
  (dSeq (dPar 0 1 (dCons (dOp (dI (fun _ j => DivOk j) fun i j => .int (i.fdiv j)) (dVar 0) (dVar 2)) (dCons (dOp (dI (fun _ j => DivOk j) fun i j => .int (i.fdiv j)) (dVar 1) (dVar 2)) dNil)))
  (dRet (dIfE (dTestB (dOp dEqQ (dVar 1) (dC (.int 1)))) (dVar 0) (dTup (dCons (dVar 0) (dCons (dVar 1) dNil))))))))
/-- pair_of: 0 number -/
def t_pair_of (sp_is_plain : DSp) (sp_is_part : DSp) : DTS :=
  (dSeq (dIf (dTest (dCall sp_is_plain [] (dCons (dVar 0) dNil))) (dRet (dTup (dCons (dVar 0) (dCons (dC (.int 1)) dNil)))) dNext)
  (dSeq (dIf (dNot (dTest (dCall sp_is_part [] (dCons (dVar 0) dNil)))) dNever dNext)
  (dRet (dVar 0))))
/-- plus: 0 one, 1 other, 2 top, 3 base, 4 more, 5 under -/
def t_plus (sp_pair_of : DSp) (sp_reckoned : DSp) : DTS :=
  (dSeq (dAsg (dTup (dCons (dCall sp_pair_of [] (dCons (dVar 0) dNil)) (dCons (dCall sp_pair_of [] (dCons (dVar 1) dNil)) dNil))) (.tp [(.tp [(.nm 2), (.nm 3)]), (.tp [(.nm 4), (.nm 5)])]))
  (dRet (dCall sp_reckoned [] (dCons (dOp dAddR (dOp (dI MulOk fun i j => .int (i * j)) (dVar 2) (dVar 5)) (dOp (dI MulOk fun i j => .int (i * j)) (dVar 4) (dVar 3))) (dCons (dOp (dI MulOk fun i j => .int (i * j)) (dVar 3) (dVar 5)) dNil)))))
/-- minus: 0 one, 1 other, 2 top, 3 base, 4 more, 5 under -/
def t_minus (sp_pair_of : DSp) (sp_reckoned : DSp) : DTS :=
  (dSeq (dAsg (dTup (dCons (dCall sp_pair_of [] (dCons (dVar 0) dNil)) (dCons (dCall sp_pair_of [] (dCons (dVar 1) dNil)) dNil))) (.tp [(.tp [(.nm 2), (.nm 3)]), (.tp [(.nm 4), (.nm 5)])]))
  (dRet (dCall sp_reckoned [] (dCons (dOp (dI0 fun i j => .int (i - j)) (dOp (dI MulOk fun i j => .int (i * j)) (dVar 2) (dVar 5)) (dOp (dI MulOk fun i j => .int (i * j)) (dVar 4) (dVar 3))) (dCons (dOp (dI MulOk fun i j => .int (i * j)) (dVar 3) (dVar 5)) dNil)))))
/-- times: 0 one, 1 other, 2 top, 3 base, 4 more, 5 under -/
def t_times (sp_pair_of : DSp) (sp_reckoned : DSp) : DTS :=
  (dSeq (dAsg (dTup (dCons (dCall sp_pair_of [] (dCons (dVar 0) dNil)) (dCons (dCall sp_pair_of [] (dCons (dVar 1) dNil)) dNil))) (.tp [(.tp [(.nm 2), (.nm 3)]), (.tp [(.nm 4), (.nm 5)])]))
  (dRet (dCall sp_reckoned [] (dCons (dOp (dI MulOk fun i j => .int (i * j)) (dVar 2) (dVar 4)) (dCons (dOp (dI MulOk fun i j => .int (i * j)) (dVar 3) (dVar 5)) dNil)))))
/-- over: 0 one, 1 other, 2 top, 3 base, 4 more, 5 under -/
def t_over (sp_pair_of : DSp) (sp_reckoned : DSp) : DTS :=
  (dSeq (dAsg (dTup (dCons (dCall sp_pair_of [] (dCons (dVar 0) dNil)) (dCons (dCall sp_pair_of [] (dCons (dVar 1) dNil)) dNil))) (.tp [(.tp [(.nm 2), (.nm 3)]), (.tp [(.nm 4), (.nm 5)])]))
  (dSeq (dIf (dTestB (dOp dEqQ (dVar 4) (dC (.int 0)))) dNever dNext)
  (dRet (dCall sp_reckoned [] (dCons (dOp (dI MulOk fun i j => .int (i * j)) (dVar 2) (dVar 5)) (dCons (dOp (dI MulOk fun i j => .int (i * j)) (dVar 3) (dVar 4)) dNil))))))
/-- less: 0 one, 1 other, 2 top, 3 base, 4 more, 5 under -/
def t_less (sp_pair_of : DSp) : DTS :=
  (dSeq (dAsg (dTup (dCons (dCall sp_pair_of [] (dCons (dVar 0) dNil)) (dCons (dCall sp_pair_of [] (dCons (dVar 1) dNil)) dNil))) (.tp [(.tp [(.nm 2), (.nm 3)]), (.tp [(.nm 4), (.nm 5)])]))
  (dRet (dOp (dCmpR (fun i j => decide (i < j)) (fun a b => decide (a < b))) (dOp (dI MulOk fun i j => .int (i * j)) (dVar 2) (dVar 5)) (dOp (dI MulOk fun i j => .int (i * j)) (dVar 4) (dVar 3)))))
/-- floor_of: 0 number, 1 step, 2 top, 3 base, 4 more, 5 under -/
def t_floor_of (sp_pair_of : DSp) (sp_times : DSp) : DTS :=
  (dSeq (dAsg (dTup (dCons (dCall sp_pair_of [] (dCons (dVar 0) dNil)) (dCons (dCall sp_pair_of [] (dCons (dVar 1) dNil)) dNil))) (.tp [(.tp [(.nm 2), (.nm 3)]), (.tp [(.nm 4), (.nm 5)])]))
  (dSeq (dIf (dTestB (dOp (dCmpR (fun i j => decide (i ≤ j)) (fun a b => !decide (b < a))) (dVar 4) (dC (.int 0)))) dNever dNext)
  (dRet (dCall sp_times [] (dCons (dVar 1) (dCons (dOp (dI CDivW fun i j => .int (i / j)) (dOp (dI MulOk fun i j => .int (i * j)) (dVar 2) (dVar 5)) (dOp (dI MulOk fun i j => .int (i * j)) (dVar 3) (dVar 4))) dNil))))))
/-- _law_low: 0 top, 1 bottom, 2 one, 3 other, 4 sign -/
def t_law_low : DTS :=
  (dSeq (dPar 2 3 (dCons (dCB (dR1 dAbsR) (dCons (dVar 0) dNil)) (dCons (dCB (dR1 dAbsR) (dCons (dVar 1) dNil)) dNil)))
  (dSeq (dWhile (dTestB (dOp (dCmpR (fun i j => decide (j < i)) (fun a b => decide (b < a))) (dVar 3) (dC (.int 0)))) (dPar 2 3 (dCons (dVar 3) (dCons (dOp (dI (fun _ j => 0 < j) fun i j => .int (i % j)) (dCB (dR1 dIntR) (dCons (dVar 2) dNil)) (dVar 3)) dNil))))
  (dSeq (dAsg (dIfE (dTestB (dOp (dCmpR (fun i j => decide (j < i)) (fun a b => decide (b < a))) (dVar 1) (dC (.int 0)))) (dC (.int 1)) (dUn dNeg (dC (.int 1)))) (.nm 4))
  (dRet (dTup (dCons (dOp (dI CDivW fun i j => .int (i / j)) (dOp (dI MulOk fun i j => .int (i * j)) (dVar 4) (dVar 0)) (dVar 2)) (dCons (dOp (dI CDivW fun i j => .int (i / j)) (dCB (dR1 dAbsR) (dCons (dVar 1) dNil)) (dVar 2)) dNil)))))))
/-- _law_num: 0 pair -/
def t_law_num : DTS :=
  (dRet (dIfE (dTestB (dOp dEqQ (dOp dIxR (dVar 0) (dC (.int 1))) (dC (.int 1)))) (dOp dIxR (dVar 0) (dC (.int 0))) (dVar 0)))
/-- _law_plus: 0 one, 1 other -/
def t_law_plus (sp_law_low : DSp) : DTS :=
  (dRet (dCall sp_law_low [] (dCons (dOp dAddR (dOp (dI MulOk fun i j => .int (i * j)) (dOp dIxR (dVar 0) (dC (.int 0))) (dOp dIxR (dVar 1) (dC (.int 1)))) (dOp (dI MulOk fun i j => .int (i * j)) (dOp dIxR (dVar 1) (dC (.int 0))) (dOp dIxR (dVar 0) (dC (.int 1))))) (dCons (dOp (dI MulOk fun i j => .int (i * j)) (dOp dIxR (dVar 0) (dC (.int 1))) (dOp dIxR (dVar 1) (dC (.int 1)))) dNil))))
/-- _law_minus: 0 one, 1 other -/
def t_law_minus (sp_law_low : DSp) : DTS :=
  (dRet (dCall sp_law_low [] (dCons (dOp (dI0 fun i j => .int (i - j)) (dOp (dI MulOk fun i j => .int (i * j)) (dOp dIxR (dVar 0) (dC (.int 0))) (dOp dIxR (dVar 1) (dC (.int 1)))) (dOp (dI MulOk fun i j => .int (i * j)) (dOp dIxR (dVar 1) (dC (.int 0))) (dOp dIxR (dVar 0) (dC (.int 1))))) (dCons (dOp (dI MulOk fun i j => .int (i * j)) (dOp dIxR (dVar 0) (dC (.int 1))) (dOp dIxR (dVar 1) (dC (.int 1)))) dNil))))
/-- _law_over: 0 one, 1 other -/
def t_law_over (sp_law_low : DSp) : DTS :=
  (dRet (dCall sp_law_low [] (dCons (dOp (dI MulOk fun i j => .int (i * j)) (dOp dIxR (dVar 0) (dC (.int 0))) (dOp dIxR (dVar 1) (dC (.int 1)))) (dCons (dOp (dI MulOk fun i j => .int (i * j)) (dOp dIxR (dVar 0) (dC (.int 1))) (dOp dIxR (dVar 1) (dC (.int 0)))) dNil))))
/-- _law_less: 0 one, 1 other -/
def t_law_less : DTS :=
  (dRet (dOp (dCmpR (fun i j => decide (i < j)) (fun a b => decide (a < b))) (dOp (dI MulOk fun i j => .int (i * j)) (dOp dIxR (dVar 0) (dC (.int 0))) (dOp dIxR (dVar 1) (dC (.int 1)))) (dOp (dI MulOk fun i j => .int (i * j)) (dOp dIxR (dVar 1) (dC (.int 0))) (dOp dIxR (dVar 0) (dC (.int 1))))))
/-- _law_most: 0 one, 1 other -/
def t_law_most (sp_law_less : DSp) : DTS :=
  (dRet (dIfE (dTest (dCall sp_law_less [] (dCons (dVar 0) (dCons (dVar 1) dNil)))) (dVar 1) (dVar 0)))
/-- _law_floor: 0 pair -/
def t_law_floor : DTS :=
  (dRet (dOp (dI CDivW fun i j => .int (i / j)) (dOp dIxR (dVar 0) (dC (.int 0))) (dOp dIxR (dVar 0) (dC (.int 1)))))
/-- a number as the program has it -/
def numD (q : Rat) : D := if q.den = 1 then .int q.num else .tup [.int q.num, .int q.den]
/-- a top and a base -/
def prD (q : Rat) : D := .tup [.int q.num, .int q.den]
/-- below 2 ^ b -/
def Sz (b : Nat) (q : Rat) : Prop := q.num.natAbs < 2 ^ b ∧ q.den < 2 ^ b
theorem numD_int (i : Int) : numD (i : Rat) = .int i := by unfold numD; rw [den_intCast, num_intCast]; rfl
theorem numD_cases (q : Rat) : (∃ i : Int, q = (i : Rat) ∧ numD q = .int i) ∨ (q.den ≠ 1 ∧ numD q = .tup [.int q.num, .int q.den]) := by
  by_cases h : q.den = 1
  · refine .inl ⟨q.num, Rat.ext (by rw [num_intCast]) (by rw [den_intCast]; exact h), ?_⟩
    unfold numD; rw [if_pos h]
  · exact .inr ⟨h, by unfold numD; rw [if_neg h]⟩
/-! sizes -/
theorem Sz.mono {a b : Nat} {q : Rat} (h : Sz a q) (k : a ≤ b) : Sz b q := ⟨Nat.lt_of_lt_of_le h.1 (Nat.pow_le_pow_right (by decide) k), Nat.lt_of_lt_of_le h.2 (Nat.pow_le_pow_right (by decide) k)⟩
theorem Sz.int {b : Nat} {i : Int} (h : i.natAbs < 2 ^ b) (hb : 0 < b) : Sz b (i : Rat) := ⟨by rw [num_intCast]; exact h, by
  rw [den_intCast]
  calc 1 < 2 ^ 1 := by decide
    _ ≤ 2 ^ b := Nat.pow_le_pow_right (by decide) hb⟩
/-- a fraction is no greater than its terms -/
theorem frac_le {t d : Int} (hd0 : d ≠ 0) : (t /. d).num.natAbs ≤ t.natAbs ∧ (t /. d).den ≤ d.natAbs := by
  refine ⟨?_, ?_⟩
  · rw [num_divInt]
    have h1 : (d.sign * t).natAbs ≤ t.natAbs := by
      rw [Int.natAbs_mul]
      rcases Int.lt_trichotomy d 0 with h | h | h
      · rw [Int.sign_eq_neg_one_of_neg h]; simp
      · exact absurd h hd0
      · rw [Int.sign_eq_one_of_pos h]; simp
    refine Nat.le_trans ?_ h1
    exact Int.natAbs_ediv_le_natAbs (d.sign * t) ((d.gcd t : Nat) : Int)
  · rw [den_divInt, if_neg hd0]
    exact Nat.div_le_self _ _
theorem Sz.frac {b : Nat} {t d : Int} (ht : t.natAbs < 2 ^ b) (hd : d.natAbs < 2 ^ b) (hd0 : d ≠ 0) : Sz b (t /. d) :=
  ⟨Nat.lt_of_le_of_lt (frac_le hd0).1 ht, Nat.lt_of_le_of_lt (frac_le hd0).2 hd⟩
theorem prD_int (i : Int) : prD (i : Rat) = .tup [.int i, .int 1] := by unfold prD; rw [num_intCast, den_intCast]; rfl
theorem pow2_add (a b : Nat) : 2 ^ (a + b) = 2 ^ a * 2 ^ b := Nat.pow_add 2 a b
theorem mul_lt {a b x y : Nat} (h1 : x < 2 ^ a) (h2 : y < 2 ^ b) : x * y < 2 ^ (a + b) := by
  rw [pow2_add]
  exact Nat.lt_of_le_of_lt (Nat.mul_le_mul (Nat.le_of_lt h1) (Nat.le_refl y)) (Nat.mul_lt_mul_of_pos_left h2 (Nat.two_pow_pos a))
theorem add_frac (x y : Rat) : x + y = (x.num * y.den + y.num * x.den) /. (x.den * y.den) := by
  have := divInt_add_divInt x.num y.num (d₁ := x.den) (d₂ := y.den) (by have := x.den_nz; omega) (by have := y.den_nz; omega)
  rw [num_divInt_den, num_divInt_den] at this
  exact this
theorem sub_frac (x y : Rat) : x - y = (x.num * y.den - y.num * x.den) /. (x.den * y.den) := by
  have := divInt_sub_divInt x.num y.num (d₁ := x.den) (d₂ := y.den) (by have := x.den_nz; omega) (by have := y.den_nz; omega)
  rw [num_divInt_den, num_divInt_den] at this
  exact this
theorem mul_frac (x y : Rat) : x * y = (x.num * y.num) /. (x.den * y.den) := by
  have := divInt_mul_divInt x.num y.num (d₁ := x.den) (d₂ := y.den)
  rw [num_divInt_den, num_divInt_den] at this
  exact this
theorem div_frac (x y : Rat) : x / y = (x.num * y.den) /. (x.den * y.num) := by
  have e : y⁻¹ = y.den /. y.num := by
    have := inv_divInt y.num y.den
    rw [num_divInt_den] at this
    exact this
  rw [div_def, e]
  have := divInt_mul_divInt x.num (y.den : Int) (d₁ := x.den) (d₂ := y.num)
  rw [num_divInt_den] at this
  exact this
theorem den_ne (x : Rat) : (x.den : Int) ≠ 0 := by have := x.den_nz; omega
theorem den_mul_ne (x y : Rat) : (x.den : Int) * y.den ≠ 0 := Int.mul_ne_zero (den_ne x) (den_ne y)
theorem natAbs_add_lt {a : Nat} {i j : Int} (h1 : i.natAbs < 2 ^ a) (h2 : j.natAbs < 2 ^ a) : (i + j).natAbs < 2 ^ (a + 1) := by
  have := Int.natAbs_add_le i j
  rw [Nat.pow_succ]; omega
theorem natAbs_sub_lt {a : Nat} {i j : Int} (h1 : i.natAbs < 2 ^ a) (h2 : j.natAbs < 2 ^ a) : (i - j).natAbs < 2 ^ (a + 1) := by
  have := Int.natAbs_sub_le i j
  rw [Nat.pow_succ]; omega
theorem Sz.nd {a b : Nat} {x y : Rat} (hx : Sz a x) (hy : Sz b y) : (x.num * (y.den : Int)).natAbs < 2 ^ (a + b) := by
  rw [Int.natAbs_mul]; exact mul_lt hx.1 (by simpa using hy.2)
theorem Sz.dd {a b : Nat} {x y : Rat} (hx : Sz a x) (hy : Sz b y) : ((x.den : Int) * (y.den : Int)).natAbs < 2 ^ (a + b) := by
  rw [Int.natAbs_mul]; exact mul_lt (by simpa using hx.2) (by simpa using hy.2)
theorem Sz.nn {a b : Nat} {x y : Rat} (hx : Sz a x) (hy : Sz b y) : (x.num * y.num).natAbs < 2 ^ (a + b) := by
  rw [Int.natAbs_mul]; exact mul_lt hx.1 hy.1
theorem Sz.dn {a b : Nat} {x y : Rat} (hx : Sz a x) (hy : Sz b y) : ((x.den : Int) * y.num).natAbs < 2 ^ (a + b) := by
  rw [Int.natAbs_mul]; exact mul_lt (by simpa using hx.2) hy.1
theorem pow_le {a b n : Nat} (h : n < 2 ^ a) (k : a ≤ b) : n < 2 ^ b := Nat.lt_of_lt_of_le h (Nat.pow_le_pow_right (by decide) k)
theorem Sz.add {a b : Nat} {x y : Rat} (hx : Sz a x) (hy : Sz b y) : Sz (a + b + 1) (x + y) := by
  rw [add_frac]
  exact .frac (natAbs_add_lt (hx.nd hy) (by rw [Nat.add_comm a b]; exact hy.nd hx)) (pow_le (hx.dd hy) (by omega)) (den_mul_ne x y)
theorem Sz.sub {a b : Nat} {x y : Rat} (hx : Sz a x) (hy : Sz b y) : Sz (a + b + 1) (x - y) := by
  rw [sub_frac]
  exact .frac (natAbs_sub_lt (hx.nd hy) (by rw [Nat.add_comm a b]; exact hy.nd hx)) (pow_le (hx.dd hy) (by omega)) (den_mul_ne x y)
theorem Sz.mul {a b : Nat} {x y : Rat} (hx : Sz a x) (hy : Sz b y) : Sz (a + b) (x * y) := by
  rw [mul_frac]
  exact .frac (hx.nn hy) (hx.dd hy) (den_mul_ne x y)
theorem num_ne {y : Rat} (h : y ≠ 0) : y.num ≠ 0 := fun e => h (Rat.num_eq_zero.mp e)
theorem Sz.div {a b : Nat} {x y : Rat} (hx : Sz a x) (hy : Sz b y) (h0 : y ≠ 0) : Sz (a + b) (x / y) := by
  rw [div_frac]
  exact .frac (hx.nd hy) (hx.dn hy) (Int.mul_ne_zero (den_ne x) (num_ne h0))
theorem Sz.neg {a : Nat} {x : Rat} (hx : Sz a x) : Sz a (-x) := ⟨by rw [Rat.neg_num]; simpa using hx.1, by rw [Rat.neg_den]; exact hx.2⟩
theorem Sz.floor {a : Nat} {x : Rat} (hx : Sz a x) : x.floor.natAbs ≤ 2 ^ a := by
  rw [floor_def]
  have h1 := Int.natAbs_ediv_le_natAbs x.num x.den
  have := hx.1
  omega
/-! conditions -/
theorem mul_ok {a b : Nat} {i j : Int} (h1 : i.natAbs < 2 ^ a) (h2 : j.natAbs < 2 ^ b) (ha : 0 < a) (hb : 0 < b) (h : a + b ≤ 1000000) : MulOk i j := .inr (wide_mul h1 h2 ha hb h)
theorem div_ok {b : Nat} {j : Int} (h0 : 0 < j) (h1 : j.natAbs < 2 ^ b) (hb : 0 < b) (h : b ≤ 9000) (i : Int) : CDivW i j := wide_div h0 h1 hb h
theorem divN_ok {b : Nat} {j : Int} (h0 : j ≠ 0) (h1 : j.natAbs < 2 ^ b) (hb : 0 < b) (h : b ≤ 9000) : DivOk j := ⟨h0, Nat.lt_of_lt_of_le (PySem.Flt.log2_lt_of hb h1) h⟩
/-! tags: what isinstance sees -/
def plB : D → Bool
  | .int _ => true
  | _ => false
def paB : D → Bool
  | .tup [u, v] => (match u, v with
    | .int t, .int b => decide (1 < b) && decide (t.gcd b = 1)
    | _, _ => false)
  | _ => false
def nuB (d : D) : Bool := plB d || paB d
theorem pl_tag {G : GHp} {d : D} {t : Tg} (h : tgOf G d = some t) : plB d = decide (t = .int) := by
  cases d with
  | ref a =>
    unfold tgOf at h
    split at h <;> first | (simp_all; done) | (cases h; rfl) | skip
    all_goals (split at h <;> first | (cases h; rfl) | (cases h))
  | _ => first | (cases h; rfl) | (cases h)
theorem tag_tup {G : GHp} {a : D} (h : tgOf G a = some .tup) : ∃ ds, a = .tup ds := by
  cases a with
  | tup ds => exact ⟨ds, rfl⟩
  | ref p =>
    have h : (match G p with
      | some (.lst _) => some Tg.lst
      | some (.dK _) => some Tg.dct
      | some (.exo _ _) => some Tg.exc
      | _ => none) = some Tg.tup := h
    split at h <;> cases h
  | _ => cases h
theorem paB_num (q : Rat) (h : q.den ≠ 1) : paB (.tup [.int q.num, .int q.den]) = true := by
  have h1 := q.den_pos
  have h2 := q.reduced
  show (decide ((1 : Int) < q.den) && decide (q.num.gcd q.den = 1)) = true
  rw [decide_eq_true (by omega), decide_eq_true (by simpa [Nat.Coprime, Int.gcd] using h2)]
  rfl
theorem nuB_num (q : Rat) : nuB (numD q) = true := by
  rcases numD_cases q with ⟨i, _, e⟩ | ⟨h, e⟩
  · rw [e]; rfl
  · rw [e]; unfold nuB; rw [paB_num q h]; simp
end NUM
set_option linter.all false
set_option maxRecDepth 100000
set_option maxHeartbeats 1000000
namespace NUM
open PySem PySem.Spec L2 DL
open Rat
/-! DL, part 22: readings of the number defs. -/
def pr_is_plain (a : D) (G : GHp) (Q : DK) : Prop := ∃ t, tgOf G a = some t ∧ Q (.bl (plB a)) G
def sp_is_plain : DSp := sp1 fun a G Q _ => pr_is_plain a G Q
theorem rd_is_plain : ∀ a G Q (E : DXK), pr_is_plain a G Q → DRun t_is_plain [some a] G Q := by
  rintro a G Q E ⟨t, ht, h⟩
  rw [pl_tag ht] at h
  conv => whnf
  rw [ht]
  cases t
  case int =>
    conv => whnf
    refine ⟨fun _ => ?_, fun e => tf e⟩
    conv => whnf
    rw [ht]
    conv => whnf
    exact h
  case bool =>
    conv => whnf
    refine ⟨fun _ => ?_, fun e => tf e⟩
    conv => whnf
    rw [ht]
    conv => whnf
    exact h
  all_goals
    conv => whnf
    refine ⟨fun e => ft e, fun _ => ?_⟩
    conv => whnf
    exact h
def whB : D → Int → Int → Bool
  | .int i, l, h => decide (l ≤ i) && decide (i ≤ h)
  | _, _, _ => false
def pr_is_whole (a b c : D) (G : GHp) (Q : DK) : Prop := ∃ t l h, tgOf G a = some t ∧ b = .int l ∧ c = .int h ∧ Q (.bl (whB a l h)) G
def sp_is_whole : DSp := sp3 fun a b c G Q _ => pr_is_whole a b c G Q
theorem rd_is_whole : ∀ a b c G Q (E : DXK), pr_is_whole a b c G Q → DRun (t_is_whole sp_is_plain) [some a, some b, some c] G Q := by
  rintro a b c G Q E ⟨t, l, u, ht, rfl, rfl, h⟩
  conv => whnf
  refine ⟨t, ht, ?_⟩
  cases a
  case int i =>
    conv => whnf
    refine ⟨fun _ => ?_, fun e => tf e⟩
    conv => whnf
    refine ⟨fun e => ?_, fun e => ?_⟩
    · have e : decide (l ≤ i) = true := e
      conv => whnf
      have e2 : whB (.int i) l u = decide (i ≤ u) := by show (decide (l ≤ i) && decide (i ≤ u)) = _; rw [e]; rfl
      rw [e2] at h
      exact h
    · have e : decide (l ≤ i) = false := e
      have e2 : whB (.int i) l u = false := by show (decide (l ≤ i) && decide (i ≤ u)) = _; rw [e]; rfl
      rw [e2] at h
      exact h
  all_goals
    conv => whnf
    refine ⟨fun e => ft e, fun _ => ?_⟩
    conv => whnf
    exact h
def pr_common (a b : D) (G : GHp) (Q : DK) : Prop := ∃ i j : Int, a = .int i ∧ b = .int j ∧ Q (.int (i.gcd j : Nat)) G
def sp_common_part : DSp := sp2 fun a b G Q _ => pr_common a b G Q
theorem rd_common_part : ∀ a b G Q (E : DXK), pr_common a b G Q → DRun t_common_part [some a, some b] G Q := by
  rintro a b G Q E ⟨i, j, rfl, rfl, h⟩
  conv => whnf
  refine while_ind (fun n δ G' => G' = G ∧ ∃ m : Nat, δ = [some (.int m), some (.int n)] ∧ m.gcd n = i.gcd j) j.natAbs ⟨rfl, i.natAbs, rfl, rfl⟩ ?_
  rintro n δ _ ⟨rfl, m, rfl, hg⟩ N hN
  conv => whnf
  refine ⟨fun e => ?_, fun e => ?_⟩
  · have e : (!decide ((n : Int) = 0)) = true := e
    have hn : n ≠ 0 := fun q => by rw [q] at e; exact ft e
    conv => whnf
    refine ⟨by omega, ?_⟩
    conv => whnf
    have em : ((m : Int) % (n : Int)) = ((m % n : Nat) : Int) := rfl
    refine hN (m % n) _ _ (Nat.mod_lt _ (by omega)) ⟨rfl, n, ?_, ?_⟩
    · rw [← em]; rfl
    · rw [← hg, Nat.gcd_comm m n, Nat.gcd_rec n m, Nat.gcd_comm]
  · have e : (!decide ((n : Int) = 0)) = false := e
    have hn : n = 0 := by
      by_cases q : n = 0
      · exact q
      · rw [decide_eq_false (by omega)] at e; exact tf e
    subst hn
    rw [Nat.gcd_zero_right] at hg
    conv => whnf
    rw [hg]
    exact h
def pr_is_part (a : D) (G : GHp) (Q : DK) : Prop := (∃ t, tgOf G a = some t) ∧ (∀ u v, a = .tup [u, v] → (∃ t, tgOf G u = some t) ∧ ∃ t, tgOf G v = some t) ∧ Q (.bl (paB a)) G
def sp_is_part : DSp := sp1 fun a G Q _ => pr_is_part a G Q
theorem paB_len {ds : List D} (h : ds.length ≠ 2) : paB (.tup ds) = false := by
  match ds, h with
  | [], _ => rfl
  | [_], _ => rfl
  | [_, _], h => exact absurd rfl h
  | _ :: _ :: _ :: _, _ => rfl
theorem rd_is_part : ∀ a G Q (E : DXK), pr_is_part a G Q → DRun (t_is_part sp_is_plain sp_common_part) [some a, none, none] G Q := by
  rintro a G Q E ⟨⟨t, ht⟩, hin, h⟩
  conv => whnf
  rw [ht]
  by_cases et : t = .tup
  · subst et
    obtain ⟨ds, rfl⟩ := tag_tup ht
    conv => whnf
    refine ⟨fun e => ft e, fun _ => ?_⟩
    conv => whnf
    refine ⟨fun e => ?_, fun e => ?_⟩
    · have e : (!decide ((ds.length : Int) = 2)) = true := e
      rw [paB_len (fun q => by rw [q] at e; exact ft e)] at h
      exact h
    · have e : (!decide ((ds.length : Int) = 2)) = false := e
      have hl : ds.length = 2 := by
        by_cases q : ds.length = 2
        · exact q
        · rw [decide_eq_false (by omega)] at e; exact tf e
      match ds, hl with
      | [u, v], _ =>
        obtain ⟨⟨t1, h1⟩, t2, h2⟩ := hin u v rfl
        conv => whnf
        refine ⟨t1, h1, ?_⟩
        cases u with
        | int i =>
          conv => whnf
          refine ⟨fun _ => ?_, fun e => tf e⟩
          conv => whnf
          refine ⟨t2, h2, ?_⟩
          cases v with
          | int j =>
            conv => whnf
            refine ⟨fun _ => ?_, fun e => tf e⟩
            conv => whnf
            refine ⟨fun e => ?_, fun e => ?_⟩
            · have e : decide ((1 : Int) < j) = true := e
              conv => whnf
              refine ⟨i, j, rfl, rfl, ?_⟩
              conv => whnf
              have e2 : paB (.tup [.int i, .int j]) = decide (((i.gcd j : Nat) : Int) = 1) := by
                show (decide ((1 : Int) < j) && decide (i.gcd j = 1)) = _
                rw [e, Bool.true_and]
                congr 1
                exact propext ⟨fun q => by omega, fun q => by omega⟩
              rw [e2] at h
              exact h
            · have e : decide ((1 : Int) < j) = false := e
              have e2 : paB (.tup [.int i, .int j]) = false := by
                show (decide ((1 : Int) < j) && decide (i.gcd j = 1)) = _
                rw [e]; rfl
              rw [e2] at h
              show Q (.bl (decide ((1 : Int) < j))) G
              rw [e]
              exact h
          | _ =>
            conv => whnf
            refine ⟨fun e => ft e, fun _ => ?_⟩
            conv => whnf
            exact h
        | _ =>
          conv => whnf
          refine ⟨fun e => ft e, fun _ => ?_⟩
          conv => whnf
          exact h
  · have e1 : isA t .tup = false := by cases t <;> first | rfl | exact absurd rfl et
    have e2 : paB a = false := by
      cases a with
      | tup ds => cases ht; exact absurd rfl et
      | _ => rfl
    rw [e2] at h
    conv => whnf
    refine ⟨fun _ => ?_, fun e => ?_⟩
    · conv => whnf
      refine ⟨fun _ => ?_, fun e => tf e⟩
      conv => whnf
      exact h
    · rw [e1] at e; exact tf e
/-- isinstance can tell of it and of what stands in it -/
def Tgd (G : GHp) (a : D) : Prop := (∃ t, tgOf G a = some t) ∧ ∀ u v, a = .tup [u, v] → (∃ t, tgOf G u = some t) ∧ ∃ t, tgOf G v = some t
theorem Tgd.num {G : GHp} (q : Rat) : Tgd G (numD q) := by
  rcases numD_cases q with ⟨i, _, e⟩ | ⟨_, e⟩
  · rw [e]; exact ⟨⟨_, rfl⟩, fun u v h => by cases h⟩
  · rw [e]; exact ⟨⟨_, rfl⟩, fun u v h => by cases h; exact ⟨⟨_, rfl⟩, _, rfl⟩⟩
def pr_is_number (a : D) (G : GHp) (Q : DK) : Prop := Tgd G a ∧ Q (.bl (nuB a)) G
def sp_is_number : DSp := sp1 fun a G Q _ => pr_is_number a G Q
theorem rd_is_number : ∀ a G Q (E : DXK), pr_is_number a G Q → DRun (t_is_number sp_is_plain sp_is_part) [some a] G Q := by
  rintro a G Q E ⟨⟨⟨t, ht⟩, hin⟩, h⟩
  conv => whnf
  refine ⟨t, ht, ?_⟩
  cases e : plB a with
  | true =>
    have e2 : nuB a = true := by unfold nuB; rw [e]; rfl
    rw [e2] at h
    conv => whnf
    refine ⟨fun _ => ?_, fun e => tf e⟩
    conv => whnf
    exact h
  | false =>
    have e2 : nuB a = paB a := by unfold nuB; rw [e]; rfl
    rw [e2] at h
    conv => whnf
    refine ⟨fun e => ft e, fun _ => ?_⟩
    conv => whnf
    exact ⟨⟨t, ht⟩, hin, h⟩
def pr_reckoned (a b : D) (G : GHp) (Q : DK) : Prop := ∃ t d : Int, a = .int t ∧ b = .int d ∧ d ≠ 0 ∧ d.natAbs < 2 ^ 8990 ∧ Q (numD (t /. d)) G
def sp_reckoned : DSp := sp2 fun a b G Q _ => pr_reckoned a b G Q
theorem gcd_lt {t d : Int} {n : Nat} (h0 : d ≠ 0) (h : d.natAbs < n) : t.gcd d < n := by
  have h1 : t.gcd d ∣ d.natAbs := Nat.gcd_dvd_right _ _
  have := Nat.le_of_dvd (by omega) h1
  omega
theorem frac_pos {t d : Int} (h : 0 < d) : (t /. d).num = t / (t.gcd d : Nat) ∧ ((t /. d).den : Int) = d / (t.gcd d : Nat) := by
  refine ⟨?_, ?_⟩
  · rw [num_divInt, Int.sign_eq_one_of_pos h, Int.one_mul, Int.gcd_comm]
  · rw [den_divInt, if_neg (by omega), Int.gcd_comm, Int.natCast_ediv]
    congr 1
    omega
theorem frac_neg {t d : Int} (h : d < 0) : (t /. d).num = (-t) / (t.gcd d : Nat) ∧ ((t /. d).den : Int) = (-d) / (t.gcd d : Nat) := by
  refine ⟨?_, ?_⟩
  · rw [num_divInt, Int.sign_eq_neg_one_of_neg h, Int.gcd_comm]
    congr 1
    omega
  · rw [den_divInt, if_neg (by omega), Int.gcd_comm, Int.natCast_ediv]
    congr 1
    omega
theorem rd_reckoned : ∀ a b G Q (E : DXK), pr_reckoned a b G Q → DRun (t_reckoned sp_common_part) [some a, some b, none] G Q := by
  rintro a b G Q E ⟨t, d, rfl, rfl, hd, hs, h⟩
  have hg : 0 < t.gcd d := Int.gcd_pos_of_ne_zero_right _ hd
  have hgs : ((t.gcd d : Nat) : Int).natAbs < 2 ^ 8990 := by simpa using gcd_lt hd hs
  have hgn : (0 - ((t.gcd d : Nat) : Int)).natAbs < 2 ^ 8990 := by have := gcd_lt hd hs (t := t); omega
  conv => whnf
  refine ⟨t, d, rfl, rfl, ?_⟩
  have fin : ∀ n m : Int, n = (t /. d).num → m = ((t /. d).den : Int) → Q (if decide (m = 1) = true then .int n else .tup [.int n, .int m]) G := by
    rintro n m rfl rfl
    unfold numD at h
    by_cases e : (t /. d).den = 1
    · rw [if_pos e] at h
      rw [if_pos (decide_eq_true (by omega))]
      exact h
    · rw [if_neg e] at h
      rw [if_neg (by rw [decide_eq_false (by omega)]; simp)]
      exact h
  have tail : ∀ n m : Int, n = (t /. d).num → m = ((t /. d).den : Int) → dRet (dIfE (dTestB (dOp dEqQ (dVar 1) (dC (.int 1)))) (dVar 0) (dTup (dCons (dVar 0) (dCons (dVar 1) dNil)))) { nx := fun _ G' => Q .non G', rt := Q } [some (.int n), some (.int m), none] G := by
    intro n m hn hm
    have f := fin n m hn hm
    conv => whnf
    refine ⟨fun e => ?_, fun e => ?_⟩
    · have e : decide (m = 1) = true := e
      rw [if_pos e] at f
      exact f
    · have e : decide (m = 1) = false := e
      rw [if_neg (by rw [e]; simp)] at f
      exact ⟨smallL (by simp), f⟩
  conv => whnf
  refine ⟨fun e => ?_, fun e => ?_⟩
  · have e : d < 0 := of_decide_eq_true e
    obtain ⟨f1, f2⟩ := frac_neg (t := t) e
    conv => whnf
    refine ⟨divN_ok (by omega) hgn (by decide) (by decide), ?_⟩
    conv => whnf
    refine ⟨divN_ok (by omega) hgn (by decide) (by decide), ?_⟩
    refine tail _ _ ?_ ?_
    · rw [f1, show t = -(-t) by omega, Int.zero_sub, Int.neg_fdiv_neg, Int.fdiv_eq_ediv_of_nonneg _ (by omega)]
      simp
    · rw [f2, show d.fdiv (0 - ((t.gcd d : Nat) : Int)) = (-(-d)).fdiv (-((t.gcd d : Nat) : Int)) by rw [Int.neg_neg, Int.zero_sub], Int.neg_fdiv_neg, Int.fdiv_eq_ediv_of_nonneg _ (by omega)]
  · have e : ¬ d < 0 := of_decide_eq_false e
    obtain ⟨f1, f2⟩ := frac_pos (t := t) (show 0 < d by omega)
    conv => whnf
    refine ⟨divN_ok (by omega) hgs (by decide) (by decide), ?_⟩
    conv => whnf
    refine ⟨divN_ok (by omega) hgs (by decide) (by decide), ?_⟩
    refine tail _ _ ?_ ?_
    · rw [f1, Int.fdiv_eq_ediv_of_nonneg _ (by omega)]
    · rw [f2, Int.fdiv_eq_ediv_of_nonneg _ (by omega)]
def pr_pair_of (a : D) (G : GHp) (Q : DK) : Prop := ∃ q, a = numD q ∧ Q (prD q) G
def sp_pair_of : DSp := sp1 fun a G Q _ => pr_pair_of a G Q
theorem rd_pair_of : ∀ a G Q (E : DXK), pr_pair_of a G Q → DRun (t_pair_of sp_is_plain sp_is_part) [some a] G Q := by
  rintro a G Q E ⟨q, rfl, h⟩
  rcases numD_cases q with ⟨i, eq, e⟩ | ⟨hd, e⟩
  · rw [e]
    conv => whnf
    refine ⟨.int, rfl, ?_⟩
    conv => whnf
    refine ⟨fun _ => ?_, fun e => tf e⟩
    conv => whnf
    refine ⟨smallL (by simp), ?_⟩
    subst eq
    have : prD (i : Rat) = .tup [.int i, .int 1] := by unfold prD; rw [num_intCast, den_intCast]; rfl
    rw [this] at h
    exact h
  · rw [e]
    conv => whnf
    refine ⟨.tup, rfl, ?_⟩
    conv => whnf
    refine ⟨fun e => ft e, fun _ => ?_⟩
    conv => whnf
    refine ⟨⟨.tup, rfl⟩, fun u v h => ?_, ?_⟩
    · cases h
      exact ⟨⟨.int, rfl⟩, .int, rfl⟩
    rw [paB_num q hd]
    conv => whnf
    refine ⟨fun e => ft e, fun _ => ?_⟩
    conv => whnf
    exact h
/-! two numbers -/
def pr_two (C : Rat → Rat → Prop) (f : Rat → Rat → D) (a b : D) (G : GHp) (Q : DK) : Prop := ∃ x y : Rat, a = numD x ∧ b = numD y ∧ Sz 4000 x ∧ Sz 4000 y ∧ C x y ∧ Q (f x y) G
abbrev sp_two (C : Rat → Rat → Prop) (f : Rat → Rat → D) : DSp := sp2 fun a b G Q _ => pr_two C f a b G Q
abbrev sp_plus : DSp := sp_two (fun _ _ => True) fun x y => numD (x + y)
abbrev sp_minus : DSp := sp_two (fun _ _ => True) fun x y => numD (x - y)
abbrev sp_times : DSp := sp_two (fun _ _ => True) fun x y => numD (x * y)
abbrev sp_over : DSp := sp_two (fun _ y => y ≠ 0) fun x y => numD (x / y)
abbrev sp_less : DSp := sp_two (fun _ _ => True) fun x y => .bl (decide (x < y))
theorem mulND {x y : Rat} (hx : Sz 4000 x) (hy : Sz 4000 y) : MulOk x.num y.den := mul_ok (a := 4000) (b := 4000) hx.1 (by simpa using hy.2) (by decide) (by decide) (by decide)
theorem mulDD {x y : Rat} (hx : Sz 4000 x) (hy : Sz 4000 y) : MulOk x.den y.den := mul_ok (a := 4000) (b := 4000) (by simpa using hx.2) (by simpa using hy.2) (by decide) (by decide) (by decide)
theorem mulNN {x y : Rat} (hx : Sz 4000 x) (hy : Sz 4000 y) : MulOk x.num y.num := mul_ok (a := 4000) (b := 4000) hx.1 hy.1 (by decide) (by decide) (by decide)
theorem mulDN {x y : Rat} (hx : Sz 4000 x) (hy : Sz 4000 y) : MulOk x.den y.num := mul_ok (a := 4000) (b := 4000) (by simpa using hx.2) hy.1 (by decide) (by decide) (by decide)
theorem dd_lt {x y : Rat} (hx : Sz 4000 x) (hy : Sz 4000 y) : ((x.den : Int) * (y.den : Int)).natAbs < 2 ^ 8990 := pow_le (hx.dd hy) (by decide)
theorem dn_lt {x y : Rat} (hx : Sz 4000 x) (hy : Sz 4000 y) : ((x.den : Int) * y.num).natAbs < 2 ^ 8990 := pow_le (hx.dn hy) (by decide)
theorem rd_plus : ∀ a b G Q (E : DXK), pr_two (fun _ _ => True) (fun x y => numD (x + y)) a b G Q → DRun (t_plus sp_pair_of sp_reckoned) [some a, some b, none, none, none, none] G Q := by
  rintro a b G Q E ⟨x, y, rfl, rfl, hx, hy, _, h⟩
  conv => whnf
  refine ⟨x, rfl, ?_⟩
  conv => whnf
  refine ⟨y, rfl, ?_⟩
  conv => whnf
  refine ⟨smallL (by simp), ?_⟩
  conv => whnf
  refine ⟨mulND hx hy, ?_⟩
  conv => whnf
  refine ⟨mulND hy hx, ?_⟩
  conv => whnf
  refine ⟨mulDD hx hy, ?_⟩
  conv => whnf
  refine ⟨_, _, rfl, rfl, den_mul_ne x y, dd_lt hx hy, ?_⟩
  replace h : Q (numD (x + y)) G := h
  rw [add_frac] at h
  exact h
theorem rd_minus : ∀ a b G Q (E : DXK), pr_two (fun _ _ => True) (fun x y => numD (x - y)) a b G Q → DRun (t_minus sp_pair_of sp_reckoned) [some a, some b, none, none, none, none] G Q := by
  rintro a b G Q E ⟨x, y, rfl, rfl, hx, hy, _, h⟩
  conv => whnf
  refine ⟨x, rfl, ?_⟩
  conv => whnf
  refine ⟨y, rfl, ?_⟩
  conv => whnf
  refine ⟨smallL (by simp), ?_⟩
  conv => whnf
  refine ⟨mulND hx hy, ?_⟩
  conv => whnf
  refine ⟨mulND hy hx, ?_⟩
  conv => whnf
  refine ⟨mulDD hx hy, ?_⟩
  conv => whnf
  refine ⟨_, _, rfl, rfl, den_mul_ne x y, dd_lt hx hy, ?_⟩
  replace h : Q (numD (x - y)) G := h
  rw [sub_frac] at h
  exact h
theorem rd_times : ∀ a b G Q (E : DXK), pr_two (fun _ _ => True) (fun x y => numD (x * y)) a b G Q → DRun (t_times sp_pair_of sp_reckoned) [some a, some b, none, none, none, none] G Q := by
  rintro a b G Q E ⟨x, y, rfl, rfl, hx, hy, _, h⟩
  conv => whnf
  refine ⟨x, rfl, ?_⟩
  conv => whnf
  refine ⟨y, rfl, ?_⟩
  conv => whnf
  refine ⟨smallL (by simp), ?_⟩
  conv => whnf
  refine ⟨mulNN hx hy, ?_⟩
  conv => whnf
  refine ⟨mulDD hx hy, ?_⟩
  conv => whnf
  refine ⟨_, _, rfl, rfl, den_mul_ne x y, dd_lt hx hy, ?_⟩
  replace h : Q (numD (x * y)) G := h
  rw [mul_frac] at h
  exact h
theorem rd_over : ∀ a b G Q (E : DXK), pr_two (fun _ y => y ≠ 0) (fun x y => numD (x / y)) a b G Q → DRun (t_over sp_pair_of sp_reckoned) [some a, some b, none, none, none, none] G Q := by
  rintro a b G Q E ⟨x, y, rfl, rfl, hx, hy, h0, h⟩
  conv => whnf
  refine ⟨x, rfl, ?_⟩
  conv => whnf
  refine ⟨y, rfl, ?_⟩
  conv => whnf
  refine ⟨smallL (by simp), ?_⟩
  conv => whnf
  refine ⟨fun e => absurd (of_decide_eq_true e) (num_ne h0), fun _ => ?_⟩
  conv => whnf
  refine ⟨mulND hx hy, ?_⟩
  conv => whnf
  refine ⟨mulDN hx hy, ?_⟩
  conv => whnf
  refine ⟨_, _, rfl, rfl, Int.mul_ne_zero (den_ne x) (num_ne h0), dn_lt hx hy, ?_⟩
  replace h : Q (numD (x / y)) G := h
  rw [div_frac] at h
  exact h
theorem rd_less : ∀ a b G Q (E : DXK), pr_two (fun _ _ => True) (fun x y => .bl (decide (x < y))) a b G Q → DRun (t_less sp_pair_of) [some a, some b, none, none, none, none] G Q := by
  rintro a b G Q E ⟨x, y, rfl, rfl, hx, hy, _, h⟩
  conv => whnf
  refine ⟨x, rfl, ?_⟩
  conv => whnf
  refine ⟨y, rfl, ?_⟩
  conv => whnf
  refine ⟨smallL (by simp), ?_⟩
  conv => whnf
  refine ⟨mulND hx hy, ?_⟩
  conv => whnf
  refine ⟨mulND hy hx, ?_⟩
  have e : decide (x < y) = decide (x.num * y.den < y.num * x.den) := by
    congr 1
    exact propext (Rat.lt_iff x y)
  replace h : Q (.bl (decide (x < y))) G := h
  rw [e] at h
  conv => whnf
  exact h
/-- the floor of a fraction -/
theorem floor_frac {t d : Int} (h : 0 < d) : (t /. d).floor = t / d := by
  rw [floor_def]
  obtain ⟨f1, f2⟩ := frac_pos (t := t) h
  rw [f1, f2]
  have hg : (0 : Int) < (t.gcd d : Nat) := by have := Int.gcd_pos_of_ne_zero_right t (show d ≠ 0 by omega); omega
  have e1 : t = (t.gcd d : Nat) * (t / (t.gcd d : Nat)) := (Int.mul_ediv_cancel' (Int.gcd_dvd_left ..)).symm
  have e2 : d = (t.gcd d : Nat) * (d / (t.gcd d : Nat)) := (Int.mul_ediv_cancel' (Int.gcd_dvd_right ..)).symm
  have e3 : (t.gcd d : Nat) * (t / (t.gcd d : Nat)) / ((t.gcd d : Nat) * (d / (t.gcd d : Nat))) = (t / (t.gcd d : Nat)) / (d / (t.gcd d : Nat)) := Int.mul_ediv_mul_of_pos _ _ hg
  rw [← e1, ← e2] at e3
  exact e3.symm
def pr_floor_of (a b : D) (G : GHp) (Q : DK) : Prop := ∃ x s : Rat, a = numD x ∧ b = numD s ∧ Sz 1900 x ∧ Sz 1900 s ∧ 0 < s ∧ Q (numD (s * ((x / s).floor : Rat))) G
def sp_floor_of : DSp := sp2 fun a b G Q _ => pr_floor_of a b G Q
theorem num_pos {s : Rat} (h : 0 < s) : 0 < s.num := by
  have := (Rat.lt_iff 0 s).mp h
  simpa using this
theorem rd_floor_of : ∀ a b G Q (E : DXK), pr_floor_of a b G Q → DRun (t_floor_of sp_pair_of sp_times) [some a, some b, none, none, none, none] G Q := by
  rintro a b G Q E ⟨x, s, rfl, rfl, hx, hs, h0, h⟩
  have hn := num_pos h0
  have hd : 0 < (x.den : Int) * s.num := Int.mul_pos (by have := x.den_pos; omega) hn
  conv => whnf
  refine ⟨x, rfl, ?_⟩
  conv => whnf
  refine ⟨s, rfl, ?_⟩
  conv => whnf
  refine ⟨smallL (by simp), ?_⟩
  conv => whnf
  refine ⟨fun e => ?_, fun _ => ?_⟩
  · exfalso
    have e : s.num ≤ 0 := of_decide_eq_true e
    omega
  conv => whnf
  refine ⟨mulND (hx.mono (by decide)) (hs.mono (by decide)), ?_⟩
  conv => whnf
  refine ⟨mulDN (hx.mono (by decide)) (hs.mono (by decide)), ?_⟩
  conv => whnf
  refine ⟨div_ok (b := 3800) hd (hx.dn hs) (by decide) (by decide) _, ?_⟩
  conv => whnf
  have ef : (x / s).floor = x.num * (s.den : Int) / ((x.den : Int) * s.num) := by rw [div_frac, floor_frac hd]
  rw [ef] at h
  refine ⟨s, _, rfl, (numD_int _).symm, hs.mono (by decide), .int ?_ (by decide), trivial, h⟩
  have h1 := Int.natAbs_ediv_le_natAbs (x.num * (s.den : Int)) ((x.den : Int) * s.num)
  have h2 := hx.nd hs
  exact pow_le (Nat.lt_of_le_of_lt h1 h2) (by decide)
theorem floor_one (x : Rat) : numD ((1 : Rat) * ((x / 1).floor : Rat)) = .int x.floor := by
  have : x / 1 = x := by grind
  rw [this, Rat.one_mul, numD_int]
/-! the laws' own reckoning: pairs -/
def pr_law_low (a b : D) (G : GHp) (Q : DK) : Prop := ∃ t d : Int, a = .int t ∧ b = .int d ∧ d ≠ 0 ∧ t.natAbs < 2 ^ 8990 ∧ d.natAbs < 2 ^ 8990 ∧ Q (prD (t /. d)) G
def sp_law_low : DSp := sp2 fun a b G Q _ => pr_law_low a b G Q
theorem rd_law_low : ∀ a b G Q (E : DXK), pr_law_low a b G Q → DRun t_law_low [some a, some b, none, none, none] G Q := by
  rintro a b G Q E ⟨t, d, rfl, rfl, hd, ht, hs, h⟩
  have hg : 0 < t.gcd d := Int.gcd_pos_of_ne_zero_right _ hd
  have hgs : ((t.gcd d : Nat) : Int).natAbs < 2 ^ 8990 := by simpa using gcd_lt hd hs
  conv => whnf
  refine while_ind (fun n δ G' => G' = G ∧ ∃ m : Nat, δ = [some (.int t), some (.int d), some (.int m), some (.int n), none] ∧ m.gcd n = t.gcd d) d.natAbs ⟨rfl, t.natAbs, rfl, rfl⟩ ?_
  rintro n δ _ ⟨rfl, m, rfl, hgc⟩ N hN
  conv => whnf
  refine ⟨fun e => ?_, fun e => ?_⟩
  · have e : (0 : Int) < n := of_decide_eq_true e
    conv => whnf
    refine ⟨by omega, ?_⟩
    conv => whnf
    have em : ((m : Int) % (n : Int)) = ((m % n : Nat) : Int) := rfl
    refine hN (m % n) _ _ (Nat.mod_lt _ (by omega)) ⟨rfl, n, ?_, ?_⟩
    · rw [← em]; rfl
    · rw [← hgc, Nat.gcd_comm m n, Nat.gcd_rec n m, Nat.gcd_comm]
  · have e : ¬ (0 : Int) < n := of_decide_eq_false e
    have hn : n = 0 := by omega
    subst hn
    rw [Nat.gcd_zero_right] at hgc
    subst hgc
    conv => whnf
    refine ⟨fun e => ?_, fun e => ?_⟩
    · have e : 0 < d := of_decide_eq_true e
      obtain ⟨f1, f2⟩ := frac_pos (t := t) e
      conv => whnf
      refine ⟨mul_small (.inl (by omega)), ?_⟩
      conv => whnf
      refine ⟨div_ok (b := 8990) (by omega) hgs (by decide) (by decide) _, ?_⟩
      conv => whnf
      refine ⟨div_ok (b := 8990) (by omega) hgs (by decide) (by decide) _, ?_⟩
      conv => whnf
      refine ⟨smallL (by simp), ?_⟩
      unfold prD at h
      rw [f1, f2] at h
      have e1 : (1 : Int) * t = t := by omega
      have e2 : ((d.natAbs : Nat) : Int) = d := by omega
      show Q (.tup [.int ((1 : Int) * t / ((t.gcd d : Nat) : Int)), .int (((d.natAbs : Nat) : Int) / ((t.gcd d : Nat) : Int))]) _
      rw [e1, e2]
      exact h
    · have e : ¬ 0 < d := of_decide_eq_false e
      obtain ⟨f1, f2⟩ := frac_neg (t := t) (show d < 0 by omega)
      conv => whnf
      refine ⟨mul_small (.inl (by omega)), ?_⟩
      conv => whnf
      refine ⟨div_ok (b := 8990) (by omega) hgs (by decide) (by decide) _, ?_⟩
      conv => whnf
      refine ⟨div_ok (b := 8990) (by omega) hgs (by decide) (by decide) _, ?_⟩
      conv => whnf
      refine ⟨smallL (by simp), ?_⟩
      unfold prD at h
      rw [f1, f2] at h
      have e1 : (-1 : Int) * t = -t := by omega
      have e2 : ((d.natAbs : Nat) : Int) = -d := by omega
      show Q (.tup [.int ((-1 : Int) * t / ((t.gcd d : Nat) : Int)), .int (((d.natAbs : Nat) : Int) / ((t.gcd d : Nat) : Int))]) _
      rw [e1, e2]
      exact h
def pr_pair (C : Rat → Rat → Prop) (f : Rat → Rat → D) (a b : D) (G : GHp) (Q : DK) : Prop := ∃ x y : Rat, a = prD x ∧ b = prD y ∧ Sz 4000 x ∧ Sz 4000 y ∧ C x y ∧ Q (f x y) G
abbrev sp_pair (C : Rat → Rat → Prop) (f : Rat → Rat → D) : DSp := sp2 fun a b G Q _ => pr_pair C f a b G Q
abbrev sp_law_plus : DSp := sp_pair (fun _ _ => True) fun x y => prD (x + y)
abbrev sp_law_minus : DSp := sp_pair (fun _ _ => True) fun x y => prD (x - y)
abbrev sp_law_times : DSp := sp_pair (fun _ _ => True) fun x y => prD (x * y)
abbrev sp_law_over : DSp := sp_pair (fun _ y => y ≠ 0) fun x y => prD (x / y)
abbrev sp_law_less : DSp := sp_pair (fun _ _ => True) fun x y => .bl (decide (x < y))
/-- the greater one -/
def rmax (x y : Rat) : Rat := if x < y then y else x
abbrev sp_law_most : DSp := sp_pair (fun _ _ => True) fun x y => prD (rmax x y)
theorem nn_lt {x y : Rat} (hx : Sz 4000 x) (hy : Sz 4000 y) : (x.num * y.num).natAbs < 2 ^ 8990 := pow_le (hx.nn hy) (by decide)
theorem nd_lt {x y : Rat} (hx : Sz 4000 x) (hy : Sz 4000 y) : (x.num * (y.den : Int)).natAbs < 2 ^ 8990 := pow_le (hx.nd hy) (by decide)
theorem add_lt {x y : Rat} (hx : Sz 4000 x) (hy : Sz 4000 y) : (x.num * (y.den : Int) + y.num * x.den).natAbs < 2 ^ 8990 := pow_le (natAbs_add_lt (hx.nd hy) (hy.nd hx)) (by decide)
theorem sub_lt {x y : Rat} (hx : Sz 4000 x) (hy : Sz 4000 y) : (x.num * (y.den : Int) - y.num * x.den).natAbs < 2 ^ 8990 := pow_le (natAbs_sub_lt (hx.nd hy) (hy.nd hx)) (by decide)
theorem rd_law_plus : ∀ a b G Q (E : DXK), pr_pair (fun _ _ => True) (fun x y => prD (x + y)) a b G Q → DRun (t_law_plus sp_law_low) [some a, some b] G Q := by
  rintro a b G Q E ⟨x, y, rfl, rfl, hx, hy, _, h⟩
  conv => whnf
  refine ⟨mulND hx hy, ?_⟩
  conv => whnf
  refine ⟨mulND hy hx, ?_⟩
  conv => whnf
  refine ⟨mulDD hx hy, ?_⟩
  conv => whnf
  refine ⟨_, _, rfl, rfl, den_mul_ne x y, add_lt hx hy, dd_lt hx hy, ?_⟩
  replace h : Q (prD (x + y)) G := h
  rw [add_frac] at h
  exact h
theorem rd_law_minus : ∀ a b G Q (E : DXK), pr_pair (fun _ _ => True) (fun x y => prD (x - y)) a b G Q → DRun (t_law_minus sp_law_low) [some a, some b] G Q := by
  rintro a b G Q E ⟨x, y, rfl, rfl, hx, hy, _, h⟩
  conv => whnf
  refine ⟨mulND hx hy, ?_⟩
  conv => whnf
  refine ⟨mulND hy hx, ?_⟩
  conv => whnf
  refine ⟨mulDD hx hy, ?_⟩
  conv => whnf
  refine ⟨_, _, rfl, rfl, den_mul_ne x y, sub_lt hx hy, dd_lt hx hy, ?_⟩
  replace h : Q (prD (x - y)) G := h
  rw [sub_frac] at h
  exact h
theorem rd_law_over : ∀ a b G Q (E : DXK), pr_pair (fun _ y => y ≠ 0) (fun x y => prD (x / y)) a b G Q → DRun (t_law_over sp_law_low) [some a, some b] G Q := by
  rintro a b G Q E ⟨x, y, rfl, rfl, hx, hy, h0, h⟩
  conv => whnf
  refine ⟨mulND hx hy, ?_⟩
  conv => whnf
  refine ⟨mulDN hx hy, ?_⟩
  conv => whnf
  refine ⟨_, _, rfl, rfl, Int.mul_ne_zero (den_ne x) (num_ne h0), nd_lt hx hy, dn_lt hx hy, ?_⟩
  replace h : Q (prD (x / y)) G := h
  rw [div_frac] at h
  exact h
theorem lt_dec (x y : Rat) : decide (x.num * (y.den : Int) < y.num * x.den) = decide (x < y) := by
  congr 1
  exact propext (Rat.lt_iff x y).symm
theorem rd_law_less : ∀ a b G Q (E : DXK), pr_pair (fun _ _ => True) (fun x y => .bl (decide (x < y))) a b G Q → DRun t_law_less [some a, some b] G Q := by
  rintro a b G Q E ⟨x, y, rfl, rfl, hx, hy, _, h⟩
  conv => whnf
  refine ⟨mulND hx hy, ?_⟩
  conv => whnf
  refine ⟨mulND hy hx, ?_⟩
  replace h : Q (.bl (decide (x < y))) G := h
  rw [← lt_dec] at h
  conv => whnf
  exact h
theorem rd_law_most : ∀ a b G Q (E : DXK), pr_pair (fun _ _ => True) (fun x y => prD (rmax x y)) a b G Q → DRun (t_law_most sp_law_less) [some a, some b] G Q := by
  rintro a b G Q E ⟨x, y, rfl, rfl, hx, hy, _, h⟩
  conv => whnf
  refine ⟨x, y, rfl, rfl, hx, hy, trivial, ?_⟩
  replace h : Q (prD (rmax x y)) G := h
  unfold rmax at h
  conv => whnf
  refine ⟨fun e => ?_, fun e => ?_⟩
  · rw [if_pos (of_decide_eq_true e)] at h
    exact h
  · rw [if_neg (of_decide_eq_false e)] at h
    exact h
def pr_law_floor (a : D) (G : GHp) (Q : DK) : Prop := ∃ x : Rat, a = prD x ∧ Sz 8000 x ∧ Q (.int x.floor) G
def sp_law_floor : DSp := sp1 fun a G Q _ => pr_law_floor a G Q
theorem rd_law_floor : ∀ a G Q (E : DXK), pr_law_floor a G Q → DRun t_law_floor [some a] G Q := by
  rintro a G Q E ⟨x, rfl, hx, h⟩
  conv => whnf
  refine ⟨div_ok (b := 8000) (by have := x.den_pos; omega) (by simpa using hx.2) (by decide) (by decide) _, ?_⟩
  rw [floor_def] at h
  exact h
def pr_law_num (a : D) (G : GHp) (Q : DK) : Prop := ∃ x : Rat, a = prD x ∧ Q (numD x) G
def sp_law_num : DSp := sp1 fun a G Q _ => pr_law_num a G Q
theorem rd_law_num : ∀ a G Q (E : DXK), pr_law_num a G Q → DRun t_law_num [some a] G Q := by
  rintro a G Q E ⟨x, rfl, h⟩
  unfold numD at h
  conv => whnf
  refine ⟨fun e => ?_, fun e => ?_⟩
  · have e : (x.den : Int) = 1 := of_decide_eq_true e
    rw [if_pos (by omega)] at h
    exact h
  · have e : ¬ (x.den : Int) = 1 := of_decide_eq_false e
    rw [if_neg (by omega)] at h
    exact h
/-! == of numbers, of pairs -/
theorem pr_inj {x y : Rat} (h1 : x.num = y.num) (h2 : x.den = y.den) : x = y := Rat.ext h1 h2
theorem DD_pr {G : GHp} (x : Rat) : DD G (prD x) (.tuple [.int x.num, .int x.den]) := .tup (.cons (.int _) (.cons (.int _) .nil))
theorem Shp.pr (n : Nat) (x : Rat) : Shp (n + 1) (.tuple [.int x.num, .int x.den]) := (Shps.cons (.int _) (.cons (.int _) .nil) : Shps n _).tuple
theorem eqv_pr (x y : Rat) : PyData.eqv (.tuple [.int x.num, .int x.den]) (.tuple [.int y.num, .int y.den]) = decide (x = y) := by
  simp only [PyData.eqv, PyData.eqvAll, Bool.and_true]
  by_cases h : x = y
  · subst h; simp
  · rw [decide_eq_false h]
    by_cases h1 : x.num = y.num
    · have : x.den ≠ y.den := fun e => h (pr_inj h1 e)
      simp [h1]; omega
    · simp [h1]
theorem eq_pr {x y : Rat} {G : GHp} {Q : DK} (h : Q (.bl (decide (x = y))) G) : dEqQ (prD x) (prD y) G Q := by
  refine ⟨_, _, DD_pr x, DD_pr y, (Shp.pr 1 x).ok (by decide), (Shp.pr 1 y).ok (by decide), ?_⟩
  rw [eqv_pr]; exact h
theorem ne_pr {x y : Rat} {G : GHp} {Q : DK} (h : Q (.bl (!decide (x = y))) G) : dNeQ (prD x) (prD y) G Q := by
  refine ⟨_, _, DD_pr x, DD_pr y, (Shp.pr 1 x).ok (by decide), (Shp.pr 1 y).ok (by decide), ?_⟩
  rw [eqv_pr]; exact h
theorem fz_num (n : Nat) (q : Rat) : fz (n + 2) (numD q) = true := by
  rcases numD_cases q with ⟨i, _, e⟩ | ⟨_, e⟩
  · rw [e]; rfl
  · rw [e]
    show (decide ([D.int q.num, D.int q.den].length ≤ 1000) && [D.int q.num, D.int q.den].all (fz (n + 1))) = true
    simp [fz]
end NUM
set_option Elab.async false
set_option linter.all false
set_option maxRecDepth 100000
set_option maxHeartbeats 1000000
/-! DL, part 23: xs.remove(y) and xs.index(y), where what is sought is data of any depth. -/
namespace DL
open PySem PySem.Spec L2 PyProof.Rows
open PySem.AutoSeq1 (wpAny_loadPart')
open PySem.MeetsSeq PySem.MeetsSeq2 PySem.MeetsSeq3 PySem.SeqRoads2

theorem remove_loopAt (l : Addr) (items : Array Value) (n : Nat) (x : Value) (e : Value → Bool) (j : Nat) (hj : j < items.size) (hit : e items[j] = true) (k : Nat) (hs1 : items.size ≤ sizeLine) :
    ∀ i : Nat, j - i = k → i ≤ j → (∀ m (hm : m < items.size), i ≤ m → m < j → e items[m] = false) → Meets (Builtin.«list.remove.loop» ⟨[.ref l, x, rawInt i], []⟩)
      (fun A R s => s.heap.get? l = some { cls := .type "list", dict := none, data := .seq items n, slots := #[] } ∧ (∀ y, y ∈ items → SeqAt.EqAt A.in1 s y x (e y)) ∧ R (.ok (.ret .none)) { s with heap := s.heap.update l (Obj.mapSeq fun xs => xs.eraseIdxIfInBounds j) }) := by
  induction k with
  | zero =>
    intro i hk hij hno prog w A R s h
    obtain ⟨hp, g, d, tk, os⟩ := s; obtain ⟨hl, he, h⟩ := h
    have hij' : i = j := by omega
    subst hij'
    wp_walk using wpAny_loadPart' hl
    have hi : items[((i : Nat) : Int).toNat]? = some items[i] := by simp [hj]
    rw [hi]
    refine wpAny_bind (he _ (Array.getElem_mem hj) prog w _ _ ?_)
    rw [hit]
    have hz' : (items.eraseIdxIfInBounds i).size ≤ sizeLine + 1 := Nat.le_trans (size_erased items _) (Nat.le_succ_of_le hs1)
    wp_walk using (wpAny_updateSeq hl rfl (hz := hs1) (_hz' := hz')), wpAny_loadPart' hl
    simpa using h
  | succ k ih =>
    intro i hk hij hno prog w A R s h
    obtain ⟨hp, g, d, tk, os⟩ := s; obtain ⟨hl, he, h⟩ := h
    have hlt : i < items.size := by omega
    wp_walk using wpAny_loadPart' hl
    have hi : items[((i : Nat) : Int).toNat]? = some items[i] := by simp [hlt]
    have hc : ((i : Int) + 1) = ((i + 1 : Nat) : Int) := by push_cast; rfl
    rw [hi]
    refine wpAny_bind (he _ (Array.getElem_mem hlt) prog w _ _ ?_)
    rw [hno i hlt (Nat.le_refl _) (by omega)]
    wp_walk
    rw [hc]
    exact ⟨plainId_quiet plain_remove_loop _, codeAny_builtin entry_remove_loop (by
      rw [Around.under_plainId plain_remove_loop _]
      exact ih (i + 1) (by omega) (by omega) (fun m hm h1 h2 => hno m hm (by omega) h2) prog w A R _ ⟨hl, he, h⟩)⟩

theorem list_removeAt (l : Addr) (items : Array Value) (n : Nat) (x : Value) (e : Value → Bool) (j : Nat) (hj : j < items.size)
    (hit : e items[j] = true) (hno : ∀ m (hm : m < items.size), m < j → e items[m] = false) (hs1 : items.size ≤ sizeLine) :
    Meets (Builtin.«list.remove» ⟨[.ref l, x], []⟩)
      (fun A R s => s.heap.get? l = some { cls := .type "list", dict := none, data := .seq items n, slots := #[] } ∧ (∀ y, y ∈ items → SeqAt.EqAt A.in1 s y x (e y)) ∧ R (.ok (.ret .none)) { s with heap := s.heap.update l (Obj.mapSeq fun xs => xs.eraseIdxIfInBounds j) }) := by
  intro prog w A R s h
  obtain ⟨hp, g, d, tk, os⟩ := s; obtain ⟨hl, he, h⟩ := h
  wp_walk using wpAny_loadPart' hl
  exact ⟨plainId_quiet plain_remove_loop _, codeAny_builtin entry_remove_loop (by
    rw [Around.under_plainId plain_remove_loop _]
    exact remove_loopAt l items n x e j hj hit _ hs1 0 rfl (Nat.zero_le _) (fun m hm _ h2 => hno m hm h2) prog w A R _ ⟨hl, he, h⟩)⟩
theorem units65 {k : Nat} {A : Around} (r : Room k A) : A.units + 65 < cLine := by have := r.un; omega
section
variable {X : Cx}
def rRemoveD (K : PySem.W.Frag) : V → List V → Hp → VK → Prop := fun x xs H Q => ∃ (a : Addr) (ys : List V) (y : V) (d : PyData) (ds : List PyData) (j : Nat) (z : PyData), x = V.ref a ∧ xs = [y] ∧ H a = some (.lst ys) ∧ DpAll K H ys ds ∧ Dp K H y d ∧
  SeqAt.shaped (.list ds) = true ∧ SeqAt.shaped d = true ∧ ds[j]? = some z ∧ PyData.eqv z d = true ∧ (∀ (m : Nat) (z' : PyData), m < j → ds[m]? = some z' → PyData.eqv z' d = false) ∧ Q .non (upd H a (.lst (ys.eraseIdx j)))
theorem mt_removeD (hu : X.A.units + 65 < cLine) : MtR X "list.remove" (rRemoveD X.K) := by
  intro pins s σ H x xs v us Q I rx rxs h
  obtain ⟨a, ys, y, d, ds, j, z, rfl, rfl, hH, ha, hy, sl, sd, hz, hzj, hno, q⟩ := h
  cases rx
  cases rxs with
  | cons ry rt =>
    rename_i uy ut
    cases rt
    obtain ⟨bs, r1⟩ := Dp.reads I d y uy hy ry
    have hxs : PyData.canLayAll0 ds = true := SeqAt.canLay_of_shaped sl
    have hroom : X.A.units + 1 + min (PyData.depthAll ds) d.depth < cLine := room_in_shaped sd hu
    obtain ⟨zl, its, n, rv, hl, e0⟩ := I.lstM hH
    obtain ⟨as, h4⟩ := Dp.readsAll I ds _ its ha rv
    have hn : its.length = ds.length := SeqAt.ReadsAll.length ds its as h4
    have hmap : its.map (SeqAt.readOf s.heap) = ds := SeqAt.readsAll_map ds its as hxs h4
    obtain ⟨hjd, _⟩ := List.getElem?_eq_some_iff.mp hz
    have hjl : j < its.length := by omega
    have hj : j < its.toArray.size := by simpa using hjl
    have at_ : ∀ (m : Nat) (hm : m < its.toArray.size) (z' : PyData), ds[m]? = some z' → SeqAt.readOf s.heap its.toArray[m] = z' := by
      intro m hm z' hz'
      have hml : m < its.length := by simpa using hm
      rw [← hmap, List.getElem?_map, List.getElem?_eq_getElem hml] at hz'
      have e1 : SeqAt.readOf s.heap its[m] = z' := Option.some.inj (show some (SeqAt.readOf s.heap its[m]) = some z' from hz')
      simpa using e1
    refine call_meets PySem.F.slot_list_remove ⟨_, e0, rfl⟩ PySem.F.entry_list_remove (PySem.F.args_list_remove_2 _ _)
      (list_removeAt a its.toArray n uy (fun u => PyData.eqv (SeqAt.readOf s.heap u) d) j hj ?_ ?_ (by rw [List.size_toArray, ← hl]; exact zl)) ⟨e0, SeqAt.items_eqAt (vs := its.toArray) (show ReadsAll s.heap its.toArray.toList ds as from h4) r1 hxs (SeqAt.canLay_of_shaped sd) hroom, ?_⟩
    · show PyData.eqv (SeqAt.readOf s.heap its.toArray[j]) d = true
      rw [at_ j hj z hz]
      exact hzj
    · intro m hm hmj
      have hmd : m < ds.length := by omega
      have hz' : ds[m]? = some ds[m] := List.getElem?_eq_getElem hmd
      show PyData.eqv (SeqAt.readOf s.heap its.toArray[m]) d = false
      rw [at_ m hm _ hz']
      exact hno m _ hmj hz'
    · refine ⟨.non, _, I.lset (its' := its.eraseIdx j) hH e0 ?_ (rv.eraseIdx j) ?_, rfl, q⟩
      · show its.toArray.eraseIdxIfInBounds j = (its.eraseIdx j).toArray
        rw [List.eraseIdxIfInBounds_toArray]
      · have := len_erase ys j
        omega
def FstAt (es : List PyData) (d : PyData) (j : Nat) : Prop := ∃ z, es[j]? = some z ∧ PyData.eqv z d = true ∧ ∀ (m : Nat) (z' : PyData), m < j → es[m]? = some z' → PyData.eqv z' d = false
/-- xs.remove(y) where an equal one is there -/
def dRemove : DMt := fun x ds G Q => match ds with
  | [y] => onL x G fun a xs => ∃ (d : PyData) (es : List PyData) (j : Nat), DD G y d ∧ DDs G xs es ∧ SeqAt.shaped (.list es) = true ∧ SeqAt.shaped d = true ∧ FstAt es d j ∧ Q .non (gupd G a (.lst (xs.eraseIdx j)))
  | _ => False
theorem dmt_remove (hu : X.A.units + 65 < cLine) : MtR X "list.remove" (cMt X.K dRemove) :=
  MtR.imp (mt_removeD hu) fun v us H Q ⟨x, ds, G, Z, Q0, ok, r, rs, h, k⟩ => by
    rcases rs with _ | ⟨r1, rs⟩
    · exact False.elim h
    rcases rs with _ | ⟨r2, rs⟩
    · obtain ⟨a, xs, rfl, e, d, es, j, h1, h2, s1, s2, ⟨z, hz, hz1, hz2⟩, h3⟩ := onL_inv h
      cases r
      obtain ⟨hz0, vs, hv, rv⟩ := ok.ok a _ e
      obtain ⟨kk, ok'⟩ := wrote_l ok e (rv.eraseIdx j)
      exact ⟨a, vs, _, d, es, j, z, rfl, rfl, hv, DDs.dp ok h2 rv, DD.dp ok h1 r1, s1, s2, hz, hz1, hz2, k _ _ _ _ h3 kk ok' .non⟩
    · exact False.elim h
/-- xs.index(k) of whole numbers, where it is there -/
def dIndex : DMt := fun x ds G Q => match ds with
  | [.int k] => match lsOf G x with
    | some xs => ∃ (ns : List Int) (j : Nat), xs = ns.map .int ∧ ns[j]? = some k ∧ (∀ m z, m < j → ns[m]? = some z → z ≠ k) ∧ Q (.int j) G
    | none => False
  | _ => False
theorem reps_ints {K : PySem.W.Frag} {W : Hp} : ∀ {ns : List Int} {vs : List V}, Reps K W (ns.map .int) vs → vs = ns.map V.int
  | [], _, .nil => rfl
  | _ :: _, _, .cons r t => by cases r; rw [reps_ints t]; rfl
theorem flat_ints (ns : List Int) : (ns.map V.int).all flatV = true := by
  rw [List.all_eq_true]
  intro x hx
  obtain ⟨i, _, rfl⟩ := List.mem_map.mp hx
  rfl
theorem dmt_index : MtR X "list.index" (cMt X.K dIndex) :=
  MtR.imp mt_index fun v us H Q ⟨x, ds, G, Z, Q0, ok, r, rs, h, k⟩ => by
    rcases rs with _ | ⟨r1, rs⟩
    · exact False.elim h
    rcases rs with _ | ⟨r2, rs⟩
    · cases r1 with
      | int i =>
        unfold dIndex at h
        simp only at h
        split at h
        · next xs e =>
          obtain ⟨ns, j, rfl, hj, hno, h3⟩ := h
          obtain ⟨a, vs, rfl, hv, rv⟩ := lsOf_of ok r e
          have ev := reps_ints rv
          subst ev
          exact ⟨a, _, _, j, .int i, rfl, rfl, SqL.of hv, rfl, flat_ints ns, by rw [List.getElem?_map, hj]; rfl, by show (i == i) = true; simp, fun m z hm hz => by
            rw [List.getElem?_map] at hz
            cases e2 : ns[m]? with
            | none => rw [e2] at hz; cases hz
            | some w =>
              rw [e2] at hz; cases hz
              show (w == i) = false
              simpa using hno m w hm e2, k _ _ _ _ h3 Kp.refl ok (.int _)⟩
        · exact h.elim
      | _ => exact False.elim h
    · cases r1 <;> exact False.elim h
end
end DL
set_option Elab.async false
set_option linter.all false
set_option maxRecDepth 100000
set_option maxHeartbeats 1000000
/-! DL, part 24: dicts with keys of whole numbers and texts: {}, d[k] = v, d[k], for k in d; a dict that nobody changes any more (D.dct). -/
namespace DL
open PySem PySem.Spec L2 PyProof.Rows

def keyD : Key → D
  | .inl i => .int i
  | .inr x => .str x
def keyOf : D → Option Key
  | .int i => some (.inl i)
  | .str x => some (.inr x)
  | _ => none
def valD (kvs : List (Key × D)) (k : Key) : Option D := (kvs.find? fun kv => decide (kv.1 = k)).map (·.2)
def putD (kvs : List (Key × D)) (k : Key) (d : D) : List (Key × D) :=
  if (kvs.any fun kv => decide (kv.1 = k)) = true then kvs.map (fun kv => if kv.1 = k then (kv.1, d) else kv) else kvs ++ [(k, d)]
section
variable {K : PySem.W.Frag} {W : Hp}
abbrev KvR (K : PySem.W.Frag) (W : Hp) : List (Key × D) → List (Key × V) → Prop := Paired fun p q => q.1 = p.1 ∧ Rep K W p.2 q.2
theorem KvR.of : ∀ {kvs : List (Key × D)} {xs : List (Key × V)}, xs.map (·.1) = kvs.map (·.1) → Reps K W (kvs.map (·.2)) (xs.map (·.2)) → KvR K W kvs xs
  | [], [], _, _ => .nil
  | [], _ :: _, h, _ => by cases h
  | _ :: _, [], h, _ => by cases h
  | p :: r, q :: t, h, r1 => by
    simp only [List.map_cons, List.cons.injEq] at h
    rw [List.map_cons, List.map_cons] at r1
    cases r1 with
    | cons a b => exact .cons ⟨h.1, a⟩ (KvR.of h.2 b)
theorem KvR.keys : ∀ {kvs : List (Key × D)} {xs : List (Key × V)}, KvR K W kvs xs → xs.map (·.1) = kvs.map (·.1)
  | _, _, .nil => rfl
  | _, _, .cons h t => by rw [List.map_cons, List.map_cons, h.1, KvR.keys t]
theorem KvR.reps : ∀ {kvs : List (Key × D)} {xs : List (Key × V)}, KvR K W kvs xs → Reps K W (kvs.map (·.2)) (xs.map (·.2))
  | _, _, .nil => .nil
  | _, _, .cons h t => .cons h.2 (KvR.reps t)
theorem KvR.val : ∀ {kvs : List (Key × D)} {xs : List (Key × V)} {k : Key} {d : D}, KvR K W kvs xs → valD kvs k = some d → ∃ v, valV xs k = some v ∧ Rep K W d v
  | _, _, _, _, .nil, e => by cases e
  | p :: kvs, q :: xs, k, d, .cons h t, e => by
    by_cases hk : p.1 = k
    · have e : some p.2 = some d := by rw [← e]; simp [valD, List.find?_cons, hk]
      cases e
      exact ⟨q.2, valV_pos (h.1.trans hk), h.2⟩
    · have e : valD kvs k = some d := by rw [← e]; simp [valD, List.find?_cons, hk]
      obtain ⟨v, h1, h2⟩ := KvR.val t e
      exact ⟨v, by rw [valV_neg (by rw [h.1]; exact hk)]; exact h1, h2⟩
theorem KvR.any {k : Key} : ∀ {kvs : List (Key × D)} {xs : List (Key × V)}, KvR K W kvs xs → (xs.any fun kv => decide (kv.1 = k)) = kvs.any fun kv => decide (kv.1 = k)
  | _, _, .nil => rfl
  | _, _, .cons h t => by rw [List.any_cons, List.any_cons, h.1, KvR.any t]
theorem KvR.map {k : Key} {d : D} {v : V} (r : Rep K W d v) : ∀ {kvs : List (Key × D)} {xs : List (Key × V)}, KvR K W kvs xs → KvR K W (kvs.map fun kv => if kv.1 = k then (kv.1, d) else kv) (xs.map fun kv => if kv.1 = k then (kv.1, v) else kv)
  | _, _, .nil => .nil
  | p :: _, q :: _, .cons h t => by
    refine .cons ?_ (KvR.map r t)
    show (if q.1 = k then (q.1, v) else q).1 = (if p.1 = k then (p.1, d) else p).1 ∧ Rep K W (if p.1 = k then (p.1, d) else p).2 (if q.1 = k then (q.1, v) else q).2
    have hq := h.1
    by_cases hk : p.1 = k
    · rw [if_pos hk, if_pos (hq.trans hk)]; exact ⟨hq, r⟩
    · rw [if_neg hk, if_neg (by rw [hq]; exact hk)]; exact h
theorem KvR.snoc {p : Key × D} {q : Key × V} (h : q.1 = p.1 ∧ Rep K W p.2 q.2) : ∀ {kvs : List (Key × D)} {xs : List (Key × V)}, KvR K W kvs xs → KvR K W (kvs ++ [p]) (xs ++ [q])
  | _, _, .nil => .cons h .nil
  | _, _, .cons g t => .cons g (KvR.snoc h t)
theorem KvR.put {k : Key} {d : D} {v : V} {kvs : List (Key × D)} {xs : List (Key × V)} (h : KvR K W kvs xs) (r : Rep K W d v) : KvR K W (putD kvs k d) (putK xs k v) := by
  unfold putD putK
  rw [h.any]
  split
  · exact KvR.map r h
  · exact KvR.snoc ⟨rfl, r⟩ h
theorem KvR.mono {W' : Hp} (k : ∀ a o, W a = some o → W' a = some o) : ∀ {kvs : List (Key × D)} {xs : List (Key × V)}, KvR K W kvs xs → KvR K W' kvs xs
  | _, _, .nil => .nil
  | _, _, .cons h t => .cons ⟨h.1, h.2.mono k⟩ (KvR.mono k t)
theorem key_of {d : D} {v : V} {k : Key} (r : Rep K W d v) (h : keyOf d = some k) : v = kV k := by
  cases r <;> cases h <;> rfl
end
/-- {} to be changed -/
def dDictM : DTE := fun _ G Q => ∀ p, G p = none → Q (.ref p) (gupd G p (.dK []))
section
variable {X : Cx} {pos pos' tpos : Pos} {o i e : Expr} {to ti te : DTE} {W : WX}
theorem de_dictM : DE X (.Dict [] [] pos) dDictM :=
  PE.mono pe_dnewK fun σ H Q ⟨δ, G, Z, Q0, ok, rs, h, k⟩ => fun p hp => by
    have hg := (ok.free hp).1
    have kk : Kp H G Z (upd H p (.dK [])) (gupd G p (.dK [])) := Kp.laidG hp hg
    exact k _ _ _ _ (h p hg) kk (ok.laidG hp ⟨[], upd_same, rfl, .nil⟩) (.ref p)
/-- d[k] of a dict -/
def dGetR : DR2 := fun x y G Q => match keyOf y with
  | some k => match x with
    | .dct ks ds => match valD (ks.zip ds) k with
      | some d => Q d G
      | none => False
    | .ref a => match G a with
      | some (.dK kvs) => match valD kvs k with
        | some d => Q d G
        | none => False
      | _ => False
    | _ => False
  | none => False
theorem zip_of {ks : List Key} {ds : List D} {xs : List (Key × V)} {K : PySem.W.Frag} {W : Hp} (h1 : xs.map (·.1) = ks) (h2 : Reps K W ds (xs.map (·.2))) : KvR K W (ks.zip ds) xs := by
  subst h1
  induction xs generalizing ds with
  | nil => cases h2; exact .nil
  | cons p r ih =>
    rw [List.map_cons] at h2
    cases h2 with
    | cons a b => exact .cons ⟨rfl, a⟩ (ih b)
theorem de_get (hu : X.A.units + 64 < cLine) (ho : DE X o to) (hi : DE X i ti) (hs : NoSl i) : DE X (.Subscript o i pos) (dOp dGetR to ti) :=
  PE.mono (pe_dget (by omega) ho hi hs) fun σ H Q ⟨δ, G, Z, Q0, ok, rs, h, k⟩ =>
    ⟨δ, G, Z, _, ok, rs, h, fun x G1 v H1 h1 k1 ok1 r1 => ⟨δ, G1, Z, _, ok1, rs.mono k1.keep, h1, fun y G2 u H2 h2 k2 ok2 r2 => by
      have r1 := r1.mono k2.keep
      unfold dGetR at h2
      split at h2
      · next ky eky =>
        have eu := key_of r2 eky
        subst eu
        split at h2
        · next ks ds =>
          split at h2
          · next d ed =>
            cases r1 with
            | dct hq e rr =>
              obtain ⟨v, h3, h4⟩ := (zip_of e rr).val ed
              exact ⟨_, v, rfl, .inl ⟨_, ky, .inr ⟨_, U_le _ _ hq⟩, rfl, h3.symm⟩, k _ _ _ _ h2 (k1.trans k2) ok2 h4⟩
          · exact h2.elim
        · cases r1
          split at h2
          · next kvs ea =>
            split at h2
            · next d ed =>
              obtain ⟨hz, xs, hx, e1, rr⟩ := ok2.ok _ _ ea
              obtain ⟨v, h3, h4⟩ := (KvR.of e1 rr).val ed
              exact ⟨_, v, rfl, .inl ⟨_, ky, .inl hx, rfl, h3.symm⟩, k _ _ _ _ h2 (k1.trans k2) ok2 h4⟩
            · exact h2.elim
          · exact h2.elim
        · exact h2.elim
      · exact h2.elim⟩⟩
/-- d[k] = v -/
def dPutS (te to ti : DTE) : DTS := fun D δ G => te δ G fun v G1 => to δ G1 fun x G2 => ti δ G2 fun y G3 => match keyOf y with
  | some k => match x with
    | .ref a => match G3 a with
      | some (.dK kvs) => kvs.length < sizeLine ∧ D.nx δ (gupd G3 a (.dK (putD kvs k v)))
      | _ => False
    | _ => False
  | none => False
theorem ds_put (hu : X.A.units + 64 < cLine) (he : DE X e te) (ho : DE X o to) (hi : DE X i ti) (hs : swapsWith e (some (.Subscript o i pos')) pos.line X.env = pure false := by rfl) :
    DS X W (.Assign [.Subscript o i pos'] e pos) (dPutS te to ti) :=
  PS.mono (ps_dput (by omega) ho hi he hs) fun E σ H ⟨δ, G, Z, D0, ok, rs, h, l⟩ =>
    ⟨δ, G, Z, _, ok, rs, h, fun v G1 v' H1 h1 k1 ok1 r1 => ⟨δ, G1, Z, _, ok1, rs.mono k1.keep, h1, fun x G2 x' H2 h2 k2 ok2 r2 => ⟨δ, G2, Z, _, ok2, rs.mono (k1.trans k2).keep, h2, fun y G3 y' H3 h3 k3 ok3 r3 => by
      have q1 := r1.mono (k2.trans k3).keep
      have q2 := r2.mono k3.keep
      have kk := k1.trans (k2.trans k3)
      split at h3
      · next ky eky =>
        have eu := key_of r3 eky
        subst eu
        split at h3
        · cases q2
          split at h3
          · next kvs ea =>
            obtain ⟨hz, xs, hx, e1, rr⟩ := ok3.ok _ _ ea
            have hw : Kp H3 G3 Z (upd H3 _ (.dK (putK xs ky v'))) (gupd G3 _ (.dK (putD kvs ky v))) := Kp.wrote ea hz
            have hr := ((KvR.of e1 rr).put (k := ky) q1).mono hw.keep
            have hl : xs.length = kvs.length := by have := congrArg List.length e1; simpa using this
            exact ⟨_, _, rfl, .inl ⟨xs, ky, hx, rfl, by rw [hl]; exact h3.1, rfl⟩, (l.after kk).nx _ _ _ _ h3.2 hw (ok3.wrote ea ⟨_, upd_same, hr.keys, hr.reps⟩) (rs.mono (kk.trans hw).keep)⟩
          · exact h3.elim
        · exact h3.elim
      · exact h3.elim⟩⟩⟩
end
/-! for k in d -/
section
variable {K : PySem.W.Frag} {H : Hp} {G : GHp} {Z : Addr → Bool}
theorem rep_key {W : Hp} (k : Key) : Rep K W (keyD k) (kV k) := by
  cases k with
  | inl i => exact .int i
  | inr x => exact .str x
theorem it_keys {a : Addr} {o : Obj} {xs : List (Key × V)} {ks : List Key} (h : U H G Z a = some (.frz o (.dK xs))) (e : xs.map (·.1) = ks) : ItOk K (Itk a o xs) (ks.map keyD) none H G Z := by
  subst e
  refine ⟨fun i d H' G' e k ok _ => ?_, fun H' G' k ok _ => ?_⟩
  · have h' : H' a = some (.frz o (.dK xs)) := U_le _ _ (k.keep _ _ h)
    rw [List.map_map, List.getElem?_map] at e
    cases ex : xs[i]? with
    | none => rw [ex] at e; cases e
    | some p =>
      rw [ex] at e
      cases e
      have hi := (List.getElem?_eq_some_iff.mp ex).1
      refine ⟨⟨h', hi⟩, fun x H'' hy => ?_⟩
      obtain ⟨rfl, k2, v, e1, rfl⟩ := hy
      rw [ex] at e1; cases e1
      exact ⟨.refl, ok, rep_key _⟩
  · exact ⟨U_le _ _ (k.keep _ _ h), by rw [List.length_map, List.length_map]; exact Nat.le_refl _⟩
end
def dKeysI (te : DTE) : DTI := fun δ G R => te δ G fun x G1 => match x with
  | .dct ks _ => R (ks.map keyD) none G1
  | _ => False
section
variable {X : Cx} {tg e : Expr} {te : DTE} {W : WX} {st : Stmt} {t : DTS}
theorem di_keys (he : DE X e te) : DI X tg e (dKeysI te) :=
  PI.mono (pi_keys he) fun σ H R ⟨δ, G, Z, Q0, ok, rs, h, k⟩ => ⟨δ, G, Z, _, ok, rs, h, fun x G1 v H1 h1 k1 ok1 r1 => by
    cases r1 with
    | dct hq e rr => exact ⟨_, _, rfl, .inl ⟨_, U_le _ _ hq, k _ _ _ _ _ h1 k1 ok1 fun Z' z1 z2 => it_keys (U_ext z2 _ _ hq) e⟩⟩
    | _ => exact False.elim h1⟩
/-! a dict that is changed no more -/
inductive FrzSt (a : Addr) (x : D) : DSt → DSt → Prop
  | nil : FrzSt a x [] []
  | no {δ δ' : DSt} (o : Option D) : FrzSt a x δ δ' → FrzSt a x (o :: δ) (none :: δ')
  | sm {δ δ' : DSt} (o : Option D) : FrzSt a x δ δ' → FrzSt a x (o :: δ) (o :: δ')
  | re {δ δ' : DSt} : FrzSt a x δ δ' → FrzSt a x (some (.ref a) :: δ) (some x :: δ')
theorem FrzSt.rep {K : PySem.W.Frag} {W W' : Hp} {a : Addr} {x : D} (k : ∀ a o, W a = some o → W' a = some o) (hx : Rep K W' x (.ref a)) : ∀ {δ δ' : DSt} {σ : L2.St}, FrzSt a x δ δ' → RepSt K W δ σ → RepSt K W' δ' σ
  | _, _, _, .nil, .nil => .nil
  | _, _, _, .no _ h, .cons _ r => .cons (.no _) (FrzSt.rep k hx h r)
  | _, _, _, .sm _ h, .cons q r => .cons (q.mono k) (FrzSt.rep k hx h r)
  | _, _, _, .re h, .cons q r => by
    cases q with
    | so q => cases q; exact .cons (.so hx) (FrzSt.rep k hx h r)
def dFrz (t : DTS) : DTS := fun E δ G => ∃ (a : Addr) (kvs : List (Key × D)) (G' : GHp) (δ' : DSt), G = gupd G' a (.dK kvs) ∧ G' a = none ∧ FrzSt a (.dct (kvs.map (·.1)) (kvs.map (·.2))) δ δ' ∧ t E δ' G'
theorem ps_lockP {t : TS} (h : PS X st t) : PS X st (fun D σ H => ∃ d u, H d = some u ∧ Mut (some u) ∧ ∀ od, t D σ (upd H d (.frz od u))) :=
  ⟨fun pins s σ H D I ⟨d, u, hd, mu, q⟩ => by
    obtain ⟨od, I2⟩ := I.lock hd mu
    exact h.run pins s σ _ D I2 (q od)⟩
theorem ds_frz (h : DS X W st t) : DS X W st (dFrz t) :=
  PS.mono (ps_lockP h) fun E σ H ⟨δ, G, Z, D0, ok, rs, ⟨a, kvs, G', δ', e, ea, fs, h⟩, l⟩ => by
    subst e
    obtain ⟨hz, xs, hx, e1, rr⟩ := ok.ok a _ gupd_same
    refine ⟨a, _, hx, trivial, fun od => ?_⟩
    have k : ∀ b o, U H (gupd G' a (.dK kvs)) Z b = some o → U (upd H a (.frz od (.dK xs))) G' Z b = some o := fun b o e => by
      obtain ⟨h1, h2, h3⟩ := U_some e
      have hne : b ≠ a := fun q => by rw [q, gupd_same] at h1; cases h1
      exact U_of (by rw [gupd_ne hne] at h1; exact h1) h2 (by rw [upd_ne hne]; exact h3)
    have kk : Kp H (gupd G' a (.dK kvs)) Z (upd H a (.frz od (.dK xs))) G' := ⟨k, fun b o z e => by
      have hne : b ≠ a := fun q => by rw [q, hz] at z; cases z
      rw [upd_ne hne]; exact e⟩
    have ok' : Ok X.K (upd H a (.frz od (.dK xs))) G' Z := by
      refine ⟨fun b o e => ?_, fun b z => ?_⟩
      · have hne : b ≠ a := fun q => by rw [q, ea] at e; cases e
        obtain ⟨z, g⟩ := ok.ok b o (by rw [gupd_ne hne]; exact e)
        exact ⟨z, g.mono k (upd_ne hne)⟩
      · have hne : b ≠ a := fun q => by rw [q, hz] at z; cases z
        rw [upd_ne hne]; exact ok.hid b z
    have hr : Rep X.K (U (upd H a (.frz od (.dK xs))) G' Z) (.dct (kvs.map (·.1)) (kvs.map (·.2))) (.ref a) := .dct (U_of ea hz upd_same) e1 (rr.mono k)
    exact ⟨δ', G', Z, D0, ok', fs.rep k hr rs, h, l.after kk⟩
end
end DL
set_option Elab.async false
set_option linter.all false
set_option maxRecDepth 100000
set_option maxHeartbeats 1000000
/-! DL, part 25: < of data of any depth; max(xs, default=d), min(xs, default=d) of whole numbers; reversed(range(a, b)). -/
namespace DL
open PySem PySem.Spec L2 PyProof.Rows

section
variable {X : Cx}
def rLtD (K : PySem.W.Frag) : R2 := fun x y H Q => ∃ d e, Dp K H x d ∧ Dp K H y e ∧ PySem.W.alike d e = true ∧ d ≠ .none ∧ SeqAt.shaped d = true ∧ Q (.bl (PySem.W.dataLt d e)) H
theorem op_ltD (hu : X.A.units + 64 < cLine) : OpR X (compareOp .Lt) (rLtD X.K) := by
  intro pins s σ H x y v u Q I rx ry h
  obtain ⟨d, e, hd, he, al, hn, sd, q⟩ := h
  obtain ⟨as, r1⟩ := Dp.reads I d x v hd rx
  obtain ⟨bs, r2⟩ := Dp.reads I e y u he ry
  have hr : X.A.units + min d.depth e.depth < cLine := by
    unfold SeqAt.shaped at sd
    rw [Bool.and_eq_true] at sd
    have := of_decide_eq_true sd.2
    omega
  exact PySem.W.lt_data r1 r2 al hn hr ⟨.bl _, H, I, rfl, q⟩
def dLtQ : DR2 := fun x y G Q => match x, y with
  | .int i, .int j => Q (.bl (decide (i < j))) G
  | x, y => ∃ p q, DD G x p ∧ DD G y q ∧ PySem.W.alike p q = true ∧ p ≠ .none ∧ SeqAt.shaped p = true ∧ Q (.bl (PySem.W.dataLt p q)) G
theorem dop_ltQ (hu : X.A.units + 64 < cLine) : DOp X (compareOp .Lt) dLtQ :=
  OpR.imp (OpR.or op_lt (op_ltD hu)) fun v u H Q ⟨x, y, G, Z, Q0, ok, r1, r2, h, k⟩ => by
    have gen : (∃ p q, DD G x p ∧ DD G y q ∧ PySem.W.alike p q = true ∧ p ≠ .none ∧ SeqAt.shaped p = true ∧ Q0 (.bl (PySem.W.dataLt p q)) G) → rLtD X.K v u H Q :=
      fun ⟨p, q, e1, e2, s1, s2, s3, h⟩ => ⟨p, q, e1.dp ok r1, e2.dp ok r2, s1, s2, s3, k _ _ _ _ h .refl ok (.bl _)⟩
    cases r1 with
    | int i =>
      cases r2 with
      | int j => exact .inl ⟨_, _, rfl, rfl, k _ _ _ _ h .refl ok (.bl _)⟩
      | _ => exact .inr (gen h)
    | _ => cases r2 <;> exact .inr (gen h)
end
/-! ### max(xs, default=d), min(xs, default=d) -/
theorem maxOf_I : ∀ (y : Int) (ys : List Int), PySem.W.maxOf y ys ∈ y :: ys ∧ ∀ z ∈ y :: ys, z ≤ PySem.W.maxOf y ys
  | y, [] => ⟨by simp [PySem.W.maxOf], fun z hz => by simp at hz; subst hz; exact Int.le_refl _⟩
  | y, a :: r => by
    have e : PySem.W.maxOf y (a :: r) = PySem.W.maxOf (if PySem.W.DatumOrd.lt y a = true then a else y) r := rfl
    have e2 : PySem.W.DatumOrd.lt y a = decide (y < a) := rfl
    obtain ⟨h1, h2⟩ := maxOf_I (if PySem.W.DatumOrd.lt y a = true then a else y) r
    rw [e]
    rw [e2] at h1 h2 ⊢
    have h3 := h2 _ List.mem_cons_self
    refine ⟨?_, fun z hz => ?_⟩
    · rcases List.mem_cons.mp h1 with h | h
      · rw [h]; split <;> simp
      · exact List.mem_cons_of_mem _ (List.mem_cons_of_mem _ h)
    · by_cases c : y < a
      · rw [decide_eq_true c, if_pos rfl] at h2 h3 ⊢
        rcases List.mem_cons.mp hz with rfl | hz
        · omega
        · exact h2 z hz
      · rw [decide_eq_false c, if_neg (by decide)] at h2 h3 ⊢
        rcases List.mem_cons.mp hz with rfl | hz
        · exact h3
        · rcases List.mem_cons.mp hz with rfl | hz
          · omega
          · exact h2 z (List.mem_cons_of_mem _ hz)
theorem minOf_I : ∀ (y : Int) (ys : List Int), PySem.W.minOf y ys ∈ y :: ys ∧ ∀ z ∈ y :: ys, PySem.W.minOf y ys ≤ z
  | y, [] => ⟨by simp [PySem.W.minOf], fun z hz => by simp at hz; subst hz; exact Int.le_refl _⟩
  | y, a :: r => by
    have e : PySem.W.minOf y (a :: r) = PySem.W.minOf (if PySem.W.DatumOrd.lt a y = true then a else y) r := rfl
    have e2 : PySem.W.DatumOrd.lt a y = decide (a < y) := rfl
    obtain ⟨h1, h2⟩ := minOf_I (if PySem.W.DatumOrd.lt a y = true then a else y) r
    rw [e]
    rw [e2] at h1 h2 ⊢
    have h3 := h2 _ List.mem_cons_self
    refine ⟨?_, fun z hz => ?_⟩
    · rcases List.mem_cons.mp h1 with h | h
      · rw [h]; split <;> simp
      · exact List.mem_cons_of_mem _ (List.mem_cons_of_mem _ h)
    · by_cases c : a < y
      · rw [decide_eq_true c, if_pos rfl] at h2 h3 ⊢
        rcases List.mem_cons.mp hz with rfl | hz
        · omega
        · exact h2 z hz
      · rw [decide_eq_false c, if_neg (by decide)] at h2 h3 ⊢
        rcases List.mem_cons.mp hz with rfl | hz
        · exact h3
        · rcases List.mem_cons.mp hz with rfl | hz
          · omega
          · exact h2 z (List.mem_cons_of_mem _ hz)
theorem maxI_uniq {ns : List Int} {m : Int} (h1 : m ∈ ns) (h2 : ∀ z ∈ ns, z ≤ m) : m = maxI ns := by
  obtain ⟨q1, q2⟩ := maxI_mem (List.ne_nil_of_mem h1)
  have := q2 _ h1
  have := h2 _ q1
  omega
theorem minI_uniq {ns : List Int} {m : Int} (h1 : m ∈ ns) (h2 : ∀ z ∈ ns, m ≤ z) : m = minI ns := by
  obtain ⟨q1, q2⟩ := minI_mem (List.ne_nil_of_mem h1)
  have := q2 _ h1
  have := h2 _ q1
  omega
section
variable {X : Cx}
def rBestDef (K : PySem.W.Frag) (best : List Int → Int) : List V → List V → Hp → VK → Prop := fun xs zs H Q => ∃ (a : Addr) (ns : List Int) (d : V), xs = [.ref a] ∧ zs = [d] ∧ SqL K H a (ns.map V.int) ∧ (ns = [] → Q d H) ∧ (ns ≠ [] → Q (.int (best ns)) H)
theorem cr_maxDef (hc : X.calm = true) (hu : X.A.units + 64 < cLine) : CallRK X (.builtin "max") [Str.ofString "default"] (rBestDef X.K maxI) := by
  intro pins s σ H vs zs us ws Q I r rz h
  obtain ⟨a, ns, d, rfl, rfl, hs, q0, q1⟩ := h
  obtain rfl := Vals.ref1 r
  obtain ⟨w1, rfl, e1⟩ := vals1 rz
  obtain ⟨its, rv, hl, _⟩ := I.list hs
  have hi : IntsAre its ns := intsAre_of rv
  refine PySem.W.max_list_datum_default (α := Int) (I.ok.hd hc) hl.isList (PySem.W.HoldAll.of_ints hi) (by show X.A.units + 1 + PySem.W.Datum.depth Int < cLine; have : PySem.W.Datum.depth Int = 0 := rfl; omega) (fun e h' tk hk => ?_) fun y ys i v h' tk e hi hv hk => ?_
  · exact ⟨d, H, I.kept hk, e1, q0 e⟩
  · obtain ⟨t, rfl⟩ := PySem.W.int_of_holds hv
    refine ⟨.int _, H, I.kept hk, ⟨t, rfl⟩, ?_⟩
    obtain ⟨m1, m2⟩ := maxOf_I y ys
    rw [maxI_uniq m1 m2, ← e]
    exact q1 (by rw [e]; simp)
theorem cr_minDef (hc : X.calm = true) (hu : X.A.units + 64 < cLine) : CallRK X (.builtin "min") [Str.ofString "default"] (rBestDef X.K minI) := by
  intro pins s σ H vs zs us ws Q I r rz h
  obtain ⟨a, ns, d, rfl, rfl, hs, q0, q1⟩ := h
  obtain rfl := Vals.ref1 r
  obtain ⟨w1, rfl, e1⟩ := vals1 rz
  obtain ⟨its, rv, hl, _⟩ := I.list hs
  have hi : IntsAre its ns := intsAre_of rv
  refine PySem.W.min_list_datum_default (α := Int) (I.ok.hd hc) hl.isList (PySem.W.HoldAll.of_ints hi) (by show X.A.units + 1 + PySem.W.Datum.depth Int < cLine; have : PySem.W.Datum.depth Int = 0 := rfl; omega) (fun e h' tk hk => ?_) fun y ys i v h' tk e hi hv hk => ?_
  · exact ⟨d, H, I.kept hk, e1, q0 e⟩
  · obtain ⟨t, rfl⟩ := PySem.W.int_of_holds hv
    refine ⟨.int _, H, I.kept hk, ⟨t, rfl⟩, ?_⟩
    obtain ⟨m1, m2⟩ := minOf_I y ys
    rw [minI_uniq m1 m2, ← e]
    exact q1 (by rw [e]; simp)
end
/-! a built-in called with keywords -/
def cRK (K : PySem.W.Frag) (r : List D → List D → GHp → DK → Prop) : List V → List V → Hp → VK → Prop := fun vs zs H Q => ∃ (ds es : List D) (G : GHp) (Z : Addr → Bool) (Q0 : DK), Ok K H G Z ∧ Reps K (U H G Z) ds vs ∧ Reps K (U H G Z) es zs ∧ r ds es G Q0 ∧
  ∀ d G' v H', Q0 d G' → Kp H G Z H' G' → Ok K H' G' Z → Rep K (U H' G' Z) d v → Q v H'
def dCBK (r : List D → List D → GHp → DK → Prop) (t tk : DTA) : DTE := fun δ G Q => t δ G fun ds G1 => tk δ G1 fun es G2 => r ds es G2 Q
section
variable {X : Cx} {x : Str} {p pos : Pos} {e : Expr} {es : List Expr} {kws : List Keyword} {t tk : DTA} {id : String} {ks : List Str} {r : List D → List D → GHp → DK → Prop}
theorem de_callBK (hc : CallRK X (.builtin id) ks (cRK X.K r)) (hg : Gl X x) (hm : X.mg x = none) (hv : bootBuiltins x = some (.builtin id)) (ha : DA X (e :: es) t) (hk : DKw X kws tk) (hn : x ≠ "__name__" := by decide) (hdb : (x == ("__debug__" : Str)) = false := by decide)
    (he : backTo pos (starEach (e :: es) X.env) = (false, eval e X.env) :: backTo pos (starEach es X.env) := by rfl) (hpl : (backTo pos (starEach (e :: es) X.env)).any (·.1) = false := by rfl)
    (hall : (backToKw pos (keywordEach kws X.env)).all (·.1.isSome) = true := by rfl) (hnone : (backToKw pos (keywordEach kws X.env)).any (·.1.isNone) = false := by rfl) (hks : (backToKw pos (keywordEach kws X.env)).filterMap (·.1) = ks := by rfl) :
    DE X (.Call (.Name x p) (e :: es) kws pos) (dCBK r t tk) :=
  PE.mono (pe_callBK hc hg hm hv ha hk hn hdb he hpl hall hnone hks) fun σ H Q ⟨δ, G, Z, Q0, ok, rs, h, k⟩ =>
    ⟨δ, G, Z, _, ok, rs, h, fun ds G1 vs H1 h1 k1 ok1 r1 => ⟨δ, G1, Z, _, ok1, rs.mono k1.keep, h1, fun es G2 zs H2 h2 k2 ok2 r2 =>
      ⟨ds, es, G2, Z, Q0, ok2, r1.mono k2.keep, r2, h2, fun d G' v H' q k3 ok3 r3 => k _ _ _ _ q (k1.trans (k2.trans k3)) ok3 r3⟩⟩⟩
def dBest (best : List Int → Int) (ds es : List D) (G : GHp) (Q : DK) : Prop := match ds, es with
  | [x], [d] => match intsG G x with
    | some ns => (ns = [] → Q d G) ∧ (ns ≠ [] → Q (.int (best ns)) G)
    | none => False
  | _, _ => False
theorem best_of {K : PySem.W.Frag} {best : List Int → Int} {vs zs : List V} {H : Hp} {Q : VK} (h : cRK K (dBest best) vs zs H Q) : rBestDef K best vs zs H Q := by
  obtain ⟨ds, es, G, Z, Q0, ok, r1, r2, h, k⟩ := h
  unfold dBest at h
  split at h
  · next x d =>
    split at h
    · next ns e =>
      cases r1 with
      | cons a b =>
        cases b
        cases r2 with
        | cons c f =>
          cases f
          obtain ⟨a, rfl, ha⟩ := intsG_of ok a e
          exact ⟨_, ns, _, rfl, rfl, SqL.of ha, fun z => k _ _ _ _ (h.1 z) .refl ok c, fun z => k _ _ _ _ (h.2 z) .refl ok (.int _)⟩
    · exact h.elim
  · exact h.elim
theorem CallRK.imp {X : Cx} {f : Value} {ks : List Str} {r r' : List V → List V → Hp → VK → Prop} (hc : CallRK X f ks r) (h : ∀ vs zs H Q, r' vs zs H Q → r vs zs H Q) : CallRK X f ks r' :=
  fun pins s σ H xs zs us ws Q I r1 r2 q => hc pins s σ H xs zs us ws Q I r1 r2 (h _ _ _ _ q)
theorem dck_max (hc : X.calm = true) (hu : X.A.units + 64 < cLine) : CallRK X (.builtin "max") [Str.ofString "default"] (cRK X.K (dBest maxI)) := CallRK.imp (cr_maxDef hc hu) fun _ _ _ _ h => best_of h
theorem dck_min (hc : X.calm = true) (hu : X.A.units + 64 < cLine) : CallRK X (.builtin "min") [Str.ofString "default"] (cRK X.K (dBest minI)) := CallRK.imp (cr_minDef hc hu) fun _ _ _ _ h => best_of h
end
/-! reversed(range(a, b)) -/
def rngC (lo c : Int) (n : Nat) : List D := (List.range n).map fun (i : Nat) => D.int (lo + i * c)
theorem it_rangeC {K : PySem.W.Frag} {H : Hp} {G : GHp} {Z : Addr → Bool} {lo c : Int} {n : Nat} : ItOk K (Itc lo c n) (rngC lo c n) none H G Z := by
  refine ⟨fun i d H' G' e k ok _ => ?_, fun H' G' k ok _ => ?_⟩
  · have hi : i < n := by
      have := (List.getElem?_eq_some_iff.mp e).1
      simpa [rngC] using this
    have hd : d = .int (lo + i * c) := by
      simp [rngC, hi] at e
      exact e.symm
    subst hd
    refine ⟨hi, fun x H'' hy => ?_⟩
    obtain ⟨rfl, rfl⟩ := hy
    exact ⟨.refl, ok, .int _⟩
  · show n ≤ (rngC lo c n).length
    simp [rngC]
def dRevRng2 (ta tb : DTE) : DTI := fun δ G R => ta δ G fun x G1 => tb δ G1 fun y G2 => match x, y with
  | .int i, .int j => RgB i j ∧ R (rngC (i + (((j - i).toNat : Nat) : Int) - 1) (-1) (j - i).toNat) none G2
  | _, _ => False
section
variable {X : Cx} {tg a b : Expr} {ta tb : DTE} {p p2 pos pos2 : Pos}
theorem di_revRange2 (hg : Gl X "reversed") (hm : X.mg "reversed" = none) (hg2 : Gl X "range") (hm2 : X.mg "range" = none) (ha : DE X a ta) (hb : DE X b tb)
    (na : starEach [a, b] X.env = (false, eval a X.env) :: starEach [b] X.env := by rfl) (nb : starEach [b] X.env = (false, eval b X.env) :: starEach [] X.env := by rfl) (hp : (backTo pos2 (starEach [b] X.env)).any (·.1) = false := by rfl)
    (nl : starEach [Expr.Call (.Name "range" p2) [a, b] [] pos2] X.env = (false, eval (.Call (.Name "range" p2) [a, b] [] pos2) X.env) :: starEach [] X.env := by rfl) :
    DI X tg (.Call (.Name "reversed" p) [.Call (.Name "range" p2) [a, b] [] pos2] [] pos) (dRevRng2 ta tb) :=
  PI.mono (pi_revR hg hm (prg_2 hg2 hm2 ha hb na nb hp) nl) fun σ H R ⟨δ, G, Z, Q0, ok, rs, h, k⟩ =>
    ⟨δ, G, Z, _, ok, rs, h, fun x G1 v H1 h1 k1 ok1 r1 => ⟨δ, G1, Z, _, ok1, rs.mono k1.keep, h1, fun y G2 u H2 h2 k2 ok2 r2 => by
      cases r1 with
      | int i =>
        cases r2 with
        | int j => exact ⟨i, j, rfl, rfl, h2.1.1, h2.1.2.1, h2.1.2.2.1, h2.1.2.2.2, k _ _ _ _ _ h2.2 (k1.trans k2) ok2 fun Z' _ _ => it_rangeC⟩
        | _ => exact False.elim h2
      | _ => cases r2 <;> exact False.elim h2⟩⟩
end
end DL
set_option linter.all false
set_option maxRecDepth 100000
set_option maxHeartbeats 1000000
namespace DL
open PySem PySem.Spec L2 DL
/-! DL, part 26: the laws' _law_same told in full, for data without tracked parts: True or False. -/
def sameB : Nat → D → D → Bool
  | 0, _, _ => false
  | n + 1, x, y => match y, x with
    | .non, x => isNon x
    | .bl b, .bl a => a == b
    | .int j, .int i => decide (i = j)
    | .lst ys, .lst xs => decide (xs.length = ys.length) && (xs.zip ys).all fun p => sameB n p.1 p.2
    | .tup ys, .tup xs => decide (xs.length = ys.length) && (xs.zip ys).all fun p => sameB n p.1 p.2
    | _, _ => false
def prSm (n : Nat) (x y : D) (G : GHp) (Q : DK) : Prop := prSame n x y G Q ∨ (fz n x = true ∧ fz n y = true ∧ Q (.bl (sameB n x y)) G)
def spSm (n : Nat) : DSp := sp2 fun x y G Q _ => prSm n x y G Q
theorem sp_same_sm {n : Nat} : ∀ ds G Q E, spSame n ds G Q E → spSm n ds G Q E := fun ds G Q E h => by
  match ds, h with
  | [x, y], h => exact .inl h
theorem no_sm {ds : List D} {G : GHp} {Q : DK} {E : DXK} (h : spSm 0 ds G Q E) : False := by
  match ds, h with
  | [x, y], .inl ⟨S, _, h, _⟩ => cases h
  | [x, y], .inr ⟨_, h, _⟩ => cases h
theorem fz_items {n : Nat} {ts : List D} (hz : fz (n + 1) (.lst ts) = true ∨ fz (n + 1) (.tup ts) = true) : ts.length ≤ 1000 ∧ ∀ d ∈ ts, fz n d = true := by
  have hz : (decide (ts.length ≤ 1000) && ts.all (fz n)) = true := by rcases hz with h | h <;> exact h
  rw [Bool.and_eq_true] at hz
  exact ⟨of_decide_eq_true hz.1, List.all_eq_true.mp hz.2⟩
theorem zip_all {n : Nat} {xs ys : List D} (e : xs.length = ys.length) : ((List.range ys.length).filter fun i => !sameB n (xs[i]?.getD .non) (ys[i]?.getD .non)).isEmpty = (xs.zip ys).all fun p => sameB n p.1 p.2 := by
  rw [Bool.eq_iff_iff, List.isEmpty_iff, List.filter_eq_nil_iff, List.all_eq_true]
  constructor
  · intro h p hp
    obtain ⟨i, hi⟩ := List.mem_iff_getElem?.mp hp
    obtain ⟨h1, h2⟩ := List.getElem?_zip_eq_some.mp hi
    have hl : i < ys.length := (List.getElem?_eq_some_iff.mp h2).1
    have := h i (List.mem_range.mpr hl)
    rw [h1, h2] at this
    simpa using this
  · intro h i hi
    have hi := List.mem_range.mp hi
    have h1 : xs[i]? = some (xs[i]'(by omega)) := List.getElem?_eq_getElem (by omega)
    have h2 : ys[i]? = some ys[i] := List.getElem?_eq_getElem hi
    have := h (xs[i]'(by omega), ys[i]) (List.mem_iff_getElem?.mpr ⟨i, List.getElem?_zip_eq_some.mpr ⟨h1, h2⟩⟩)
    rw [h1, h2]
    simpa using this
theorem DDs_ix {G : GHp} : ∀ l : List Nat, DDs G (l.map fun (i : Nat) => D.int (0 + i)) (l.map fun (i : Nat) => .int (0 + i))
  | [] => .nil
  | a :: t => .cons (.int _) (DDs_ix t)
theorem rd_sm (n : Nat) : ∀ x y G Q (E : DXK), prSm (n + 1) x y G Q → DRun (tSame (spSm n)) [some x, some y, none] G Q := by
  rintro x y G Q E (h | ⟨hx, hy, h⟩)
  · exact rd_sameG n sp_same_sm x y G Q E h
  cases y with
  | non =>
    conv => whnf
    refine ⟨fun _ => ?_, fun e => tf e⟩
    conv => whnf
    refine ⟨fun _ => ?_, fun e => tf e⟩
    conv => whnf
    exact ⟨fun _ => h, fun e => tf e⟩
  | bl b =>
    cases x with
    | bl a =>
      conv => whnf
      refine ⟨fun e => ft e, fun _ => ?_⟩
      conv => whnf
      refine ⟨fun _ => ?_, fun e => tf e⟩
      conv => whnf
      refine ⟨fun e => ft e, fun _ => ?_⟩
      conv => whnf
      refine ⟨fun _ => ?_, fun e => tf e⟩
      conv => whnf
      cases a <;> cases b <;> exact h
    | non =>
      conv => whnf
      refine ⟨fun e => ft e, fun _ => ?_⟩
      conv => whnf
      refine ⟨fun _ => ?_, fun e => tf e⟩
      conv => whnf
      refine ⟨fun e => ft e, fun _ => ?_⟩
      conv => whnf
      refine ⟨fun e => ft e, fun _ => ?_⟩
      conv => whnf
      exact h
    | int i =>
      conv => whnf
      refine ⟨fun e => ft e, fun _ => ?_⟩
      conv => whnf
      refine ⟨fun _ => ?_, fun e => tf e⟩
      conv => whnf
      refine ⟨fun e => ft e, fun _ => ?_⟩
      conv => whnf
      refine ⟨fun e => ft e, fun _ => ?_⟩
      conv => whnf
      exact h
    | lst ds =>
      conv => whnf
      refine ⟨fun e => ft e, fun _ => ?_⟩
      conv => whnf
      refine ⟨fun _ => ?_, fun e => tf e⟩
      conv => whnf
      refine ⟨fun e => ft e, fun _ => ?_⟩
      conv => whnf
      refine ⟨fun e => ft e, fun _ => ?_⟩
      conv => whnf
      exact h
    | tup ds =>
      conv => whnf
      refine ⟨fun e => ft e, fun _ => ?_⟩
      conv => whnf
      refine ⟨fun _ => ?_, fun e => tf e⟩
      conv => whnf
      refine ⟨fun e => ft e, fun _ => ?_⟩
      conv => whnf
      refine ⟨fun e => ft e, fun _ => ?_⟩
      conv => whnf
      exact h
    | _ => cases hx
  | int j =>
    cases x with
    | int i =>
      conv => whnf
      refine ⟨fun e => ft e, fun _ => ?_⟩
      conv => whnf
      refine ⟨fun e => ft e, fun _ => ?_⟩
      conv => whnf
      refine ⟨fun _ => ?_, fun e => tf e⟩
      conv => whnf
      refine ⟨fun _ => ?_, fun e => tf e⟩
      conv => whnf
      refine ⟨fun _ => ?_, fun e => tf e⟩
      conv => whnf
      have e : decide (i - j = 0) = decide (i = j) := decide_eq_decide.mpr (by omega)
      have h : Q (.bl (decide (i = j))) G := h
      rw [← e] at h
      exact h
    | bl i =>
      conv => whnf
      refine ⟨fun e => ft e, fun _ => ?_⟩
      conv => whnf
      refine ⟨fun e => ft e, fun _ => ?_⟩
      conv => whnf
      refine ⟨fun _ => ?_, fun e => tf e⟩
      conv => whnf
      refine ⟨fun _ => ?_, fun e => tf e⟩
      conv => whnf
      refine ⟨fun e => ft e, fun _ => ?_⟩
      conv => whnf
      exact h
    | non =>
      conv => whnf
      refine ⟨fun e => ft e, fun _ => ?_⟩
      conv => whnf
      refine ⟨fun e => ft e, fun _ => ?_⟩
      conv => whnf
      refine ⟨fun _ => ?_, fun e => tf e⟩
      conv => whnf
      refine ⟨fun e => ft e, fun _ => ?_⟩
      conv => whnf
      exact h
    | lst ds =>
      conv => whnf
      refine ⟨fun e => ft e, fun _ => ?_⟩
      conv => whnf
      refine ⟨fun e => ft e, fun _ => ?_⟩
      conv => whnf
      refine ⟨fun _ => ?_, fun e => tf e⟩
      conv => whnf
      refine ⟨fun e => ft e, fun _ => ?_⟩
      conv => whnf
      exact h
    | tup ds =>
      conv => whnf
      refine ⟨fun e => ft e, fun _ => ?_⟩
      conv => whnf
      refine ⟨fun e => ft e, fun _ => ?_⟩
      conv => whnf
      refine ⟨fun _ => ?_, fun e => tf e⟩
      conv => whnf
      refine ⟨fun e => ft e, fun _ => ?_⟩
      conv => whnf
      exact h
    | _ => cases hx
  | lst ys =>
    cases x with
    | non =>
      conv => whnf
      refine ⟨fun e => ft e, fun _ => ?_⟩
      conv => whnf
      refine ⟨fun e => ft e, fun _ => ?_⟩
      conv => whnf
      refine ⟨fun e => ft e, fun _ => ?_⟩
      conv => whnf
      refine ⟨fun e => ft e, fun _ => ?_⟩
      conv => whnf
      refine ⟨fun _ => ?_, fun e => tf e⟩
      conv => whnf
      refine ⟨fun _ => ?_, fun e => tf e⟩
      conv => whnf
      exact h
    | bl b =>
      conv => whnf
      refine ⟨fun e => ft e, fun _ => ?_⟩
      conv => whnf
      refine ⟨fun e => ft e, fun _ => ?_⟩
      conv => whnf
      refine ⟨fun e => ft e, fun _ => ?_⟩
      conv => whnf
      refine ⟨fun e => ft e, fun _ => ?_⟩
      conv => whnf
      refine ⟨fun _ => ?_, fun e => tf e⟩
      conv => whnf
      refine ⟨fun _ => ?_, fun e => tf e⟩
      conv => whnf
      exact h
    | int i =>
      conv => whnf
      refine ⟨fun e => ft e, fun _ => ?_⟩
      conv => whnf
      refine ⟨fun e => ft e, fun _ => ?_⟩
      conv => whnf
      refine ⟨fun e => ft e, fun _ => ?_⟩
      conv => whnf
      refine ⟨fun e => ft e, fun _ => ?_⟩
      conv => whnf
      refine ⟨fun _ => ?_, fun e => tf e⟩
      conv => whnf
      refine ⟨fun _ => ?_, fun e => tf e⟩
      conv => whnf
      exact h
    | tup ds =>
      conv => whnf
      refine ⟨fun e => ft e, fun _ => ?_⟩
      conv => whnf
      refine ⟨fun e => ft e, fun _ => ?_⟩
      conv => whnf
      refine ⟨fun e => ft e, fun _ => ?_⟩
      conv => whnf
      refine ⟨fun e => ft e, fun _ => ?_⟩
      conv => whnf
      refine ⟨fun _ => ?_, fun e => tf e⟩
      conv => whnf
      refine ⟨fun _ => ?_, fun e => tf e⟩
      conv => whnf
      exact h
    | lst ds =>
      conv => whnf
      refine ⟨fun e => ft e, fun _ => ?_⟩
      conv => whnf
      refine ⟨fun e => ft e, fun _ => ?_⟩
      conv => whnf
      refine ⟨fun e => ft e, fun _ => ?_⟩
      conv => whnf
      refine ⟨fun e => ft e, fun _ => ?_⟩
      conv => whnf
      refine ⟨fun e => ft e, fun _ => ?_⟩
      conv => whnf
      refine ⟨fun e => ft e, fun _ => ?_⟩
      conv => whnf
      obtain ⟨hlx, hax⟩ := fz_items (n := n) (ts := ds) (Or.inl hx)
      obtain ⟨hly, hay⟩ := fz_items (n := n) (ts := ys) (Or.inl hy)
      have h : Q (.bl (decide (ds.length = ys.length) && (ds.zip ys).all fun p => sameB n p.1 p.2)) G := h
      by_cases el : ds.length = ys.length
      · rw [decide_eq_true el, Bool.true_and, ← zip_all el] at h
        refine ⟨fun _ => ?_, fun e => absurd (of_decide_eq_false e) (fun q => q (by rw [el]))⟩
        conv => whnf
        refine ⟨by unfold RgB; omega, ?_⟩
        refine lc_map (enc := fun (i : Nat) => D.int (0 + i)) (keep := fun i => !sameB n (ds[i]?.getD .non) (ys[i]?.getD .non)) (f := fun i => D.int (0 + i)) (xs := List.range (ys.length : Int).toNat) (smallL (by rw [List.length_range]; omega)) trivial (fun i hi R hR => ?_) (fun d hd _ R hR => hR) ?_
        · have hi : i < ys.length := by have := List.mem_range.mp hi; omega
          have g1 : ds[i]? = some (ds[i]'(by omega)) := List.getElem?_eq_getElem (by omega)
          have g2 : ys[i]? = some ys[i] := List.getElem?_eq_getElem hi
          conv => whnf
          refine atD_get (d := ds[i]'(by omega)) (by omega) (by omega) (by rw [show ((0 : Int) + (i : Int)).toNat = i by omega]; exact g1) ?_
          conv => whnf
          refine atD_get (d := ys[i]) (by omega) (by omega) (by rw [show ((0 : Int) + (i : Int)).toNat = i by omega]; exact g2) ?_
          conv => whnf
          rw [g1, g2] at hR
          refine .inr ⟨hax _ (List.getElem_mem _), hay _ (List.getElem_mem hi), ?_⟩
          exact hR
        · conv => whnf
          refine ⟨smallL (by simp), ?_⟩
          refine eq_nilL (ps := ((List.range ys.length).filter fun i => !sameB n (ds[i]?.getD .non) (ys[i]?.getD .non)).map fun (i : Nat) => .int (0 + i)) (DDs_ix _) (.of fun p hp => by
            obtain ⟨i, _, rfl⟩ := List.mem_map.mp hp
            exact .int _) ?_
          rw [Int.toNat_natCast, isEmpty_map]
          exact h
      · rw [decide_eq_false el, Bool.false_and] at h
        refine ⟨fun e => absurd (of_decide_eq_true e) (fun q => el (by omega)), fun _ => ?_⟩
        show Q (.bl (decide ((ds.length : Int) = (ys.length : Int)))) G
        rw [decide_eq_false (by omega)]
        exact h
    | _ => cases hx
  | tup ys =>
    cases x with
    | non =>
      conv => whnf
      refine ⟨fun e => ft e, fun _ => ?_⟩
      conv => whnf
      refine ⟨fun e => ft e, fun _ => ?_⟩
      conv => whnf
      refine ⟨fun e => ft e, fun _ => ?_⟩
      conv => whnf
      refine ⟨fun e => ft e, fun _ => ?_⟩
      conv => whnf
      refine ⟨fun e => ft e, fun _ => ?_⟩
      conv => whnf
      refine ⟨fun _ => ?_, fun e => tf e⟩
      conv => whnf
      exact h
    | bl b =>
      conv => whnf
      refine ⟨fun e => ft e, fun _ => ?_⟩
      conv => whnf
      refine ⟨fun e => ft e, fun _ => ?_⟩
      conv => whnf
      refine ⟨fun e => ft e, fun _ => ?_⟩
      conv => whnf
      refine ⟨fun e => ft e, fun _ => ?_⟩
      conv => whnf
      refine ⟨fun e => ft e, fun _ => ?_⟩
      conv => whnf
      refine ⟨fun _ => ?_, fun e => tf e⟩
      conv => whnf
      exact h
    | int i =>
      conv => whnf
      refine ⟨fun e => ft e, fun _ => ?_⟩
      conv => whnf
      refine ⟨fun e => ft e, fun _ => ?_⟩
      conv => whnf
      refine ⟨fun e => ft e, fun _ => ?_⟩
      conv => whnf
      refine ⟨fun e => ft e, fun _ => ?_⟩
      conv => whnf
      refine ⟨fun e => ft e, fun _ => ?_⟩
      conv => whnf
      refine ⟨fun _ => ?_, fun e => tf e⟩
      conv => whnf
      exact h
    | tup ds =>
      conv => whnf
      refine ⟨fun e => ft e, fun _ => ?_⟩
      conv => whnf
      refine ⟨fun e => ft e, fun _ => ?_⟩
      conv => whnf
      refine ⟨fun e => ft e, fun _ => ?_⟩
      conv => whnf
      refine ⟨fun e => ft e, fun _ => ?_⟩
      conv => whnf
      refine ⟨fun e => ft e, fun _ => ?_⟩
      conv => whnf
      refine ⟨fun e => ft e, fun _ => ?_⟩
      conv => whnf
      obtain ⟨hlx, hax⟩ := fz_items (n := n) (ts := ds) (Or.inr hx)
      obtain ⟨hly, hay⟩ := fz_items (n := n) (ts := ys) (Or.inr hy)
      have h : Q (.bl (decide (ds.length = ys.length) && (ds.zip ys).all fun p => sameB n p.1 p.2)) G := h
      by_cases el : ds.length = ys.length
      · rw [decide_eq_true el, Bool.true_and, ← zip_all el] at h
        refine ⟨fun _ => ?_, fun e => absurd (of_decide_eq_false e) (fun q => q (by rw [el]))⟩
        conv => whnf
        refine ⟨by unfold RgB; omega, ?_⟩
        refine lc_map (enc := fun (i : Nat) => D.int (0 + i)) (keep := fun i => !sameB n (ds[i]?.getD .non) (ys[i]?.getD .non)) (f := fun i => D.int (0 + i)) (xs := List.range (ys.length : Int).toNat) (smallL (by rw [List.length_range]; omega)) trivial (fun i hi R hR => ?_) (fun d hd _ R hR => hR) ?_
        · have hi : i < ys.length := by have := List.mem_range.mp hi; omega
          have g1 : ds[i]? = some (ds[i]'(by omega)) := List.getElem?_eq_getElem (by omega)
          have g2 : ys[i]? = some ys[i] := List.getElem?_eq_getElem hi
          conv => whnf
          refine atD_get (d := ds[i]'(by omega)) (by omega) (by omega) (by rw [show ((0 : Int) + (i : Int)).toNat = i by omega]; exact g1) ?_
          conv => whnf
          refine atD_get (d := ys[i]) (by omega) (by omega) (by rw [show ((0 : Int) + (i : Int)).toNat = i by omega]; exact g2) ?_
          conv => whnf
          rw [g1, g2] at hR
          refine .inr ⟨hax _ (List.getElem_mem _), hay _ (List.getElem_mem hi), ?_⟩
          exact hR
        · conv => whnf
          refine ⟨smallL (by simp), ?_⟩
          refine eq_nilL (ps := ((List.range ys.length).filter fun i => !sameB n (ds[i]?.getD .non) (ys[i]?.getD .non)).map fun (i : Nat) => .int (0 + i)) (DDs_ix _) (.of fun p hp => by
            obtain ⟨i, _, rfl⟩ := List.mem_map.mp hp
            exact .int _) ?_
          rw [Int.toNat_natCast, isEmpty_map]
          exact h
      · rw [decide_eq_false el, Bool.false_and] at h
        refine ⟨fun e => absurd (of_decide_eq_true e) (fun q => el (by omega)), fun _ => ?_⟩
        show Q (.bl (decide ((ds.length : Int) = (ys.length : Int)))) G
        rw [decide_eq_false (by omega)]
        exact h
    | lst ds =>
      conv => whnf
      refine ⟨fun e => ft e, fun _ => ?_⟩
      conv => whnf
      refine ⟨fun e => ft e, fun _ => ?_⟩
      conv => whnf
      refine ⟨fun e => ft e, fun _ => ?_⟩
      conv => whnf
      refine ⟨fun e => ft e, fun _ => ?_⟩
      conv => whnf
      refine ⟨fun _ => ?_, fun e => tf e⟩
      conv => whnf
      refine ⟨fun _ => ?_, fun e => tf e⟩
      conv => whnf
      exact h
    | _ => cases hx
  | _ => cases hy
end DL
set_option Elab.async false
set_option linter.all false
set_option maxRecDepth 100000
set_option maxHeartbeats 1000000
/-! DL, part 27: dicts with keys of tuples: {}, d[k] = v, d[k], for k in d, list(d), d changed no more (D.dcT); d.get(k, x); sorted(pairs of whole numbers). -/
namespace DL
open PySem PySem.Spec L2 PyProof.Rows

def keyOfs : List D → Option (List Key)
  | [] => some []
  | d :: r => match keyOf d, keyOfs r with
    | some k, some ks => some (k :: ks)
    | _, _ => none
def keysOf : D → Option (List Key)
  | .tup ds => if ds.length = 3 then none else keyOfs ds
  | _ => none
theorem keys_of {K : PySem.W.Frag} {W : Hp} : ∀ {ds : List D} {vs : List V} {ks : List Key}, Reps K W ds vs → keyOfs ds = some ks → vs = ks.map kV
  | [], _, ks, .nil, e => by cases e; rfl
  | d :: r, _, ks, .cons h t, e => by
    unfold keyOfs at e
    split at e
    · next k kr e1 e2 =>
      cases e
      rw [List.map_cons, key_of h e1, keys_of t e2]
    · cases e
/-! entries, by keys of any kind -/
section
variable {κ : Type} [DecidableEq κ] {K : PySem.W.Frag} {W : Hp}
def valG (kvs : List (κ × D)) (k : κ) : Option D := (kvs.find? fun kv => decide (kv.1 = k)).map (·.2)
def putG (kvs : List (κ × D)) (k : κ) (d : D) : List (κ × D) :=
  if (kvs.any fun kv => decide (kv.1 = k)) = true then kvs.map (fun kv => if kv.1 = k then (kv.1, d) else kv) else kvs ++ [(k, d)]
abbrev KgR (K : PySem.W.Frag) (W : Hp) : List (κ × D) → List (κ × V) → Prop := Paired fun p q => q.1 = p.1 ∧ Rep K W p.2 q.2
theorem KgR.of : ∀ {kvs : List (κ × D)} {xs : List (κ × V)}, xs.map (·.1) = kvs.map (·.1) → Reps K W (kvs.map (·.2)) (xs.map (·.2)) → KgR K W kvs xs
  | [], [], _, _ => .nil
  | [], _ :: _, h, _ => by cases h
  | _ :: _, [], h, _ => by cases h
  | p :: r, q :: t, h, r1 => by
    simp only [List.map_cons, List.cons.injEq] at h
    rw [List.map_cons, List.map_cons] at r1
    cases r1 with
    | cons a b => exact .cons ⟨h.1, a⟩ (KgR.of h.2 b)
theorem KgR.keys : ∀ {kvs : List (κ × D)} {xs : List (κ × V)}, KgR K W kvs xs → xs.map (·.1) = kvs.map (·.1)
  | _, _, .nil => rfl
  | _, _, .cons h t => by rw [List.map_cons, List.map_cons, h.1, KgR.keys t]
theorem KgR.reps : ∀ {kvs : List (κ × D)} {xs : List (κ × V)}, KgR K W kvs xs → Reps K W (kvs.map (·.2)) (xs.map (·.2))
  | _, _, .nil => .nil
  | _, _, .cons h t => .cons h.2 (KgR.reps t)
theorem KgR.val : ∀ {kvs : List (κ × D)} {xs : List (κ × V)} {k : κ}, KgR K W kvs xs → (∃ d v, valG kvs k = some d ∧ valV xs k = some v ∧ Rep K W d v) ∨ (valG kvs k = none ∧ valV xs k = none)
  | _, _, _, .nil => .inr ⟨rfl, rfl⟩
  | p :: kvs, q :: xs, k, .cons h t => by
    by_cases hk : p.1 = k
    · exact .inl ⟨p.2, q.2, by simp [valG, List.find?_cons, hk], valV_pos (h.1.trans hk), h.2⟩
    · have e1 : valG (p :: kvs) k = valG kvs k := by simp [valG, List.find?_cons, hk]
      have e2 : valV (q :: xs) k = valV xs k := valV_neg (by rw [h.1]; exact hk)
      rw [e1, e2]
      exact KgR.val t
theorem KgR.any {k : κ} : ∀ {kvs : List (κ × D)} {xs : List (κ × V)}, KgR K W kvs xs → (xs.any fun kv => decide (kv.1 = k)) = kvs.any fun kv => decide (kv.1 = k)
  | _, _, .nil => rfl
  | _, _, .cons h t => by rw [List.any_cons, List.any_cons, h.1, KgR.any t]
theorem KgR.map {k : κ} {d : D} {v : V} (r : Rep K W d v) : ∀ {kvs : List (κ × D)} {xs : List (κ × V)}, KgR K W kvs xs → KgR K W (kvs.map fun kv => if kv.1 = k then (kv.1, d) else kv) (xs.map fun kv => if kv.1 = k then (kv.1, v) else kv)
  | _, _, .nil => .nil
  | p :: _, q :: _, .cons h t => by
    refine .cons ?_ (KgR.map r t)
    show (if q.1 = k then (q.1, v) else q).1 = (if p.1 = k then (p.1, d) else p).1 ∧ Rep K W (if p.1 = k then (p.1, d) else p).2 (if q.1 = k then (q.1, v) else q).2
    have hq := h.1
    by_cases hk : p.1 = k
    · rw [if_pos hk, if_pos (hq.trans hk)]; exact ⟨hq, r⟩
    · rw [if_neg hk, if_neg (by rw [hq]; exact hk)]; exact h
theorem KgR.snoc {p : κ × D} {q : κ × V} (h : q.1 = p.1 ∧ Rep K W p.2 q.2) : ∀ {kvs : List (κ × D)} {xs : List (κ × V)}, KgR K W kvs xs → KgR K W (kvs ++ [p]) (xs ++ [q])
  | _, _, .nil => .cons h .nil
  | _, _, .cons g t => .cons g (KgR.snoc h t)
theorem KgR.put {k : κ} {d : D} {v : V} {kvs : List (κ × D)} {xs : List (κ × V)} (h : KgR K W kvs xs) (r : Rep K W d v) : KgR K W (putG kvs k d) (putK xs k v) := by
  unfold putG putK
  rw [h.any]
  split
  · exact KgR.map r h
  · exact KgR.snoc ⟨rfl, r⟩ h
theorem KgR.mono {W' : Hp} (k : ∀ a o, W a = some o → W' a = some o) : ∀ {kvs : List (κ × D)} {xs : List (κ × V)}, KgR K W kvs xs → KgR K W' kvs xs
  | _, _, .nil => .nil
  | _, _, .cons h t => .cons ⟨h.1, h.2.mono k⟩ (KgR.mono k t)
theorem zip_ofG {ks : List κ} {ds : List D} {xs : List (κ × V)} (h1 : xs.map (·.1) = ks) (h2 : Reps K W ds (xs.map (·.2))) : KgR K W (ks.zip ds) xs := by
  subst h1
  induction xs generalizing ds with
  | nil => cases h2; exact .nil
  | cons p r ih =>
    rw [List.map_cons] at h2
    cases h2 with
    | cons a b => exact .cons ⟨rfl, a⟩ (ih b)
end
/-- the entries of a dict, tracked or not -/
inductive EntT (G : GHp) : D → List (List Key × D) → Prop
  | tree (ks : List (List Key)) (ds : List D) : EntT G (.dcT ks ds) (ks.zip ds)
  | ref {a : Addr} {kvs : List (List Key × D)} : G a = some (.dT kvs) → EntT G (.ref a) kvs
def entT (G : GHp) : D → Option (List (List Key × D))
  | .dcT ks ds => some (ks.zip ds)
  | .ref a => match G a with
    | some (.dT kvs) => some kvs
    | _ => none
  | _ => none
def entK (G : GHp) : D → Option (List (Key × D))
  | .dct ks ds => some (ks.zip ds)
  | .ref a => match G a with
    | some (.dK kvs) => some kvs
    | _ => none
  | _ => none
section
variable {K : PySem.W.Frag} {H : Hp} {G : GHp} {Z : Addr → Bool}
theorem entT_of {x : D} {v : V} {kvs : List (List Key × D)} (ok : Ok K H G Z) (r : Rep K (U H G Z) x v) (h : entT G x = some kvs) : ∃ a xs, v = .ref a ∧ Rd H a (.dT xs) ∧ KgR K (U H G Z) kvs xs := by
  unfold entT at h
  split at h
  · next ks ds =>
    cases h
    cases r with
    | dcT hq e rr => exact ⟨_, _, rfl, .inr ⟨_, U_le _ _ hq⟩, zip_ofG e rr⟩
  · cases r
    split at h
    · next e =>
      cases h
      obtain ⟨_, xs, hx, e1, rr⟩ := ok.ok _ _ e
      exact ⟨_, xs, rfl, .inl hx, .of e1 rr⟩
    · cases h
  · cases h
theorem entK_of {x : D} {v : V} {kvs : List (Key × D)} (ok : Ok K H G Z) (r : Rep K (U H G Z) x v) (h : entK G x = some kvs) : ∃ a xs, v = .ref a ∧ Rd H a (.dK xs) ∧ KgR K (U H G Z) kvs xs := by
  unfold entK at h
  split at h
  · next ks ds =>
    cases h
    cases r with
    | dct hq e rr => exact ⟨_, _, rfl, .inr ⟨_, U_le _ _ hq⟩, zip_ofG e rr⟩
  · cases r
    split at h
    · next e =>
      cases h
      obtain ⟨_, xs, hx, e1, rr⟩ := ok.ok _ _ e
      exact ⟨_, xs, rfl, .inl hx, .of e1 rr⟩
    · cases h
  · cases h
theorem keysOf_of {y : D} {u : V} {k : List Key} (r : Rep K (U H G Z) y u) (h : keysOf y = some k) : ∃ b, u = .ref b ∧ H b = some (.tup (k.map kV)) := by
  unfold keysOf at h
  split at h
  · cases r with
    | tup q rr =>
      split at h
      · cases h
      · next hl =>
        refine ⟨_, rfl, ?_⟩
        rw [← keys_of rr h]
        exact q.elim (fun q => U_le _ _ q) fun q => absurd (rr.length.trans q.1) hl
  · cases h
end
/-- {} to be changed, with keys of tuples -/
def dDictT : DTE := fun _ G Q => ∀ p, G p = none → Q (.ref p) (gupd G p (.dT []))
/-- d[k] -/
def dGetT : DR2 := fun x y G Q => match keysOf y, entT G x with
  | some k, some kvs => match valG kvs k with
    | some d => Q d G
    | none => False
  | _, _ => False
/-- d.get(k, x), keys of tuples or plain ones -/
def isDct (G : GHp) (x : D) : Bool := (entT G x).isSome || (entK G x).isSome
def dGet2Q (x y z : D) (G : GHp) (Q : DK) : Prop := match keysOf y with
  | some k => match entT G x with
    | some kvs => Q ((valG kvs k).getD z) G
    | none => False
  | none => match keyOf y with
    | some k => match entK G x with
      | some kvs => Q ((valG kvs k).getD z) G
      | none => False
    | none => False
def dGet2 (to ti tx : DTE) : DTE := fun δ G Q => to δ G fun x G1 => isDct G1 x = true ∧ ti δ G1 fun y G2 => tx δ G2 fun z G3 => dGet2Q x y z G3 Q
/-- d[k] = v -/
def dPutT (te to ti : DTE) : DTS := fun D δ G => te δ G fun v G1 => to δ G1 fun x G2 => ti δ G2 fun y G3 => match keysOf y with
  | some k => match x with
    | .ref a => match G3 a with
      | some (.dT kvs) => kvs.length < sizeLine ∧ D.nx δ (gupd G3 a (.dT (putG kvs k v)))
      | _ => False
    | _ => False
  | none => False
section
variable {X : Cx} {pos pos' tpos apos cpos : Pos} {o i e f : Expr} {to ti te tx : DTE} {W : WX}
theorem de_dictT : DE X (.Dict [] [] pos) dDictT :=
  PE.mono pe_dnewT fun σ H Q ⟨δ, G, Z, Q0, ok, rs, h, k⟩ => fun p hp => by
    have hg := (ok.free hp).1
    have kk : Kp H G Z (upd H p (.dT [])) (gupd G p (.dT [])) := Kp.laidG hp hg
    exact k _ _ _ _ (h p hg) kk (ok.laidG hp ⟨[], upd_same, rfl, .nil⟩) (.ref p)
theorem de_getT (hu : X.A.units + 64 < cLine) (ho : DE X o to) (hi : DE X i ti) (hs : NoSl i) : DE X (.Subscript o i pos) (dOp dGetT to ti) :=
  PE.mono (pe_dget (by omega) ho hi hs) fun σ H Q ⟨δ, G, Z, Q0, ok, rs, h, k⟩ =>
    ⟨δ, G, Z, _, ok, rs, h, fun x G1 v H1 h1 k1 ok1 r1 => ⟨δ, G1, Z, _, ok1, rs.mono k1.keep, h1, fun y G2 u H2 h2 k2 ok2 r2 => by
      have r1 := r1.mono k2.keep
      unfold dGetT at h2
      split at h2
      · next ky kvs e1 e2 =>
        obtain ⟨b, rfl, hb⟩ := keysOf_of r2 e1
        obtain ⟨a, xs, rfl, ha, rr⟩ := entT_of ok2 r1 e2
        split at h2
        · next d ed =>
          rcases rr.val (k := ky) with ⟨d', v, q1, q2, q3⟩ | ⟨q1, _⟩
          · rw [ed] at q1
            cases q1
            exact ⟨a, v, rfl, .inr ⟨xs, ky, b, ha, rfl, hb, q2.symm⟩, k _ _ _ _ h2 (k1.trans k2) ok2 q3⟩
          · rw [ed] at q1; cases q1
        · exact h2.elim
      · exact h2.elim⟩⟩
theorem de_get2 (hu : X.A.units + 64 < cLine) (ho : DE X o to) (hi : DE X e ti) (hx : DE X f tx) (m : M2 X o "get" apos e f cpos) : DE X (.Call (.Attribute o "get" apos) [e, f] [] cpos) (dGet2 to ti tx) :=
  PE.mono (pe_dget2 (by omega) ho hi hx m) fun σ H Q ⟨δ, G, Z, Q0, ok, rs, h, k⟩ =>
    ⟨δ, G, Z, _, ok, rs, h, fun x G1 v H1 h1 k1 ok1 r1 => by
      obtain ⟨hd, h1⟩ := h1
      have hv : ∃ a, v = .ref a ∧ IsD H1 a := by
        unfold isDct at hd
        cases e1 : entT G1 x with
        | some kvs =>
          obtain ⟨a, xs, rfl, ha, _⟩ := entT_of ok1 r1 e1
          exact ⟨a, rfl, .inr ⟨xs, ha⟩⟩
        | none =>
          cases e2 : entK G1 x with
          | some kvs =>
            obtain ⟨a, xs, rfl, ha, _⟩ := entK_of ok1 r1 e2
            exact ⟨a, rfl, .inl ⟨xs, ha⟩⟩
          | none => rw [e1, e2] at hd; cases hd
      obtain ⟨a, rfl, ha⟩ := hv
      refine ⟨a, rfl, ha, δ, G1, Z, _, ok1, rs.mono k1.keep, h1, fun y G2 u H2 h2 k2 ok2 r2 => ⟨δ, G2, Z, _, ok2, rs.mono (k1.trans k2).keep, h2, fun z G3 w H3 h3 k3 ok3 r3 => ?_⟩⟩
      have q1 := r1.mono (k2.trans k3).keep
      have q2 := r2.mono k3.keep
      have kk := k1.trans (k2.trans k3)
      unfold dGet2Q at h3
      split at h3
      · next ky e1 =>
        obtain ⟨b, rfl, hb⟩ := keysOf_of q2 e1
        split at h3
        · next kvs e2 =>
          obtain ⟨a', xs, ea, ha', rr⟩ := entT_of ok3 q1 e2
          cases ea
          refine ⟨valV xs ky, .inr ⟨xs, ky, b, ha', rfl, hb, rfl⟩, ?_⟩
          rcases rr.val (k := ky) with ⟨d', v', p1, p2, p3⟩ | ⟨p1, p2⟩
          · rw [p1] at h3; rw [p2]; exact k _ _ _ _ h3 kk ok3 p3
          · rw [p1] at h3; rw [p2]; exact k _ _ _ _ h3 kk ok3 r3
        · exact h3.elim
      · split at h3
        · next ky e1 =>
          have eu := key_of q2 e1
          subst eu
          split at h3
          · next kvs e2 =>
            obtain ⟨a', xs, ea, ha', rr⟩ := entK_of ok3 q1 e2
            cases ea
            refine ⟨valV xs ky, .inl ⟨xs, ky, ha', rfl, rfl⟩, ?_⟩
            rcases rr.val (k := ky) with ⟨d', v', p1, p2, p3⟩ | ⟨p1, p2⟩
            · rw [p1] at h3; rw [p2]; exact k _ _ _ _ h3 kk ok3 p3
            · rw [p1] at h3; rw [p2]; exact k _ _ _ _ h3 kk ok3 r3
          · exact h3.elim
        · exact h3.elim⟩
theorem ds_putT (hu : X.A.units + 64 < cLine) (he : DE X e te) (ho : DE X o to) (hi : DE X i ti) (hs : swapsWith e (some (.Subscript o i pos')) pos.line X.env = pure false := by rfl) :
    DS X W (.Assign [.Subscript o i pos'] e pos) (dPutT te to ti) :=
  PS.mono (ps_dput (by omega) ho hi he hs) fun E σ H ⟨δ, G, Z, D0, ok, rs, h, l⟩ =>
    ⟨δ, G, Z, _, ok, rs, h, fun v G1 v' H1 h1 k1 ok1 r1 => ⟨δ, G1, Z, _, ok1, rs.mono k1.keep, h1, fun x G2 x' H2 h2 k2 ok2 r2 => ⟨δ, G2, Z, _, ok2, rs.mono (k1.trans k2).keep, h2, fun y G3 y' H3 h3 k3 ok3 r3 => by
      have q1 := r1.mono (k2.trans k3).keep
      have q2 := r2.mono k3.keep
      have kk := k1.trans (k2.trans k3)
      split at h3
      · next ky eky =>
        obtain ⟨b, rfl, hb⟩ := keysOf_of r3 eky
        split at h3
        · cases q2
          split at h3
          · next kvs ea =>
            obtain ⟨hz, xs, hx, e1, rr⟩ := ok3.ok _ _ ea
            have hw : Kp H3 G3 Z (upd H3 _ (.dT (putK xs ky v'))) (gupd G3 _ (.dT (putG kvs ky v))) := Kp.wrote ea hz
            have hr := ((KgR.of e1 rr).put (k := ky) q1).mono hw.keep
            have hl : xs.length = kvs.length := by have := congrArg List.length e1; simpa using this
            exact ⟨_, _, rfl, .inr ⟨xs, ky, b, hx, rfl, hb, by rw [hl]; exact h3.1, rfl⟩, (l.after kk).nx _ _ _ _ h3.2 hw (ok3.wrote ea ⟨_, upd_same, hr.keys, hr.reps⟩) (rs.mono (kk.trans hw).keep)⟩
          · exact h3.elim
        · exact h3.elim
      · exact h3.elim⟩⟩⟩
end
/-! for k in d, list(d) -/
section
variable {K : PySem.W.Frag} {H : Hp} {G : GHp} {Z : Addr → Bool}
theorem plain_tup {q : Addr} {xs : List V} (ok : Ok K H G Z) (h : H q = some (.tup xs)) : U H G Z q = some (.tup xs) := by
  refine U_of ?_ ?_ h
  · cases e : G q with
    | none => rfl
    | some o =>
      obtain ⟨_, g⟩ := ok.ok q o e
      cases o with
      | lst ds => obtain ⟨_, h1, _⟩ := g; rw [h] at h1; cases h1
      | dK ds => obtain ⟨_, h1, _⟩ := g; rw [h] at h1; cases h1
      | dT ds => obtain ⟨_, h1, _⟩ := g; rw [h] at h1; cases h1
      | ins C fs => obtain ⟨_, _, h1, _⟩ := g; rw [h] at h1; cases h1
      | exo C fs => obtain ⟨_, _, _, h1, _⟩ := g; rw [h] at h1; cases h1
      | exn C => have h1 := g.2; rw [h] at h1; cases h1
  · cases e : Z q with
    | false => rfl
    | true =>
      obtain ⟨_, h1⟩ := ok.hid q e
      rw [h] at h1; cases h1
theorem reps_keys {W : Hp} : ∀ k : List Key, Reps K W (k.map keyD) (k.map kV)
  | [] => .nil
  | a :: r => .cons (rep_key a) (reps_keys r)
def keyT (k : List Key) : D := .tup (k.map keyD)
theorem rep_keyT {q : Addr} {k : List Key} (ok : Ok K H G Z) (h : H q = some (.tup (k.map kV))) : Rep K (U H G Z) (keyT k) (.ref q) := .tup (.inl (plain_tup ok h)) (reps_keys k)
theorem it_keysT {a : Addr} {o : Obj} {xs : List (List Key × V)} {ks : List (List Key)} (h : U H G Z a = some (.frz o (.dT xs))) (e : xs.map (·.1) = ks) : ItOk K (Itkt a o xs) (ks.map keyT) none H G Z := by
  subst e
  refine ⟨fun i d H' G' e k ok _ => ?_, fun H' G' k ok _ => ?_⟩
  · have h' : H' a = some (.frz o (.dT xs)) := U_le _ _ (k.keep _ _ h)
    rw [List.map_map, List.getElem?_map] at e
    cases ex : xs[i]? with
    | none => rw [ex] at e; cases e
    | some p =>
      rw [ex] at e
      cases e
      have hi := (List.getElem?_eq_some_iff.mp ex).1
      refine ⟨⟨h', hi⟩, fun x H'' hy => ?_⟩
      obtain ⟨rfl, k2, v, q, e1, rfl, hq⟩ := hy
      rw [ex] at e1; cases e1
      exact ⟨.refl, ok, rep_keyT ok hq⟩
  · exact ⟨U_le _ _ (k.keep _ _ h), by rw [List.length_map, List.length_map]; exact Nat.le_refl _⟩
theorem reps_isKeys (ok : Ok K H G Z) : ∀ {kvs : List (List Key × D)} {xs : List (List Key × V)} {bs : List Addr}, KgR K (U H G Z) kvs xs → IsKeys H xs bs → Reps K (U H G Z) (kvs.map fun kv => keyT kv.1) (bs.map V.ref)
  | _, _, _, .nil, .nil => .nil
  | p :: _, q :: _, b :: _, .cons h t, .cons g r => by
    refine .cons ?_ (reps_isKeys ok t r)
    show Rep K (U H G Z) (keyT p.1) (.ref b)
    rw [← h.1]
    exact rep_keyT ok g
end
def dKeysTI (te : DTE) : DTI := fun δ G R => te δ G fun x G1 => match x with
  | .dcT ks _ => R (ks.map keyT) none G1
  | _ => False
def dListTR (m : Bool) (x : D) (G : GHp) (Q : DK) : Prop := match entT G x with
  | some kvs => lcEnd m (kvs.map fun kv => keyT kv.1) G Q
  | none => False
section
variable {X : Cx} {tg e : Expr} {te : DTE} {W : WX} {st : Stmt} {t : DTS}
theorem di_keysT (he : DE X e te) : DI X tg e (dKeysTI te) :=
  PI.mono (pi_keys he) fun σ H R ⟨δ, G, Z, Q0, ok, rs, h, k⟩ => ⟨δ, G, Z, _, ok, rs, h, fun x G1 v H1 h1 k1 ok1 r1 => by
    cases r1 with
    | dcT hq e rr => exact ⟨_, _, rfl, .inr ⟨_, U_le _ _ hq, k _ _ _ _ _ h1 k1 ok1 fun Z' z1 z2 => it_keysT (U_ext z2 _ _ hq) e⟩⟩
    | _ => exact False.elim h1⟩
theorem dcall_listT (hc : X.calm = true) (m : Bool) : DCall X (.type "list") (dR1 (dListTR m)) :=
  dcall1 (call_list_dT hc) fun x v H G Z Q Q0 ok r h k => by
    unfold dListTR at h
    split at h
    · next kvs e =>
      obtain ⟨a, xs, rfl, ha, rr⟩ := entT_of ok r e
      exact ⟨a, xs, rfl, ha, fun p bs hp hb => lcEnd_of ok hp (reps_isKeys ok rr hb) h k⟩
    · exact h.elim
def dFrzT (t : DTS) : DTS := fun E δ G => ∃ (a : Addr) (kvs : List (List Key × D)) (G' : GHp) (δ' : DSt), G = gupd G' a (.dT kvs) ∧ G' a = none ∧ FrzSt a (.dcT (kvs.map (·.1)) (kvs.map (·.2))) δ δ' ∧ t E δ' G'
theorem ds_frzT (h : DS X W st t) : DS X W st (dFrzT t) :=
  PS.mono (ps_lockP h) fun E σ H ⟨δ, G, Z, D0, ok, rs, ⟨a, kvs, G', δ', e, ea, fs, h⟩, l⟩ => by
    subst e
    obtain ⟨hz, xs, hx, e1, rr⟩ := ok.ok a _ gupd_same
    refine ⟨a, _, hx, trivial, fun od => ?_⟩
    have k : ∀ b o, U H (gupd G' a (.dT kvs)) Z b = some o → U (upd H a (.frz od (.dT xs))) G' Z b = some o := fun b o e => by
      obtain ⟨h1, h2, h3⟩ := U_some e
      have hne : b ≠ a := fun q => by rw [q, gupd_same] at h1; cases h1
      exact U_of (by rw [gupd_ne hne] at h1; exact h1) h2 (by rw [upd_ne hne]; exact h3)
    have kk : Kp H (gupd G' a (.dT kvs)) Z (upd H a (.frz od (.dT xs))) G' := ⟨k, fun b o z e => by
      have hne : b ≠ a := fun q => by rw [q, hz] at z; cases z
      rw [upd_ne hne]; exact e⟩
    have ok' : Ok X.K (upd H a (.frz od (.dT xs))) G' Z := by
      refine ⟨fun b o e => ?_, fun b z => ?_⟩
      · have hne : b ≠ a := fun q => by rw [q, ea] at e; cases e
        obtain ⟨z, g⟩ := ok.ok b o (by rw [gupd_ne hne]; exact e)
        exact ⟨z, g.mono k (upd_ne hne)⟩
      · have hne : b ≠ a := fun q => by rw [q, hz] at z; cases z
        rw [upd_ne hne]; exact ok.hid b z
    have hr : Rep X.K (U (upd H a (.frz od (.dT xs))) G' Z) (.dcT (kvs.map (·.1)) (kvs.map (·.2))) (.ref a) := .dcT (U_of ea hz upd_same) e1 (rr.mono k)
    exact ⟨δ', G', Z, D0, ok', fs.rep k hr rs, h, l.after kk⟩
end
/-! sorted(a list of pairs of whole numbers) -/
def pairD (p : Int × Int) : D := .tup [.int p.1, .int p.2]
def pairsOf : List D → Option (List (Int × Int))
  | [] => some []
  | .tup [.int i, .int j] :: r => (pairsOf r).map ((i, j) :: ·)
  | _ :: _ => none
theorem pairsOf_map : ∀ ps : List (Int × Int), pairsOf (ps.map pairD) = some ps
  | [] => rfl
  | p :: r => by simp [pairsOf, pairD, pairsOf_map r]
theorem pairsOf_eq : ∀ {ds : List D} {ps : List (Int × Int)}, pairsOf ds = some ps → ds = ps.map pairD
  | [], ps, e => by simp [pairsOf] at e; subst e; rfl
  | d :: r, ps, e => by
    unfold pairsOf at e
    split at e
    · next h => cases h
    · next i j r' h =>
      cases h
      cases q : pairsOf r with
      | none => rw [q] at e; simp at e
      | some qs =>
        rw [q] at e
        simp at e
        subst e
        rw [List.map_cons, ← pairsOf_eq q]
        rfl
    · cases e
def dSortedP (m : Bool) (x : D) (G : GHp) (Q : DK) : Prop := match (lsOf G x).bind pairsOf with
  | some ps => ∀ qs : List (Int × Int), qs.Perm ps → qs.Pairwise (fun a b => SrtO.lexB b a = false) → lcEnd m (qs.map pairD) G Q
  | none => False
def pairAt (H : Hp) (v : V) : Int × Int := match v with
  | .ref t => match H t with
    | some (.tup [.int i, .int j]) => (i, j)
    | _ => (0, 0)
  | _ => (0, 0)
theorem pairAt_of {K : PySem.W.Frag} {H : Hp} {G : GHp} {Z : Addr → Bool} {p : Int × Int} {v : V} (r : Rep K (U H G Z) (pairD p) v) : pairAt H v = p ∧ ∃ t, v = .ref t ∧ H t = some (.tup [.int p.1, .int p.2]) := by
  cases r with
  | tup q rr =>
    cases rr with
    | cons a rr =>
      cases rr with
      | cons b rr =>
        cases rr
        cases a
        cases b
        have h := q.elim (fun q => U_le _ _ q) fun q => absurd q.1 (by decide : ¬ (2 : Nat) = 3)
        refine ⟨?_, _, rfl, h⟩
        show (match H _ with
          | some (.tup [.int i, .int j]) => (i, j)
          | _ => (0, 0)) = p
        rw [h]
theorem reps_pairs {K : PySem.W.Frag} {H : Hp} {G : GHp} {Z : Addr → Bool} : ∀ {ps : List (Int × Int)} {vs : List V}, Reps K (U H G Z) (ps.map pairD) vs → vs.map (pairAt H) = ps ∧ ∀ v ∈ vs, Rep K (U H G Z) (pairD (pairAt H v)) v ∧ ∃ t, v = .ref t ∧ H t = some (.tup [.int (pairAt H v).1, .int (pairAt H v).2])
  | [], _, .nil => ⟨rfl, fun v hv => by cases hv⟩
  | p :: r, v :: t, .cons h q => by
    obtain ⟨h1, h2⟩ := reps_pairs q
    obtain ⟨e, t0, e1, e2⟩ := pairAt_of h
    refine ⟨by rw [List.map_cons, h1, e], fun w hw => ?_⟩
    rcases List.mem_cons.mp hw with z | z
    · subst z
      rw [e]
      exact ⟨h, t0, e1, e2⟩
    · exact h2 w z
theorem reps_of_all {K : PySem.W.Frag} {W : Hp} {f : V → D} : ∀ {vs : List V}, (∀ v ∈ vs, Rep K W (f v) v) → Reps K W (vs.map f) vs
  | [], _ => .nil
  | v :: r, h => .cons (h v List.mem_cons_self) (reps_of_all fun w hw => h w (List.mem_cons_of_mem _ hw))
theorem dcall_sortedP {X : Cx} (m : Bool) : DCall X (.builtin "sorted") (dR1 (dSortedP m)) :=
  dcall1 cr_sortedPO fun x v H G Z Q Q0 ok r h k => by
    unfold dSortedP at h
    split at h
    · next ps e =>
      cases el : lsOf G x with
      | none => rw [el] at e; simp at e
      | some ds =>
        rw [el] at e
        simp only [Option.bind_some] at e
        obtain ⟨a, vs, rfl, ha, rv⟩ := lsOf_of ok r el
        rw [pairsOf_eq e] at rv
        obtain ⟨h1, h2⟩ := reps_pairs rv
        refine ⟨a, vs, pairAt H, rfl, SqL.of ha, fun w hw => (h2 w hw).2, fun ys p s1 s2 hp => ?_⟩
        have hq : (ys.map (pairAt H)).Perm ps := by rw [← h1]; exact s2.perm.map _
        have hs : (ys.map (pairAt H)).Pairwise (fun a b => SrtO.lexB b a = false) := List.pairwise_map.mpr s1
        have hr : Reps X.K (U H G Z) ((ys.map (pairAt H)).map pairD) ys := by
          rw [List.map_map]
          exact reps_of_all fun w hw => (h2 w (s2.perm.mem_iff.mp hw)).1
        exact lcEnd_of ok hp hr (h _ hq hs) k
    · exact h.elim
end DL
set_option Elab.async false
set_option linter.all false
set_option maxRecDepth 100000
set_option maxHeartbeats 2000000
/-! DL, part 28: comprehensions with two fors. -/
namespace DL
open PySem PySem.Spec L2 PyProof.Rows

/-- the inner walk -/
def dLcI (gd : Gd) (g : Tgt) (tt : DTT) (te : DTE) (δw : DSt) : List D → List D → GHp → (List D → GHp → Prop) → Prop
  | [], acc, G, N => gd.ok G ∧ N acc G
  | x :: xs, acc, G, N => gd.ok G ∧ match g.set x δw with
    | some δ' => tt δ' G fun b G1 => dIte b (te δ' G1 fun y G2 => acc.length < sizeLine ∧ dLcI gd g tt te δw xs (acc ++ [y]) G2 N) (dLcI gd g tt te δw xs acc G1 N)
    | none => False
def dLcO (m : Bool) (gd : Gd) (g : Tgt) (tt : DTT) (ti1 : DTI) (g1 : Tgt) (tt1 : DTT) (te : DTE) (vs1 : List Nat) (δw : DSt) : List D → List D → GHp → DK → Prop
  | [], acc, G, Q => gd.ok G ∧ lcEnd m acc G Q
  | x :: xs, acc, G, Q => gd.ok G ∧ match g.set x δw with
    | some δ' => tt δ' G fun b G1 => dIte b (ti1 δ' G1 fun its gd1 G2 => dLcI gd1 g1 tt1 te (dWipe δ' vs1) its acc G2 fun acc' G3 => dLcO m gd g tt ti1 g1 tt1 te vs1 δw xs acc' G3 Q) (dLcO m gd g tt ti1 g1 tt1 te vs1 δw xs acc G1 Q)
    | none => False
def dLc2 (m : Bool) (ti : DTI) (g : Tgt) (tt : DTT) (ti1 : DTI) (g1 : Tgt) (tt1 : DTT) (te : DTE) (vs vs1 : List Nat) : DTE := fun δ G Q => ti δ G fun its gd G1 => dLcO m gd g tt ti1 g1 tt1 te vs1 (dWipe δ vs) its [] G1 Q
/-- a comprehension's list on its way -/
structure LcS (K : PySem.W.Frag) (H1 : Hp) (G1 : GHp) (Z : Addr → Bool) (p : Addr) (acc : List V) (dacc : List D) (G : GHp) (H : Hp) : Prop where
  kp : Kp H1 G1 (zAt Z p) H G
  ok : Ok K H G (zAt Z p)
  at_ : H p = some (.lst acc)
  rp : Reps K (U H G (zAt Z p)) dacc acc
section
variable {K : PySem.W.Frag} {H1 H H' : Hp} {G1 G G' : GHp} {Z : Addr → Bool} {p : Addr} {acc : List V} {dacc : List D}
theorem LcS.go (s : LcS K H1 G1 Z p acc dacc G H) (k : Kp H G (zAt Z p) H' G') (ok : Ok K H' G' (zAt Z p)) : LcS K H1 G1 Z p acc dacc G' H' :=
  ⟨s.kp.trans k, ok, k.hid _ _ zAt_same s.at_, s.rp.mono k.keep⟩
theorem nzAt {a : Addr} (z : zAt Z p a = false) : a ≠ p ∧ Z a = false := by
  by_cases e : a = p
  · subst e; rw [zAt_same] at z; cases z
  · rw [zAt_ne e] at z; exact ⟨e, z⟩
theorem up_acc {xs : List V} : ∀ a o, U H G (zAt Z p) a = some o → U (upd H p (.lst xs)) G (zAt Z p) a = some o := fun a o e => by
  obtain ⟨e1, e2, e3⟩ := U_some e
  exact U_of e1 e2 (by rw [upd_ne (nzAt e2).1]; exact e3)
theorem LcS.snoc (s : LcS K H1 G1 Z p acc dacc G H) (hp : H1 p = none) {d : D} {v : V} (r : Rep K (U H G (zAt Z p)) d v) : LcS K H1 G1 Z p (acc ++ [v]) (dacc ++ [d]) G (upd H p (.lst (acc ++ [v]))) where
  kp := ⟨fun a o e => up_acc _ _ (s.kp.keep a o e), fun a o z e => by rw [upd_ne (ne_of_none e hp)]; exact s.kp.hid a o z e⟩
  ok := ⟨fun a o e => by
    obtain ⟨z, gk⟩ := s.ok.ok a o e
    exact ⟨z, gk.mono up_acc (upd_ne (nzAt z).1)⟩, fun a z => by
    by_cases e : a = p
    · subst e; exact ⟨_, upd_same⟩
    · rw [upd_ne e]; exact s.ok.hid a z⟩
  at_ := upd_same
  rp := (s.rp.mono up_acc).append (.cons (r.mono up_acc) .nil)
theorem LcS.new (ok : Ok K H1 G1 Z) (hp : H1 p = none) : LcS K H1 G1 Z p [] [] G1 (upd H1 p (.lst [])) where
  kp := ⟨fun a o e => by
    obtain ⟨e1, e2, e3⟩ := U_some e
    exact U_of e1 e2 (by rw [upd_ne (ne_of_none e3 hp)]; exact e3), fun a o z e => by rw [upd_ne (ne_of_none e hp)]; exact e⟩
  ok := ⟨fun a o e => by
    obtain ⟨z, gk⟩ := ok.ok a o e
    have ne : a ≠ p := fun q => by rw [q, (ok.free hp).1] at e; cases e
    refine ⟨by rw [zAt_ne ne]; exact z, gk.mono (fun b u eu => ?_) (upd_ne ne)⟩
    obtain ⟨e1, e2, e3⟩ := U_some eu
    have nb := ne_of_none e3 hp
    exact U_of e1 (by rw [zAt_ne nb]; exact e2) (by rw [upd_ne nb]; exact e3), fun a z => by
    by_cases e : a = p
    · subst e; exact ⟨_, upd_same⟩
    · rw [zAt_ne e] at z; rw [upd_ne e]; exact ok.hid a z⟩
  at_ := upd_same
  rp := .nil
theorem LcS.fin {m : Bool} {Q : VK} {Q0 : DK} {H0 : Hp} {G0 : GHp} (ok1 : Ok K H1 G1 Z) (hp : H1 p = none) (s : LcS K H1 G1 Z p acc dacc G H) (k1 : Kp H0 G0 Z H1 G1) (h : lcEnd m dacc G Q0)
    (k : ∀ d G' v H', Q0 d G' → Kp H0 G0 Z H' G' → Ok K H' G' Z → Rep K (U H' G' Z) d v → Q v H') : Q (.ref p) H := by
  obtain ⟨k2, ok2, hacc, racc⟩ := s
  have free := ok1.free hp
  have g2p : G p = none := by
    cases eg : G p with
    | none => rfl
    | some o => have := (ok2.ok p o eg).1; rw [zAt_same] at this; cases this
  have up : ∀ a o, U H G (zAt Z p) a = some o → U H G Z a = some o := fun a o e => by
    obtain ⟨e1, e2, e3⟩ := U_some e
    exact U_of e1 (nzAt e2).2 e3
  have kk : Kp H1 G1 Z H G := ⟨fun a o e => by
    obtain ⟨e1, e2, e3⟩ := U_some e
    exact up _ _ (k2.keep a o (U_of e1 (by rw [zAt_ne (ne_of_none e3 hp)]; exact e2) e3)), fun a o z e => k2.hid a o (by rw [zAt_ne (ne_of_none e hp)]; exact z) e⟩
  have okk : Ok K H G Z := ⟨fun a o e => by
    obtain ⟨z, gk⟩ := ok2.ok a o e
    exact ⟨(nzAt z).2, gk.mono up rfl⟩, fun a z => ok2.hid a (by unfold zAt; split <;> simp [z])⟩
  have hup : U H G Z p = some (.lst acc) := U_of g2p free.2 hacc
  cases m with
  | false => exact k _ _ _ _ h (k1.trans kk) okk (.lst hup (racc.mono up))
  | true =>
    have h3 := h p g2p
    have nop : ∀ a o, U H G (zAt Z p) a = some o → U H (gupd G p (.lst dacc)) Z a = some o := fun a o e => by
      obtain ⟨e1, e2, e3⟩ := U_some e
      obtain ⟨n1, n2⟩ := nzAt e2
      exact U_of (by rw [gupd_ne n1]; exact e1) n2 e3
    have k3 : Kp H1 G1 Z H (gupd G p (.lst dacc)) := ⟨fun a o e => by
      obtain ⟨e1, e2, e3⟩ := U_some e
      exact nop _ _ (k2.keep a o (U_of e1 (by rw [zAt_ne (ne_of_none e3 hp)]; exact e2) e3)), kk.hid⟩
    refine k _ _ _ _ h3 (k1.trans k3) ⟨fun a o e => ?_, okk.hid⟩ (.ref p)
    by_cases ea : a = p
    · subst ea
      rw [gupd_same] at e; cases e
      exact ⟨free.2, acc, hacc, racc.mono nop⟩
    · rw [gupd_ne ea] at e
      obtain ⟨z, gk⟩ := ok2.ok a o e
      exact ⟨(nzAt z).2, gk.mono nop rfl⟩
end
theorem lc2_split {K : PySem.W.Frag} {m : Bool} {ti ti1 : DTI} {g g1 : Tgt} {tt tt1 : DTT} {te : DTE} {vs vs1 : List Nat} {σ : L2.St} {H : Hp} {Q : VK} (hs : ∀ i ∈ g.slots, i ∈ vs) (hs1 : ∀ i ∈ g1.slots, i ∈ vs1) (h : cE K (dLc2 m ti g tt ti1 g1 tt1 te vs vs1) σ H Q) :
    tLc2 (cI K ti) (g.tg K) (cT K tt) (cI K ti1) (g1.tg K) (cT K tt1) (cE K te) vs vs1 σ H Q := by
  obtain ⟨δ, G, Z, Q0, ok, rs, h, k⟩ := h
  refine ⟨δ, G, Z, _, ok, rs, h, fun its gd G1 J H1 q k1 ok1 it p hp => ?_⟩
  have it := it (zAt Z p) (fun a z => by by_cases e : a = p <;> simp [zAt, e, z]) (fun a z => zAt_ne (fun e => z (by rw [e]; exact hp)))
  have rsw : RepSt K (U H1 G1 (zAt Z p)) (dWipe δ vs) (wipe σ vs) := ((rs.mono k1.keep).mono (fun a o e => by
    obtain ⟨e1, e2, e3⟩ := U_some e
    exact U_of e1 (by rw [zAt_ne (ne_of_none e3 hp)]; exact e2) e3)).wipe vs
  refine ⟨fun i n H2 => ∃ acc dacc G2, n + i = its.length ∧ LcS K H1 G1 Z p acc dacc G2 H2 ∧ dLcO m gd g tt ti1 g1 tt1 te vs1 (dWipe δ vs) (its.drop i) dacc G2 Q0,
    ⟨its.length, [], [], G1, rfl, .new ok1 hp, q⟩, ?_⟩
  rintro i n H2 ⟨acc, dacc, G2, hn, S, h2⟩
  cases e : its.drop i with
  | nil =>
    left
    rw [e] at h2
    have hi : its.length ≤ i := by
      have := congrArg List.length e
      simp at this
      omega
    have hil : i = its.length := by omega
    subst hil
    exact ⟨it.stop _ _ S.kp.q S.ok h2.1, S.fin ok1 hp k1 h2.2 k⟩
  | cons x r =>
    right
    rw [e] at h2
    obtain ⟨ex, er⟩ := List.drop_cons_of e
    obtain ⟨hgo, hy⟩ := it.go i x _ _ ex S.kp.q S.ok h2.1
    have hlt : i < its.length := by
      have := congrArg List.length e
      simp at this
      omega
    refine ⟨hgo, fun H' => ∃ n', n' < n ∧ ∃ acc dacc G2, n' + (i + 1) = its.length ∧ LcS K H1 G1 Z p acc dacc G2 H' ∧ dLcO m gd g tt ti1 g1 tt1 te vs1 (dWipe δ vs) (its.drop (i + 1)) dacc G2 Q0, fun _ z => z, fun v H3 y => ?_⟩
    obtain ⟨k3, ok3, r3⟩ := hy v H3 y
    have S3 := S.go k3 ok3
    have h3 := h2.2
    split at h3
    · next δ' es =>
      refine g.run U_le r3 (rsw.mono S3.kp.keep) es fun σ' rs' hw => ⟨(hw vs hs).trans (wipe_sub fun _ z => z), ?_⟩
      refine ⟨δ', G2, zAt Z p, _, ok3, rs', h3, fun b G4 H4 q4 k4 ok4 => ?_⟩
      have S4 := S3.go k4 ok4
      have rs4 := rs'.mono k4.keep
      cases b with
      | false =>
        have q4 := dIte_f q4
        exact iteF ⟨n - 1, by omega, acc, dacc, G4, by omega, S4, by rw [er]; exact q4⟩
      | true =>
        have q4 := dIte_t q4
        refine iteT ⟨δ', G4, zAt Z p, _, ok4, rs4, q4, fun its1 gd1 G5 J1 H5 q5 k5 ok5 it1 => ?_⟩
        have it1 := it1 (zAt Z p) (fun _ z => z) (fun _ _ => rfl)
        have S5 := S4.go k5 ok5
        have rs5 := (rs4.mono k5.keep).wipe vs1
        refine ⟨fun j kk H6 => ∃ acc dacc G6, kk + j = its1.length ∧ LcS K H1 G1 Z p acc dacc G6 H6 ∧ Kq H5 G5 (zAt Z p) H6 G6 ∧ dLcI gd1 g1 tt1 te (dWipe δ' vs1) (its1.drop j) dacc G6 fun acc' G3 => dLcO m gd g tt ti1 g1 tt1 te vs1 (dWipe δ vs) r acc' G3 Q0,
          ⟨its1.length, acc, dacc, G5, rfl, S5, ⟨fun _ _ z => z⟩, q5⟩, ?_⟩
        rintro j kk H6 ⟨acc6, dacc6, G6, hn6, S6, kq6, h6⟩
        cases e6 : its1.drop j with
        | nil =>
          left
          rw [e6] at h6
          have hj : its1.length ≤ j := by
            have := congrArg List.length e6
            simp at this
            omega
          have hjl : j = its1.length := by omega
          subst hjl
          exact ⟨it1.stop _ _ kq6 S6.ok h6.1, n - 1, by omega, acc6, dacc6, G6, by omega, S6, by rw [er]; exact h6.2⟩
        | cons x6 r6 =>
          right
          rw [e6] at h6
          obtain ⟨ex6, er6⟩ := List.drop_cons_of e6
          obtain ⟨hgo6, hy6⟩ := it1.go j x6 _ _ ex6 kq6 S6.ok h6.1
          have hlt6 : j < its1.length := by
            have := congrArg List.length e6
            simp at this
            omega
          refine ⟨hgo6, fun H' => ∃ k', k' < kk ∧ ∃ acc dacc G6, k' + (j + 1) = its1.length ∧ LcS K H1 G1 Z p acc dacc G6 H' ∧ Kq H5 G5 (zAt Z p) H' G6 ∧ dLcI gd1 g1 tt1 te (dWipe δ' vs1) (its1.drop (j + 1)) dacc G6 fun acc' G3 => dLcO m gd g tt ti1 g1 tt1 te vs1 (dWipe δ vs) r acc' G3 Q0, fun _ z => z, fun v7 H7 y7 => ?_⟩
          obtain ⟨k7, ok7, r7⟩ := hy6 v7 H7 y7
          have S7 := S6.go k7 ok7
          have kq7 : Kq H5 G5 (zAt Z p) H7 G6 := ⟨fun a o z => k7.keep a o (kq6.keep a o z)⟩
          have h7 := h6.2
          split at h7
          · next δ7 es7 =>
            refine g1.run U_le r7 (rs5.mono kq7.keep) es7 fun σ7 rs7 hw7 => ⟨(hw7 vs1 hs1).trans (wipe_sub fun _ z => z), ?_⟩
            refine ⟨δ7, G6, zAt Z p, _, ok7, rs7, h7, fun b8 G8 H8 q8 k8 ok8 => ?_⟩
            have S8 := S7.go k8 ok8
            have kq8 : Kq H5 G5 (zAt Z p) H8 G8 := ⟨fun a o z => k8.keep a o (kq7.keep a o z)⟩
            cases b8 with
            | false =>
              have q8 := dIte_f q8
              exact iteF ⟨kk - 1, by omega, acc6, dacc6, G8, by omega, S8, kq8, by rw [er6]; exact q8⟩
            | true =>
              have q8 := dIte_t q8
              refine iteT ⟨δ7, G8, zAt Z p, _, ok8, rs7.mono k8.keep, q8, fun yd G9 yv H9 q9 k9 ok9 r9 => ?_⟩
              have S9 := S8.go k9 ok9
              have kq9 : Kq H5 G5 (zAt Z p) H9 G9 := ⟨fun a o z => k9.keep a o (kq8.keep a o z)⟩
              exact ⟨acc6, S9.at_, by rw [← S9.rp.length]; exact q9.1, kk - 1, by omega, acc6 ++ [yv], dacc6 ++ [yd], G9, by omega, S9.snoc hp r9, ⟨fun a o z => up_acc _ _ (kq9.keep a o z)⟩, by rw [er6]; exact q9.2⟩
          · exact h7.elim
    · exact h3.elim
section
variable {X : Cx} {W : WX}
theorem de_lc2 (m : Bool) {elt tg iter tg1 iter1 : Expr} {ifs ifs1 : List Expr} {scope : Scope} {own : List (Str × Nat)} {vs1 : List Nat} {pos : Pos} {ti ti1 : DTI} {g g1 : Tgt} {tt tt1 : DTT} {te : DTE} (hc : X.calm = true) (hN : X.N.Nodup) (hi : DI X tg iter ti) (ok : BlkOk X.N X.env.scope scope own) (hv : ∀ i ∈ vs1, i ∈ own.map (·.2))
    (hg : ∀ (s : Shared) (H : Hp) (C : Addr) (cl : List (Str × Addr)) (fp : List Addr), PG (X.blk s H scope (compEnvC scope cl C X.env) fp) tg (g.tg X.K)) (ht : ∀ (s : Shared) (H : Hp) (C : Addr) (cl : List (Str × Addr)) (fp : List Addr), DTs (X.blk s H scope (compEnvC scope cl C X.env) fp) ifs tt)
    (hi1 : ∀ (s : Shared) (H : Hp) (C : Addr) (cl : List (Str × Addr)) (fp : List Addr), DI (X.blk s H scope (compEnvC scope cl C X.env) fp) tg1 iter1 ti1)
    (hg1 : ∀ (s : Shared) (H : Hp) (C : Addr) (cl : List (Str × Addr)) (fp : List Addr), PG (X.blk s H scope (compEnvC scope cl C X.env) fp) tg1 (g1.tg X.K)) (ht1 : ∀ (s : Shared) (H : Hp) (C : Addr) (cl : List (Str × Addr)) (fp : List Addr), DTs (X.blk s H scope (compEnvC scope cl C X.env) fp) ifs1 tt1)
    (he : ∀ (s : Shared) (H : Hp) (C : Addr) (cl : List (Str × Addr)) (fp : List Addr), DE (X.blk s H scope (compEnvC scope cl C X.env) fp) elt te) (hsl : ∀ i ∈ g.slots, i ∈ own.map (·.2)) (hsl1 : ∀ i ∈ g1.slots, i ∈ vs1) (hs : ∀ x, foldedSetIterable iter X.env x = pure x := by intro _; rfl) (hs1 : ∀ env x, foldedSetIterable iter1 env x = pure x := by intro _ _; rfl) :
    DE X (.ListComp elt [⟨tg, iter, ifs, 0⟩, ⟨tg1, iter1, ifs1, 0⟩] scope pos) (dLc2 m ti g tt ti1 g1 tt1 te (own.map (·.2)) vs1) :=
  PE.mono (pe_lc2 (wi1 := cI X.K ti1) (tt := cT X.K tt) (tt1 := cT X.K tt1) (te := cE X.K te) hc hN hi ok hv hg ht hi1 hg1 ht1 he hs hs1) fun σ H Q h => lc2_split hsl hsl1 h
end
/-! zip of two tuples -/
def dZipT (ta tb : DTE) : DTI := fun δ G R => ta δ G fun x G1 => tb δ G1 fun y G2 => ∃ as bs, x = .tup as ∧ y = .tup bs ∧ R (zipD as bs) none G2
section
variable {X : Cx} {tg e e2 : Expr} {te tb : DTE} {p pos tpos : Pos} {elts : List Expr} {kk : Nat}
theorem di_zipT (hg : Gl X "zip") (hm : X.mg "zip" = none) (he : DE X e te) (he2 : DE X e2 tb)
    (hs : starEach [e, e2] X.env = (false, eval e X.env) :: starEach [e2] X.env := by rfl) (hs2 : starEach [e2] X.env = (false, eval e2 X.env) :: starEach [] X.env := by rfl) (hpl : (backTo pos (starEach [e2] X.env)).any (·.1) = false := by rfl) :
    DI X (.Tuple elts kk tpos) (.Call (.Name "zip" p) [e, e2] [] pos) (dZipT te tb) :=
  PI.mono (RZ.pi_zipA hg hm (pa_cons he (pa_cons he2 pa_nil hs2) hs) hs hpl) fun σ H R ⟨δ, G, Z, Q0, ok, rs, h, k⟩ =>
    ⟨δ, G, Z, _, ok, rs, h, fun x G1 v H1 h1 k1 ok1 r1 => ⟨δ, G1, Z, _, ok1, rs.mono k1.keep, h1, fun y G2 u H2 h2 k2 ok2 r2 => by
      have r1 := r1.mono k2.keep
      obtain ⟨as, bs, rfl, rfl, h2⟩ := h2
      cases r1 with
        | @tup a xs _ qa ra =>
          cases r2 with
          | @tup b ys _ qb rb =>
            refine ⟨a, b, xs, ys, rfl, .inr ⟨TupAt.sq U_le qa, TupAt.sq U_le qb, k _ _ _ _ _ h2 (k1.trans k2) ok2 fun Z' z1 z2 => ?_⟩⟩
            have qa' := TupAt.mono (U_ext z2) qa
            have qb' := TupAt.mono (U_ext z2) qb
            have ra' := ra.mono (U_ext z2)
            have rb' := rb.mono (U_ext z2)
            refine ⟨fun i d H' G' e k ok gd => ?_, fun H' G' k ok gd => ?_⟩
            · have ha : SqT X.K H' a xs := TupAt.sq (fun _ _ z => U_le _ _ (k.keep _ _ z)) qa'
              have hb : SqT X.K H' b ys := TupAt.sq (fun _ _ z => U_le _ _ (k.keep _ _ z)) qb'
              obtain ⟨dx, dy, ex, ey, rfl⟩ := zipD_get e
              obtain ⟨v, e1, rv⟩ := (ra'.mono k.keep).get ex
              obtain ⟨w, e2, rw'⟩ := (rb'.mono k.keep).get ey
              refine ⟨⟨xs, ys, v, w, ha, hb, e1, e2⟩, fun x H'' hy => ?_⟩
              obtain ⟨T, x', y', rfl, hT, rfl, hx, hy⟩ := hy
              have q1 := hx xs ha
              rw [e1] at q1; cases q1
              have q2 := hy ys hb
              rw [e2] at q2; cases q2
              have kl : Kp H' G' Z' (upd H' T (.tup [v, w])) G' := Kp.laid hT
              exact ⟨kl, ok.laid hT, .tup (.inl (U_laid ok hT)) (.cons (rv.mono kl.keep) (.cons (rw'.mono kl.keep) .nil))⟩
            · refine ⟨xs, ys, TupAt.sq (fun _ _ z => U_le _ _ (k.keep _ _ z)) qa', TupAt.sq (fun _ _ z => U_le _ _ (k.keep _ _ z)) qb', ?_⟩
              rw [zipD_length, ra.length, rb.length]
              omega⟩⟩
end
end DL
set_option Elab.async false
set_option linter.all false
set_option maxRecDepth 100000
set_option maxHeartbeats 1000000
/-! DL, part 29: a, *b = tuple; x in a tuple of the module; dicts of the module with text keys; calls of what a slot holds; dicts written out; range with a step; split; None in a list. -/
namespace DL
open PySem PySem.Spec L2 PyProof.Rows

/-! a, *b = a tuple -/
theorem star_tup {prog : Program} {w : World} {A : Around} {E : Value → Shared → Prop} {s : Shared} {l : Addr} {items : Array Value} {x : Value} {r : List Value} {Q : List Value → Shared → Prop} (hl : IsTup s.heap l items) (hh : A.handled = none) (hz : items.size ≤ 16384) (e : items.toList = x :: r)
    (h : ∀ (h' : Heap) (tk : Nat), (∀ b o, s.heap.get? b = some o → h'.get? b = some o) → Q [x, .ref h'.objs.size] { s with heap := h'.push { cls := .type "list", data := .seq r.toArray }, toks := tk }) :
    wpAny (model prog w) A (unpackItems (.ref l) 2 (some 1)) Q E s := by
  have hsz : items.size = r.length + 1 := by rw [← Array.length_toList, e, List.length_cons]
  have hlt : l ≠ s.heap.objs.size := by obtain ⟨o, ho, _⟩ := hl; exact Nat.ne_of_lt (Heap.lt_size ho)
  unfold unpackItems
  refine wpAny_bind ?_
  unfold notIterableAtAll
  refine wpAny_bind (wpAny_specialOf hl.typeIs slot_tuple_iter.lookup ?_)
  refine wpAny_pure ?_
  simp only [Bool.false_eq_true, if_false]
  refine wpAny_bind (wpAny_holding (iter_tuple hl ?_))
  refine wpAny_bind (wpAny_holding (draw_tuple hlt 1 0 _ _ ⟨_, Heap.get?_push_size _ rfl, rfl, rfl⟩ (hl.push _) (by omega) fun h₁ hit₁ hs₁ => ?_))
  have hl₁ : IsTup h₁ l items := (hl.push _).extBut hs₁.extBut hlt
  rw [Nat.zero_add] at hit₁
  have hit₁' := hit₁
  obtain ⟨oi, hoi, _⟩ := hit₁'
  have hl₁' := hl₁
  obtain ⟨ol, hol, _⟩ := hl₁'
  rw [List.drop_zero]
  have hfl : (items.toList.take 1).length = 1 := by rw [List.length_take, Array.length_toList]; omega
  rw [if_neg (show ¬ ((items.toList.take 1).length < 1) by rw [hfl]; omega)]
  refine wpAny_bind (wpAny_holding (PySem.W.kun_collect (s := { s with heap := h₁ }) (T := "tuple_iterator") (.inr (.inr (.inr rfl))) (Walks.tuple (A := A.in1) hh s.heap.objs.size l hlt items) (fun j u st => st.1.typeIs) (k := 1) (by omega) ⟨hit₁, hl₁⟩ (Heap.lt_size hoi) (Heap.lt_size hol) (fun h₂ tk hk => ?_) (by rw [sizeLine_eq]; omega)))
  have e1 : items.toList.drop 1 = r := by rw [e]; rfl
  have e2 : items.toList.take 1 = [x] := by rw [e]; rfl
  rw [e1, e2]
  show wpAny _ _ (if r.length < 2 - 1 - 1 then _ else _) _ _ _
  rw [if_neg (by omega)]
  show wpAny _ _ (newList (r.take (r.length - (2 - 1 - 1))) >>= fun d => pure ([x] ++ [d] ++ r.drop (r.length - (2 - 1 - 1)))) _ _ _
  rw [show r.length - (2 - 1 - 1) = r.length by omega, List.take_length, List.drop_length]
  have he : ∀ b o, s.heap.get? b = some o → h₂.get? b = some o := fun b o q => by
    have hb : b ≠ s.heap.objs.size := Nat.ne_of_lt (Heap.lt_size q)
    exact hk b o hb (hs₁.extBut b o hb (Heap.get?_push_of_some _ q))
  refine wpAny_bind (wpAny_newList ?_ (by rw [sizeLine_eq]; omega))
  exact wpAny_pure (h h₂ tk he)
def gStar (K : PySem.W.Frag) (t1 t2 : TG) : TG := fun v σ H Q => ∃ a x xs, v = .ref a ∧ SqT K H a (x :: xs) ∧ xs.length ≤ 10000 ∧ ∀ d, H d = none → t1 x σ (upd H d (.lst xs)) fun σ1 H1 => t2 (.ref d) σ1 H1 Q
section
variable {X : Cx} {pos p2 : Pos} {k : Nat} {e1 e2 : Expr} {t1 t2 : TG}
theorem pg_star (hc : X.calm = true) (h1 : PG X e1 t1) (h2 : PG X e2 t2) (hs : assignEach [e1, .Starred e2 p2] X.env = [(false, assign e1 X.env), (true, assign e2 X.env)] := by rfl) :
    PG X (.Tuple [e1, .Starred e2 p2] k pos) (gStar X.K t1 t2) := by
  refine ⟨fun pins s σ H v u Q I r hw => ?_⟩
  obtain ⟨a, x, xs, rfl, hq, hl, hw⟩ := hw
  cases r
  obtain ⟨its, rv, ht, hz⟩ := I.tuple hq
  cases rv with
  | @cons _ x' _ its' rx rv =>
    rw [assign_Tuple]
    refine wpAny_bind (wpAny_standAt ?_)
    unfold unpack
    rw [hs]
    show wpAny _ _ (assignInOrder [assign e1 X.env, assign e2 X.env] =<< _) _ _ _
    have hl2 : its'.length = xs.length := rv.length.symm
    refine wpAny_bind (wpAny_holding (star_tup (x := x') (r := its') ht (I.ok.hd hc) (by simp; omega) (by simp) fun h' tk hk => ?_))
    have I1 : Inv X pins σ H { s with heap := h', toks := tk } := I.kept (t' := tk) hk
    have hf : H h'.objs.size = none := I1.hok.fresh (Nat.le_refl _)
    have I2 : Inv X pins σ (upd H h'.objs.size (.lst xs)) { s with heap := h'.push { cls := .type "list", data := .seq its'.toArray }, toks := tk } :=
      I1.laid (t' := tk) (fun b u q => Heap.get?_push_of_some _ q) (Nat.le_refl _) ⟨by rw [sizeLine_eq]; omega, its', 0, rv, Heap.get?_push_size _ rfl⟩
    refine assignInOrder_cons (thn (h1.run pins _ σ _ _ _ _ I2 rx (hw _ hf)) fun _ s1 ⟨σ1, H1, I3, q1⟩ => ?_)
    refine assignInOrder_cons (thn (h2.run pins s1 σ1 H1 (.ref h'.objs.size) _ _ I3 rfl q1) fun _ s2 ⟨σ2, H2, I4, q2⟩ => ?_)
    exact assignInOrder_nil ⟨σ2, H2, I4, q2⟩
end
/-- name, *name = a tuple -/
def dStar (i j : Nat) (te : DTE) : DTS := fun D δ G => te δ G fun x G1 => match x with
  | .tup (d :: ds) => ds.length ≤ 10000 ∧ D.nx ((δ.set i (some d)).set j (some (.lst ds))) G1
  | _ => False
section
variable {X : Cx} {W : WX} {pos p1 p2 p3 p4 : Pos} {k : Nat} {e : Expr} {te : DTE} {i j : Nat} {x y : Str}
theorem ds_star (hc : X.calm = true) (hN : X.N.Nodup) (hi : X.N[i]? = some x) (hx : Loc X.env.scope x) (hj : X.N[j]? = some y) (hy : Loc X.env.scope y) (he : DE X e te)
    (hfx : X.fn x = true ∨ X.env.scope.names.lookup x = some .local := by first | exact .inl rfl | exact .inr rfl) (hfy : X.fn y = true ∨ X.env.scope.names.lookup y = some .local := by first | exact .inl rfl | exact .inr rfl)
    (hs : swapsWithSole [.Tuple [.Name x p1, .Starred (.Name y p2) p3] k p4] e pos.line X.env = pure false := by rfl) (hw : swappedStores [.Tuple [.Name x p1, .Starred (.Name y p2) p3] k p4] e X.env = pure none := by rfl) :
    DS X W (.Assign [.Tuple [.Name x p1, .Starred (.Name y p2) p3] k p4] e pos) (dStar i j te) :=
  PS.mono (ps_asg he (pg_star hc (pg_name hN hi hx hfx) (pg_name hN hj hy hfy)) hs hw) fun E σ H ⟨δ, G, Z, D0, ok, rs, h, l⟩ =>
    ⟨δ, G, Z, _, ok, rs, h, fun v G1 v' H1 h1 k1 ok1 r1 => by
      split at h1
      · next d ds =>
        cases r1 with
        | tup q rr =>
          cases rr with
          | @cons _ v0 _ vs rd rr =>
            refine ⟨_, _, _, rfl, TupAt.sq U_le q, by rw [← rr.length]; exact h1.1, fun b hb => ?_⟩
            have kk : Kp H G Z (upd H1 b (.lst vs)) G1 := k1.trans (Kp.laid hb)
            refine l.nx _ _ _ _ h1.2 kk (ok1.laid hb) ?_
            exact ((rs.mono kk.keep).set (rd.mono (Kp.laid hb).keep) i).set (.lst (U_laid ok1 hb) (rr.mono (Kp.laid hb).keep)) j
      · exact h1.elim⟩
end

/-! x in a tuple of the module (of texts) -/
structure GTup (K : PySem.W.Frag) (mg : Str → Option Value) (x : Str) (vs : List Str) : Prop where
  m : mg x = some (.ref (He.ga K x))
  t : ∀ H, SqT K H (He.ga K x) (vs.map V.str)
def dInS (vs : List Str) (te : DTE) : DTE := fun δ G Q => te δ G fun x G1 => match x with
  | .str s => Q (.bl (decide (s ∈ vs))) G1
  | _ => False
theorem flat_strs : ∀ vs : List Str, (vs.map V.str).all flatV = true
  | [] => rfl
  | v :: r => by
    rw [List.map_cons, List.all_cons, flat_strs r]; rfl
theorem inV_strs (s : Str) : ∀ vs : List Str, inV (.str s) (vs.map V.str) = decide (s ∈ vs)
  | [] => by simp [inV]
  | v :: r => by
    have ih := inV_strs s r
    unfold inV at ih ⊢
    rw [List.map_cons, List.any_cons, ih]
    have e : eqV (.str v) (.str s) = decide (s = v) := by
      show decide (v = s) = decide (s = v)
      exact decide_eq_decide.mpr eq_comm
    rw [e, Bool.eq_iff_iff]
    simp [List.mem_cons]
section
variable {X : Cx} {x : Str} {vs : List Str} {e : Expr} {te : DTE} {p pos : Pos}
theorem inS_split {σ : L2.St} {H : Hp} {Q : VK} (T : GTup X.K X.mg x vs) (h : cE X.K (dInS vs te) σ H Q) : tOp (rIn X.K false) (cE X.K te) (tC (.ref (He.ga X.K x))) σ H Q := by
  obtain ⟨δ, G, Z, Q0, ok, rs, h, k⟩ := h
  refine ⟨δ, G, Z, _, ok, rs, h, fun y G1 v H1 h1 k1 ok1 r1 => ?_⟩
  cases r1 with
  | str s => exact ⟨_, _, rfl, .inr (T.t H1), rfl, flat_strs vs, by rw [if_neg (by decide), inV_strs]; exact k _ _ _ _ h1 k1 ok1 (.bl _)⟩
  | _ => exact False.elim h1
theorem de_inS (T : GTup X.K X.mg x vs) (hg : Gl X x) (he : DE X e te) (hm : behindInMarks .In (.Name x p) = false := by rfl) (hd : (x == ("__debug__" : Str)) = false := by decide) : DE X (.Compare e [.In] [.Name x p] pos) (dInS vs te) :=
  PE.mono (pe_cmpR op_in_seq he (pe_glob (v := .ref (He.ga X.K x)) hg T.m rfl hd) hm) fun _ _ _ h => inS_split T h
theorem dt_inS (T : GTup X.K X.mg x vs) (hg : Gl X x) (he : DE X e te) (hm : behindInMarks .In (.Name x p) = false := by rfl) (hd : (x == ("__debug__" : Str)) = false := by decide) : DT X (.Compare e [.In] [.Name x p] pos) (dTestB (dInS vs te)) :=
  PT.mono (pt_cmpR op_in_seq he (pe_glob (v := .ref (He.ga X.K x)) hg T.m rfl hd) hm) fun _ _ _ h => test_split (fun _ h => inS_split T h) h
end
/-! dicts of the module with text keys -/
def dvD (K : PySem.W.Frag) : He.Dv → D
  | .int i => .int i
  | .str x => .str x
  | .bl b => .bl b
  | .non => .non
  | .glo x => .ref (He.ga K x)
  | .adr q => .ref (q K)
  | _ => .scr []
def dvOk : He.Dv → Bool
  | .int _ | .str _ | .bl _ | .non | .glo _ | .adr _ => true
  | _ => false
theorem dv_rep {K : PySem.W.Frag} {W : Hp} : ∀ {d : He.Dv}, dvOk d = true → Rep K W (dvD K d) (d.v K)
  | .int i, _ => .int i
  | .str x, _ => .str x
  | .bl b, _ => .bl b
  | .non, _ => .non
  | .glo x, _ => .ref _
  | .adr q, _ => .ref _
  | .byt _, h => by cases h
  | .flt _, h => by cases h
  | .ty _, h => by cases h
structure GDic (K : PySem.W.Frag) (w : World) (mg : Str → Option Value) (x : Str) (kvs : List (Str × He.Dv)) : Prop where
  m : mg x = some (.ref (He.ga K x))
  kd : ∃ es n, KDict K w (He.ga K x) es n
  has : ∀ z, ∃ r, PySem.W.nsIn K (He.ga K x) z = some r ∧ r.isSome = decide (z ∈ kvs.map (·.1))
  val : ∀ q ∈ kvs, ∃ u, PySem.W.nsIn K (He.ga K x) q.1 = some (some u) ∧ RelV (q.2.v K) u
  good : ∀ q ∈ kvs, dvOk q.2 = true
def dGetG (kvs : List (Str × D)) (te : DTE) : DTE := fun δ G Q => te δ G fun x G1 => ∃ s d, x = .str s ∧ (s, d) ∈ kvs ∧ Q d G1
section
variable {X : Cx} {x : Str} {kvs : List (Str × He.Dv)} {e : Expr} {te : DTE} {p pos : Pos}
theorem inG_split {σ : L2.St} {H : Hp} {Q : VK} (T : GDic X.K X.w X.mg x kvs) (h : cE X.K (dInS (kvs.map (·.1)) te) σ H Q) : tOp (fun x' y H Q => ∃ (z : Str) (r : Option Value), x' = .str z ∧ y = .ref (He.ga X.K x) ∧ PySem.W.nsIn X.K (He.ga X.K x) z = some r ∧ Q (.bl r.isSome) H) (cE X.K te) (tC (.ref (He.ga X.K x))) σ H Q := by
  obtain ⟨δ, G, Z, Q0, ok, rs, h, k⟩ := h
  refine ⟨δ, G, Z, _, ok, rs, h, fun y G1 v H1 h1 k1 ok1 r1 => ?_⟩
  cases r1 with
  | str s =>
    obtain ⟨r, e1, e2⟩ := T.has s
    exact ⟨s, r, rfl, rfl, e1, by rw [e2]; exact k _ _ _ _ h1 k1 ok1 (.bl _)⟩
  | _ => exact False.elim h1
theorem de_inG {ks : List Str} (T : GDic X.K X.w X.mg x kvs) (hg : Gl X x) (he : DE X e te) (hk : kvs.map (·.1) = ks := by rfl) (hm : behindInMarks .In (.Name x p) = false := by rfl) (hd : (x == ("__debug__" : Str)) = false := by decide) : DE X (.Compare e [.In] [.Name x p] pos) (dInS ks te) := by
  subst hk
  obtain ⟨es, n, D⟩ := T.kd
  exact PE.mono (pe_cmpR (op_in_kd D) he (pe_glob (v := .ref (He.ga X.K x)) hg T.m rfl hd) hm) fun _ _ _ h => inG_split T h
theorem dt_inG {ks : List Str} (T : GDic X.K X.w X.mg x kvs) (hg : Gl X x) (he : DE X e te) (hk : kvs.map (·.1) = ks := by rfl) (hm : behindInMarks .In (.Name x p) = false := by rfl) (hd : (x == ("__debug__" : Str)) = false := by decide) : DT X (.Compare e [.In] [.Name x p] pos) (dTestB (dInS ks te)) := by
  subst hk
  obtain ⟨es, n, D⟩ := T.kd
  exact PT.mono (pt_cmpR (op_in_kd D) he (pe_glob (v := .ref (He.ga X.K x)) hg T.m rfl hd) hm) fun _ _ _ h => test_split (fun _ h => inG_split T h) h
end

section
variable {X : Cx} {x : Str} {kvs : List (Str × He.Dv)} {e o : Expr} {te : DTE} {p pos : Pos}
theorem getG_split {σ : L2.St} {H : Hp} {Q : VK} (T : GDic X.K X.w X.mg x kvs) (h : cE X.K (dGetG (kvs.map fun q => (q.1, dvD X.K q.2)) te) σ H Q) : tOp (rIxD X.K X.w) (tC (.ref (He.ga X.K x))) (cE X.K te) σ H Q := by
  obtain ⟨δ, G, Z, Q0, ok, rs, h, k⟩ := h
  refine ⟨δ, G, Z, _, ok, rs, h, fun y G1 v H1 h1 k1 ok1 r1 => ?_⟩
  obtain ⟨s, d, rfl, hm, h1⟩ := h1
  cases r1
  obtain ⟨q, hq, e⟩ := List.mem_map.mp hm
  cases e
  obtain ⟨u, e1, e2⟩ := T.val q hq
  obtain ⟨es, n, D⟩ := T.kd
  exact ⟨_, q.1, q.2.v X.K, rfl, rfl, ⟨es, n, u, D.at_, D.lit, e1, e2⟩, k _ _ _ _ h1 k1 ok1 (dv_rep (T.good q hq))⟩
theorem de_getG {kd : List (Str × D)} (T : GDic X.K X.w X.mg x kvs) (hg : Gl X x) (he : DE X e te) (hs : PlainIx e) (hk : kvs.map (fun q => (q.1, dvD X.K q.2)) = kd := by rfl) (hd : (x == ("__debug__" : Str)) = false := by decide) : DE X (.Subscript (.Name x p) e pos) (dGetG kd te) := by
  subst hk
  exact PE.mono (pe_ix ix_kdict (pe_glob (v := .ref (He.ga X.K x)) hg T.m rfl hd) he hs) fun _ _ _ h => getG_split T h
end
/-! a call of what a slot holds -/
def dCallH (i : Nat) (tab : List (Addr × DSp)) (t : DTA) : DTE := fun δ G Q => ∃ a sp, δ[i]? = some (some (.ref a)) ∧ (a, sp) ∈ tab ∧ t δ G fun ds G1 => sp ds G1 Q DX0
section
variable {X : Cx} {k i : Nat} {x : Str} {p pos : Pos} {e : Expr} {es : List Expr} {t : DTA} {tab : List (Addr × DSp)}
theorem pe_callH {t : TA} {S : List (Addr × Sp)} (A : ∀ q ∈ S, Held X.prog X.w X.K X.mg X.base k q.1 q.2) (hr : Room k X.A) (hN : X.N[i]? = some x) (hv : Vis X.env.scope x) (ha : PA X (e :: es) t)
    (hdb : (x == ("__debug__" : Str)) = false := by decide) (hcd : (x == ("__classdict__" : Str)) = false := by decide)
    (he : starEach (e :: es) X.env = (false, eval e X.env) :: starEach es X.env := by rfl) (hpl : (backTo pos (starEach es X.env)).any (·.1) = false := by rfl) :
    PE X (.Call (.Name x p) (e :: es) [] pos) (fun σ H Q => ∃ q ∈ S, σ[i]? = some (some (.ref q.1)) ∧ t σ H fun vs H1 => q.2 vs H1 Q (fun _ _ _ => False)) := by
  refine ⟨fun pins s σ H Q I h => ?_⟩
  obtain ⟨q, hq, hs, ht⟩ := h
  obtain ⟨fd, ps, F, hk, hb⟩ := (A q hq).ex
  refine (pe_callL (i := i) (f := q.1) (sp := q.2) (dvs := []) (E := fun _ _ _ => False) F hr hN hv hk hb .nil (fun _ _ _ _ _ _ _ z => z.elim) ha hdb hcd he hpl).run pins s σ H Q I ⟨hs, ?_⟩
  have e0 : (fun (vs : List V) (H1 : Hp) => q.2 (vs ++ []) H1 Q (fun _ _ _ => False)) = fun vs H1 => q.2 vs H1 Q (fun _ _ _ => False) := by
    funext vs H1
    rw [List.append_nil]
  show t σ H (fun vs H1 => q.2 (vs ++ []) H1 Q (fun _ _ _ => False))
  rw [e0]
  exact ht
theorem de_callH (A : ∀ q ∈ tab, Held X.prog X.w X.K X.mg X.base k q.1 (cSp X.K q.2)) (hr : Room k X.A) (hN : X.N[i]? = some x) (hv : Vis X.env.scope x) (ha : DA X (e :: es) t)
    (hdb : (x == ("__debug__" : Str)) = false := by decide) (hcd : (x == ("__classdict__" : Str)) = false := by decide)
    (he : starEach (e :: es) X.env = (false, eval e X.env) :: starEach es X.env := by rfl) (hpl : (backTo pos (starEach es X.env)).any (·.1) = false := by rfl) :
    DE X (.Call (.Name x p) (e :: es) [] pos) (dCallH i tab t) :=
  PE.mono (pe_callH (S := tab.map fun q => (q.1, cSp X.K q.2)) (fun q hq => by
      obtain ⟨q', hq', rfl⟩ := List.mem_map.mp hq
      exact A q' hq') hr hN hv ha hdb hcd he hpl) fun σ H Q ⟨δ, G, Z, Q0, ok, rs, ⟨a, sp, hi, hm, h⟩, k⟩ => by
    obtain ⟨v, h1, h2⟩ := rs.get hi
    cases h2
    exact ⟨_, List.mem_map.mpr ⟨(a, sp), hm, rfl⟩, h1, δ, G, Z, _, ok, rs, h, fun ds G1 vs H1 h1 k1 ok1 r1 => ⟨_, G1, Z, Q0, _, ok1, r1, h1, fun d G' v H' q k2 ok2 r2 => k _ _ _ _ q (k1.trans k2) ok2 r2, .none⟩⟩
theorem Held.at_ {P : Program} {w : World} {K : PySem.W.Frag} {mg : Str → Option Value} {base : Heap} {k : Nat} {f a : Addr} {sp : Sp} (e : f = a) (h : Held P w K mg base k f sp) : Held P w K mg base k a sp := e ▸ h
theorem all_cons {α : Type} {q : α → Prop} {a : α} {l : List α} (h : q a) (t : ∀ x ∈ l, q x) : ∀ x ∈ a :: l, q x := fun x hx => by
  rcases List.mem_cons.mp hx with rfl | hx
  · exact h
  · exact t x hx
theorem all_nil {α : Type} {q : α → Prop} : ∀ x ∈ ([] : List α), q x := fun x hx => by cases hx
theorem Held.of {P : Program} {w : World} {K : PySem.W.Frag} {mg : Str → Option Value} {base : Heap} {k j : Nat} {f : Addr} {fd : FuncData} {ps : List Str} {sp : DSp} (F : FnOk P w K mg base CX0 j f fd ps (cSp K sp)) (h : j ≤ k) (hk : PySem.W.keepIn K (.ref f) = true) (hb : Binds K fd ps []) :
    Held P w K mg base k f (cSp K sp) := ⟨⟨fd, ps, F.mono h, hk, hb⟩⟩
end
/-! range(i, j, c) -/
def dRng3 (ta tb tc : DTE) : DTI := fun δ G R => ta δ G fun x G1 => tb δ G1 fun y G2 => tc δ G2 fun z G3 => ∃ i j c n, x = .int i ∧ y = .int j ∧ z = .int c ∧ RgC i j c n ∧ R (rngC i c n) none G3
section
variable {X : Cx} {tg a b c : Expr} {ta tb tc : DTE} {p pos : Pos}
theorem di_range3 (hg : Gl X "range") (hm : X.mg "range" = none) (ha : DE X a ta) (hb : DE X b tb) (hc : DE X c tc)
    (hs : starEach [a, b, c] X.env = (false, eval a X.env) :: starEach [b, c] X.env := by rfl) (hs2 : starEach [b, c] X.env = (false, eval b X.env) :: starEach [c] X.env := by rfl) (hs3 : starEach [c] X.env = (false, eval c X.env) :: starEach [] X.env := by rfl)
    (hpl : (backTo pos (starEach [b, c] X.env)).any (·.1) = false := by rfl) :
    DI X tg (.Call (.Name "range" p) [a, b, c] [] pos) (dRng3 ta tb tc) :=
  PI.mono (pi_range3 hg hm (pa_cons ha (pa_cons hb (pa_cons hc pa_nil hs3) hs2) hs) hs hpl) fun σ H R ⟨δ, G, Z, Q0, ok, rs, h, k⟩ =>
    ⟨δ, G, Z, _, ok, rs, h, fun x G1 v H1 h1 k1 ok1 r1 => ⟨δ, G1, Z, _, ok1, rs.mono k1.keep, h1, fun y G2 u H2 h2 k2 ok2 r2 => ⟨δ, G2, Z, _, ok2, rs.mono (k1.trans k2).keep, h2, fun z G3 w H3 h3 k3 ok3 r3 => by
      obtain ⟨i, j, c, n, rfl, rfl, rfl, hc, h3⟩ := h3
      cases r1
      cases r2
      cases r3
      exact ⟨i, j, c, n, rfl, hc, k _ _ _ _ _ h3 (k1.trans (k2.trans k3)) ok3 fun Z' _ _ => it_rangeC⟩⟩⟩⟩
end
/-! text.split(sep) -/
def dSplit (to te : DTE) : DTE := fun δ G Q => to δ G fun x G1 => ∃ a, x = .str a ∧ te δ G1 fun y G2 => ∃ b, y = .str b ∧ (b.length == 0) = false ∧ a.length + 2 ≤ sizeLine ∧ Q (.lst ((Txt.split a b).map .str)) G2
theorem reps_strs {K : PySem.W.Frag} {W : Hp} : ∀ ys : List Str, Reps K W (ys.map D.str) (ys.map V.str)
  | [] => .nil
  | y :: r => .cons (.str y) (reps_strs r)
section
variable {X : Cx} {o e : Expr} {to te : DTE} {apos pos : Pos}
theorem de_split (ho : DE X o to) (he : DE X e te) (hs : starEach [e] X.env = [(false, eval e X.env)] := by rfl) (hbase : attributeBase o "split" X.env (eval o X.env) = eval o X.env := by rfl) (hline : (apos.endLine == pos.line) = true := by rfl) :
    DE X (.Call (.Attribute o "split" apos) [e] [] pos) (dSplit to te) :=
  PE.mono (pe_split ho he hs hbase hline) fun σ H Q ⟨δ, G, Z, Q0, ok, rs, h, k⟩ =>
    ⟨δ, G, Z, _, ok, rs, h, fun x G1 v H1 h1 k1 ok1 r1 => by
      obtain ⟨a, rfl, h1⟩ := h1
      cases r1
      refine ⟨⟨a, rfl⟩, δ, G1, Z, _, ok1, rs.mono k1.keep, h1, fun y G2 u H2 h2 k2 ok2 r2 => ?_⟩
      obtain ⟨b, rfl, hb, ha, h2⟩ := h2
      cases r2
      refine ⟨a, b, rfl, rfl, hb, ha, fun q hq => ?_⟩
      exact k _ _ _ _ h2 (k1.trans (k2.trans (Kp.laid hq))) (ok2.laid hq) (.lst (U_laid ok2 hq) (reps_strs _))⟩
end
/-! x in a list of any data -/
def rInA (K : PySem.W.Frag) : R2 := fun x y H Q => ∃ d ds, Dp K H x d ∧ Dp K H y (.list ds) ∧ SeqAt.shaped d = true ∧ SeqAt.shaped (.list ds) = true ∧ Q (.bl (ds.any fun z => PyData.eqv z d)) H
def dInA : DR2 := fun x y G Q => ∃ p qs, DD G x p ∧ DD G y (.list qs) ∧ SeqAt.shaped p = true ∧ SeqAt.shaped (.list qs) = true ∧ Q (.bl (qs.any fun z => PyData.eqv z p)) G
section
variable {X : Cx}
theorem op_inA (hu : X.A.units + 65 < cLine) : OpR X (compareOp .In) (rInA X.K) := by
  intro pins s σ H x y v u Q I rx ry h
  obtain ⟨d, ds, hd, he, sd, se, q⟩ := h
  obtain ⟨as, r1⟩ := Dp.reads I d x v hd rx
  obtain ⟨bs, r2⟩ := Dp.reads I (.list ds) y u he ry
  exact SeqAt.in_list_reads r2 r1 (SeqAt.canLay_of_shaped se) (SeqAt.canLay_of_shaped sd) (room_in_shaped sd hu) ⟨.bl _, H, I, rfl, q⟩
theorem dop_inA (hu : X.A.units + 65 < cLine) : DOp X (compareOp .In) dInA :=
  OpR.imp (op_inA hu) fun v u H Q ⟨x, y, G, Z, Q0, ok, r1, r2, ⟨p, qs, e1, e2, s1, s2, h⟩, k⟩ =>
    ⟨p, qs, e1.dp ok r1, e2.dp ok r2, s1, s2, k _ _ _ _ h .refl ok (.bl _)⟩
end
/-! dicts written out, with keys of texts -/
def dPairs : List (Str × DTE) → DSt → GHp → (List (Key × D) → GHp → Prop) → Prop
  | [], _, G, Q => Q [] G
  | (k, te) :: r, δ, G, Q => te δ G fun x G1 => dPairs r δ G1 fun kvs G2 => Q ((.inr k, x) :: kvs) G2
def mergeD (kvs : List (Key × D)) : List (Key × D) := kvs.foldl (fun acc kv => putD acc kv.1 kv.2) []
def dDisp (ps : List (Str × DTE)) : DTE := fun δ G Q => ∀ p, G p = none → dPairs ps δ (gupd G p (.dK [])) fun kvs G1 => G1 p = some (.dK []) ∧ kvs.length ≤ 15 ∧ Q (.ref p) (gupd G1 p (.dK (mergeD kvs)))
inductive DPs (X : Cx) : List (Option Expr) → List Expr → List (Str × DTE) → Prop
  | nil : DPs X [] [] []
  | cons {k : Str} {n : Nat} {kp : Pos} {v : Expr} {te : DTE} {ks : List (Option Expr)} {vs : List Expr} {ps : List (Str × DTE)} : DE X v te → DPs X ks vs ps → DPs X (some (.Constant (.str k) n kp) :: ks) (v :: vs) ((k, te) :: ps)
theorem KvR.putM {K : PySem.W.Frag} {W : Hp} : ∀ {kvs acc : List (Key × D)} {xs bcc : List (Key × V)}, KvR K W kvs xs → KvR K W acc bcc → KvR K W (kvs.foldl (fun acc kv => putD acc kv.1 kv.2) acc) (xs.foldl (fun acc kv => putK acc kv.1 kv.2) bcc)
  | _, _, _, _, .nil, r => r
  | p :: kvs, acc, q :: xs, bcc, .cons h t, r => by
    rw [List.foldl_cons, List.foldl_cons]
    have := r.put (k := p.1) h.2
    rw [h.1]
    exact KvR.putM t this
section
variable {X : Cx} {pos : Pos}
theorem DPs.pps : ∀ {ks : List (Option Expr)} {vs : List Expr} {ps : List (Str × DTE)}, DPs X ks vs ps → PPs X pos ks vs (ps.map fun p => (tC (.str p.1), cE X.K p.2))
  | _, _, _, .nil => pps_nil
  | _, _, _, .cons h t => pps_cons pe_str h (DPs.pps t)
theorem DPs.run {σ : L2.St} : ∀ {ps : List (Str × DTE)} {δ : DSt} {H : Hp} {G : GHp} {Z : Addr → Bool} {Q : List (V × V) → Hp → Prop} {Q0 : List (Key × D) → GHp → Prop}, Ok X.K H G Z → RepSt X.K (U H G Z) δ σ → dPairs ps δ G Q0 →
    (∀ kvs G' H' (xs : List (Key × V)), Q0 kvs G' → Kp H G Z H' G' → Ok X.K H' G' Z → KvR X.K (U H' G' Z) kvs xs → xs.length = ps.length → Q (xs.map fun kv => (kV kv.1, kv.2)) H') → tPairs (ps.map fun p => (tC (.str p.1), cE X.K p.2)) σ H Q
  | [], δ, H, G, Z, Q, Q0, ok, rs, h, k => k [] G H [] h .refl ok .nil rfl
  | p :: r, δ, H, G, Z, Q, Q0, ok, rs, h, k => by
    show cE X.K p.2 σ H _
    refine ⟨δ, G, Z, _, ok, rs, h, fun x G1 v H1 h1 k1 ok1 r1 => ?_⟩
    refine DPs.run (ps := r) ok1 (rs.mono k1.keep) h1 fun kvs G' H' xs q k2 ok2 r2 hl => ?_
    exact k _ _ _ ((.inr p.1, v) :: xs) q (k1.trans k2) ok2 (.cons ⟨rfl, r1.mono k2.keep⟩ r2) (by rw [List.length_cons, List.length_cons, hl])
theorem de_disp {ks : List (Option Expr)} {vs : List Expr} {ps : List (Str × DTE)} (h : DPs X ks vs ps) (hall : ks.all (·.isSome) = true) (hl : ks.length = vs.length) (h0 : ks ≠ []) (h15 : ks.length ≤ 15) : DE X (.Dict ks vs pos) (dDisp ps) :=
  PE.mono (pe_disp (h.pps (pos := pos)) hall hl h0 h15) fun σ H Q ⟨δ, G, Z, Q0, ok, rs, h, k⟩ => fun p hp => by
    have hg := (ok.free hp).1
    have hz := (ok.free hp).2
    have kk : Kp H G Z (upd H p (.dK [])) (gupd G p (.dK [])) := Kp.laidG hp hg
    have ok1 : Ok X.K (upd H p (.dK [])) (gupd G p (.dK [])) Z := ok.laidG hp ⟨[], upd_same, rfl, .nil⟩
    refine DPs.run ok1 (rs.mono kk.keep) (h p hg) fun kvs G' H' xs q k2 ok2 r2 hlen => ?_
    obtain ⟨ea, h15', q⟩ := q
    obtain ⟨hz2, ys, hy, e1, e2⟩ := ok2.ok p _ ea
    have ys0 : ys = [] := List.map_eq_nil_iff.mp e1
    subst ys0
    refine ⟨hy, xs, rfl, ?_, ?_⟩
    · have := KvR.keys r2
      have := congrArg List.length this
      rw [List.length_map, List.length_map] at this
      omega
    · have hw : Kp H' G' Z (upd H' p (.dK (mergeK [] xs))) (gupd G' p (.dK (mergeD kvs))) := Kp.wrote ea hz2
      have hr : KvR X.K (U (upd H' p (.dK (mergeK [] xs))) (gupd G' p (.dK (mergeD kvs))) Z) (mergeD kvs) (mergeK [] xs) := (KvR.putM r2 .nil).mono hw.keep
      exact k _ _ _ _ q (kk.trans (k2.trans hw)) (ok2.wrote ea ⟨_, upd_same, hr.keys, hr.reps⟩) (.ref p)
end
/-! d[k], d[l] = e, f: one dict, keys of texts -/
def dPut2 (i : Nat) (k1 k2 : Str) (ta : DTA) : DTS := fun D δ G => ta δ G fun ds G1 => ∃ a v w kvs, ds = [v, w] ∧ δ[i]? = some (some (.ref a)) ∧ G1 a = some (.dK kvs) ∧ kvs.length < 1000 ∧ D.nx δ (gupd G1 a (.dK (putD (putD kvs (.inr k1) v) (.inr k2) w)))
section
variable {X : Cx} {W : WX} {x : Str} {p1 p2 p3 p4 p5 p6 q1 q2 pos tpos vpos : Pos} {k1 k2 : Str} {n1 n2 kt kv i : Nat} {e f : Expr} {ta : DTA}
theorem ds_put2 (hc : X.calm = true) (hu : X.A.units + 64 < cLine) (hN : X.N[i]? = some x) (hv : Vis X.env.scope x) (ha : DA X [e, f] ta)
    (hdb : (x == ("__debug__" : Str)) = false := by decide) (hcd : (x == ("__classdict__" : Str)) = false := by decide)
    (hs : swapsWithSole [.Tuple [.Subscript (.Name x p1) (.Constant (.str k1) n1 p2) p3, .Subscript (.Name x p4) (.Constant (.str k2) n2 p5) p6] kt tpos] (.Tuple [e, f] kv vpos) pos.line X.env = pure false := by rfl)
    (hw : swappedStores [.Tuple [.Subscript (.Name x p1) (.Constant (.str k1) n1 p2) p3, .Subscript (.Name x p4) (.Constant (.str k2) n2 p5) p6] kt tpos] (.Tuple [e, f] kv vpos) X.env = pure none := by rfl) :
    DS X W (.Assign [.Tuple [.Subscript (.Name x p1) (.Constant (.str k1) n1 p2) p3, .Subscript (.Name x p4) (.Constant (.str k2) n2 p5) p6] kt tpos] (.Tuple [e, f] kv vpos) pos) (dPut2 i k1 k2 ta) :=
  PS.mono (ps_asg (pe_tup ha) (pg_tup hc (pgs_cons (pg_sub (pe_var hN hv hdb hcd) pe_str (set_dict (by omega))) (pgs_cons (pg_sub (pe_var hN hv hdb hcd) pe_str (set_dict (by omega))) pgs_nil))) hs hw) fun E σ H ⟨δ, G, Z, D0, ok, rs, h, l⟩ =>
    ⟨δ, G, Z, _, ok, rs, h, fun ds G1 vs H1 h1 kp ok1 r1 => by
      obtain ⟨a, v, w, kvs, rfl, hi, ea, hl, h1⟩ := h1
      cases r1 with
      | @cons _ v' _ _ rv r1 =>
        cases r1 with
        | @cons _ w' _ _ rw r1 =>
          cases r1
          refine ⟨by rw [sizeLine_eq]; simp, fun p hp => ?_⟩
          obtain ⟨y, hy, ry⟩ := rs.get hi
          cases ry
          obtain ⟨hz, xs, hx, e1, rr⟩ := ok1.ok _ _ ea
          have hne : a ≠ p := fun z => by rw [z, hp] at hx; cases hx
          have hlx : xs.length = kvs.length := by have := congrArg List.length e1; simpa using this
          have kk : Kp H G Z (upd H1 p (.tup [v', w'])) G1 := kp.trans (Kp.laid hp)
          have ok2 : Ok X.K (upd H1 p (.tup [v', w'])) G1 Z := ok1.laid hp
          have hx2 : (upd H1 p (.tup [v', w'])) a = some (.dK xs) := by rw [upd_ne hne]; exact hx
          have ky : KvR X.K (U H1 G1 Z) kvs xs := KvR.of e1 rr
          have ky2 : KvR X.K (U H1 G1 Z) (putD (putD kvs (.inr k1) v) (.inr k2) w) (putK (putK xs (.inr k1) v') (.inr k2) w') := (ky.put (k := .inr k1) rv).put (k := .inr k2) rw
          have l1 : (putK xs (.inr k1) v').length ≤ xs.length + 1 := length_putK xs (.inr k1) v'
          have hw2 : Kp (upd H1 p (.tup [v', w'])) G1 Z (upd (upd (upd H1 p (.tup [v', w'])) a (.dK (putK xs (.inr k1) v'))) a (.dK (putK (putK xs (.inr k1) v') (.inr k2) w'))) (gupd G1 a (.dK (putD (putD kvs (.inr k1) v) (.inr k2) w))) := by
            rw [upd_upd]
            exact Kp.wrote ea hz
          have hr := ky2.mono ((Kp.laid hp).keep (H := H1) (G := G1) (Z := Z)) |>.mono hw2.keep
          have ok3 : Ok X.K (upd (upd (upd H1 p (.tup [v', w'])) a (.dK (putK xs (.inr k1) v'))) a (.dK (putK (putK xs (.inr k1) v') (.inr k2) w'))) (gupd G1 a (.dK (putD (putD kvs (.inr k1) v) (.inr k2) w))) Z := by
            have := ok2.wrote (o := .dK (putK (putK xs (.inr k1) v') (.inr k2) w')) (go' := .dK (putD (putD kvs (.inr k1) v) (.inr k2) w)) ea ⟨_, upd_same, hr.keys, by rw [upd_upd] at hr; exact hr.reps⟩
            rw [upd_upd]
            exact this
          refine ⟨p, [v', w'], rfl, SqT.of upd_same, rfl, v', [w'], rfl, .ref a, hy, a, _, rfl, .inl ⟨xs, .inr k1, hx2, rfl, by rw [sizeLine_eq]; omega, rfl⟩, w', [], rfl, .ref a, hy, a, _, rfl, .inl ⟨_, .inr k2, upd_same, rfl, by rw [sizeLine_eq]; omega, rfl⟩, rfl, ?_⟩
          exact (l.after kk).nx _ _ _ _ h1 hw2 ok3 (rs.mono (kk.trans hw2).keep)⟩
end
end DL
set_option Elab.async false
set_option linter.all false
set_option maxRecDepth 100000
set_option maxHeartbeats 1000000
/-! DL, part 30: the Hook with one Bool more and dicts of the module; tuples and dicts of the module told. -/
namespace DL
open PySem PySem.Spec L2 PyProof.Rows He
abbrev AlF : Type := AlT × Bool
def obsF (fa : List Fa) (fn : List DefD) (ts : List Tab) (ex : PySem.W.Frag → Bool) (K : PySem.W.Frag) : AlF := (obsT fa fn ts K, ex K)
def valF (fn : List DefD) (ts : List Tab) (w : World) : AlF := (valT fn ts w, true)
def SaysF (fa : List Fa) (fn : List DefD) (ts : List Tab) (ex : PySem.W.Frag → Bool) (w : World) (K : PySem.W.Frag) : Prop := obsF fa fn ts ex K = valF fn ts w
def obsFG (n : Nat) (fa : List Fa) (fn : List DefD) (ts : List Tab) (ex : PySem.W.Frag → Bool) (g : Addr → Option Obj) : AlF := obsF fa fn ts ex (frG g (cStatics :: asD g n))
def hookF (n : Nat) (fa : List Fa) (fn : List DefD) (ts : List Tab) (ex : PySem.W.Frag → Bool) : PySem.W.Hook where
  α := AlF
  obs := fun s => obsFG n fa fn ts ex s.heap.get?
  val := fun w => valF fn ts w
  says := fun w h => ∃ K : PySem.W.Frag, K.In h ∧ SaysF fa fn ts ex w K
  of := fun _ _ e => ⟨_, frG_in, e⟩
  keeps := fun _ _ _ ⟨K, hK, c⟩ k => ⟨K, PySem.W.Frag.In.keeps hK k, c⟩
theorem obsFG_eq {n : Nat} {fa : List Fa} {fn : List DefD} {ts : List Tab} {ex : PySem.W.Frag → Bool} {g : Addr → Option Obj} {s : Shared} (h : ∀ a, g a = s.heap.get? a) : obsFG n fa fn ts ex g = (hookF n fa fn ts ex).obs s := by
  have e : g = s.heap.get? := funext h
  rw [e] <;> rfl
section
variable {fa : List Fa} {fn : List DefD} {ts : List Tab} {ex : PySem.W.Frag → Bool} {w : World} {K : PySem.W.Frag}
theorem SaysF.d (c : SaysF fa fn ts ex w K) : SaysD fa fn K := congrArg (fun z : AlF => z.1.1) c
theorem SaysF.more (c : SaysF fa fn ts ex w K) : ex K = true := congrArg (fun z : AlF => z.2) c
theorem SaysF.tab (c : SaysF fa fn ts ex w K) (i : Nat) {t : Tab} (h : ts[i]? = some t := by rfl) : dicW K (t.1 K) = some (keysIn w.params t.2) := by
  have e : ts.map (fun t => dicW K (t.1 K)) = ts.map fun t => some (keysIn w.params t.2) := congrArg (fun z : AlF => z.1.2) c
  have e2 : (ts.map fun t => dicW K (t.1 K))[i]? = (ts.map fun t => some (keysIn w.params t.2))[i]? := by rw [e]
  rw [List.getElem?_map, List.getElem?_map, h] at e2
  exact Option.some.inj e2
end
/-! what a dict of the module has -/
theorem find_keys {P : Params} : ∀ {l : List DictEntry} {ks : List Str}, l.map He.keyOf = keysIn P ks → (∀ z, (l.find? (·.key.isStr z)).isSome = decide (z ∈ ks)) ∧ l.any (·.refKey) = false
  | [], [], _ => ⟨fun z => by simp, rfl⟩
  | [], _ :: _, h => by cases h
  | _ :: _, [], h => by cases h
  | e :: r, k :: ks, h => by
    have h1 : He.keyOf e :: r.map He.keyOf = some (k, PyData.keyHash P k) :: keysIn P ks := h
    injection h1 with h2 h3
    obtain ⟨i1, i2⟩ := find_keys h3
    unfold He.keyOf at h2
    split at h2
    · next x t q =>
      have h4 := (Prod.mk.inj (Option.some.inj h2)).1
      subst h4
      have ek : ∀ z, e.key.isStr z = decide (z = x) := fun z => by
        rw [q]
        show (x == z) = _
        rw [Bool.eq_iff_iff, beq_iff_eq, decide_eq_true_eq]
        exact eq_comm
      refine ⟨fun z => ?_, ?_⟩
      · rw [List.find?_cons, ek]
        by_cases hz : z = x
        · rw [decide_eq_true hz]
          simp [hz]
        · rw [decide_eq_false hz]
          show (r.find? _).isSome = _
          rw [i1]
          simp [hz]
      · rw [List.any_cons, i2]
        have : e.refKey = false := by
          unfold DictEntry.refKey
          rw [q]
        rw [this]; rfl
    · cases h2
theorem has_of {K : PySem.W.Frag} {P : Params} {a : Addr} {ks : List Str} (h : dicW K a = some (keysIn P ks)) (z : Str) : ∃ r, PySem.W.nsIn K a z = some r ∧ r.isSome = decide (z ∈ ks) := by
  unfold dicW at h
  split at h
  · next c es n sl q =>
    split at h
    · have h := Option.some.inj h
      obtain ⟨i1, i2⟩ := find_keys h
      unfold PySem.W.nsIn
      rw [q]
      have e1 := i1 z
      show ∃ r, (match es.toList.find? (·.key.isStr z) with
        | some e => some (some e.val)
        | none => if es.toList.any (·.refKey) then none else some none) = some r ∧ _
      cases hf : es.toList.find? (·.key.isStr z) with
      | some e =>
        rw [hf] at e1
        exact ⟨some e.val, rfl, e1⟩
      | none =>
        rw [hf] at e1
        exact ⟨none, by rw [i2]; rfl, e1⟩
    · cases h
  · cases h
theorem GTup.of {K : PySem.W.Frag} {mg : Str → Option Value} {x : Str} {vs : List Str} (m : mg x = some (.ref (ga K x))) (h : tupB K x (vs.map Dv.str) = true) : GTup K mg x vs :=
  ⟨m, fun H => by have := tupB_ok h H; rw [List.map_map] at this; exact this⟩
theorem GDic.of {K : PySem.W.Frag} {w : World} {mg : Str → Option Value} {x : Str} {kvs : List (Str × Dv)} (m : mg x = some (.ref (ga K x))) (h : dicW K (ga K x) = some (keysIn w.params (kvs.map (·.1)))) (hv : valsB K (ga K x) kvs = true) (hg : ∀ q ∈ kvs, dvOk q.2 = true) : GDic K w mg x kvs :=
  ⟨m, dicW_ok h, has_of h, fun q hq => valsB_ok hv hq, hg⟩
end DL
set_option Elab.async false
set_option linter.all false
set_option maxRecDepth 100000
set_option maxHeartbeats 1000000
/-! DL, part 31: == and != by what they answer (told by the one who reads). -/
namespace DL
open PySem PySem.Spec L2
def EqB (G : GHp) (x y : D) (b : Bool) : Prop := ∃ p q, DD G x p ∧ DD G y q ∧ SeqAt.shaped p = true ∧ SeqAt.shaped q = true ∧ PyData.eqv p q = b
def dEqB : DR2 := fun x y G Q => ∃ b, EqB G x y b ∧ Q (.bl b) G
def dNeB : DR2 := fun x y G Q => ∃ b, EqB G x y b ∧ Q (.bl (!b)) G
section
variable {X : Cx}
theorem dop_eqB (hu : X.A.units + 64 < cLine) : DOp X (compareOp .Eq) dEqB :=
  OpR.imp (op_eqD hu) fun v u H Q ⟨x, y, G, Z, Q0, ok, r1, r2, ⟨b, ⟨p, q, e1, e2, s1, s2, e⟩, h⟩, k⟩ =>
    ⟨p, q, e1.dp ok r1, e2.dp ok r2, s1, s2, by rw [e]; exact k _ _ _ _ h .refl ok (.bl _)⟩
theorem dop_neB (hu : X.A.units + 64 < cLine) : DOp X (compareOp .NotEq) dNeB :=
  OpR.imp (op_neD hu) fun v u H Q ⟨x, y, G, Z, Q0, ok, r1, r2, ⟨b, ⟨p, q, e1, e2, s1, s2, e⟩, h⟩, k⟩ =>
    ⟨p, q, e1.dp ok r1, e2.dp ok r2, s1, s2, by rw [e]; exact k _ _ _ _ h .refl ok (.bl _)⟩
end
section
variable {G : GHp}
theorem EqB.int (i j : Int) : EqB G (.int i) (.int j) (decide (i = j)) := ⟨_, _, .int i, .int j, (Shp.int (n := 1) i).ok (by decide), (Shp.int (n := 1) j).ok (by decide), by simp only [PyData.eqv]; rw [Bool.eq_iff_iff]; simp⟩
theorem EqB.bl (i j : Bool) : EqB G (.bl i) (.bl j) (decide (i = j)) := ⟨_, _, .bl i, .bl j, (Shp.bl (n := 1) i).ok (by decide), (Shp.bl (n := 1) j).ok (by decide), by simp only [PyData.eqv]; rw [Bool.eq_iff_iff]; simp⟩
theorem EqB.of_eq {x y : D} {b c : Bool} (h : EqB G x y b) (e : b = c) : EqB G x y c := e ▸ h
end
end DL
set_option Elab.async false
set_option linter.all false
set_option maxRecDepth 100000
set_option maxHeartbeats 1000000
/-! DL, part 32: repr of data, and defs that are run where nothing is being shown. -/
namespace DL
open PySem PySem.Spec L2 PyProof.Rows
/-- a def's promise where nothing is being shown -/
structure FnG (P : Program) (w : World) (K : PySem.W.Frag) (mg : Str → Option Value) (base : Heap) (k : Nat) (f : Addr) (fd : FuncData) (ps : List Str) (sp : Sp) : Prop where
  len : ∀ vs H Q E, sp vs H Q E → vs.length = ps.length
  go : ∀ (A : Around) (outer : List Env) (s : Shared) (H : Hp) (ar : Args) (us : List Value) (vs : List V) (Q : VK) (E : XK), Room k A → A.guards = some [] → Env0 P w K mg base A outer s H → BindsTo s fd ar (ps.zip us) → Vals vs us → sp vs H Q E →
    codeAny (model P w) A (.call (.ref f) ar) (CR CX0 outer P w H s Q E) s
section
variable {P : Program} {w : World} {K : PySem.W.Frag} {mg : Str → Option Value} {base : Heap} {x qual : Str} {st : Stmt} {f : Addr} {fd : FuncData} {N ps : List Str} {k : Nat} {t : DTS} {l : DSt} {dv : List V} {kv : List (Str × V)}
theorem FnG.of {sp : Sp} (F : FnOk P w K mg base CX0 k f fd ps sp) : FnG P w K mg base k f fd ps sp := ⟨F.len, fun A o s H ar us vs Q E r _ => F.run A o s H ar us vs Q E r⟩
theorem FnG.mono {j : Nat} {sp : Sp} (F : FnG P w K mg base j f fd ps sp) (h : j ≤ k) : FnG P w K mg base k f fd ps sp := ⟨F.len, fun A o s H ar us vs Q E r => F.go A o s H ar us vs Q E (r.mono h)⟩
/-- a def of the text by its body -/
theorem FunD.okG {sp : Sp} (F : FunD K x qual (defArgs st) (defBody st) (defScope st) dv kv f fd) (S : FnScope N ps (defScope st)) (len : ∀ vs H Q E, sp vs H Q E → vs.length = ps.length)
    (hb : ∀ (cdv : Value) (A : Around) (outer : List Env) (s : Shared) (H : Hp) (vs : List V) (Q : VK) (E : XK), Room k (A.deeper (envOfC qual (defScope st) s.heap.objs.size f cdv)) → (A.deeper (envOfC qual (defScope st) s.heap.objs.size f cdv)).guards = some [] → sp vs H Q E →
      ∃ t, PSs (cxOf CX0 P w K mg base N qual (defScope st) f cdv A outer s H E) (defBody st) t ∧ t { nx := fun _ H' => Q .non H', rt := Q } (start N vs) H) : FnG P w K mg base (k + 1) f fd ps sp := by
  obtain ⟨oc, od, dV, kV, doc, pm, an, cdv, ct, osl, rfl, lk, hcd, _, _⟩ := F.ex
  refine ⟨len, fun A outer s H ar us vs Q E room gd e0 bnd rel hsp => ?_⟩
  have hlen := len _ _ _ _ hsp
  have KI : K.In s.heap := e0.mod.kin.keeps fun b o e => (e0.bs b o e).1
  have limit : s.heap.NoLimit := e0.mod.nolimit.keeps fun b o e => (e0.bs b o e).1
  have kinds : ∀ y ∈ ps.zip us, (defScope st).names.lookup y.1 = some .local ∨ ((defScope st).names.lookup y.1 = some .cell ∧ ((cellsFrom (s.heap.objs.size + 1) (defScope st).names []).lookup y.1).isSome = true) := by
    rintro ⟨n, v⟩ hy
    rcases S.par n (List.of_mem_zip hy).1 with q | q
    · exact Or.inl q
    · exact Or.inr ⟨q, PySem.W.cellsFrom_some _ _ _ (.inl q)⟩
  apply codeAny_call_function room.depth (KI _ _ lk) rfl S.co S.gen rfl (PySem.W.codeRec_of KI hcd) (bnd _ _ _ _ _)
  apply wpAny_newFunctionEnv_cells S.kind kinds
  intro env he s1 hin
  subst he
  refine ⟨limit.keeps hin.toInCall.keep, codeAny_func ?_⟩
  obtain ⟨t, ht, hrun⟩ := hb cdv A outer s H vs Q E (room.deeper _) gd hsp
  have J0 : Inv (cxOf CX0 P w K mg base N qual (defScope st) f cdv A outer s H E) [] (start N vs) H s1 := inv_start S room.hd e0 hlen rel hin
  refine wpAny_mono (ht.run [] s1 (start N vs) H _ J0 hrun) (fun fl s' hs => ?_) (fun e s' hs => hs)
  cases fl with
  | brk => obtain ⟨_, _, _, q⟩ := hs; exact q.elim
  | cont => obtain ⟨_, _, _, q⟩ := hs; exact q.elim
  | next => obtain ⟨σ', H', J, q⟩ := hs; exact ⟨.non, H', J.os, J.bare, J.base, J.hok, rfl, q⟩
  | ret u => obtain ⟨v, σ', H', J, rv, q⟩ := hs; exact ⟨v, H', J.os, J.bare, J.base, J.hok, rv, q⟩
abbrev DerG (P : Program) (w : World) (K : PySem.W.Frag) (mg : Str → Option Value) (base : Heap) (N : List Str) (qual : Str) (st : Stmt) (f : Addr) (k : Nat) (t : DTS) : Prop :=
  ∀ (cdv : Value) (A : Around) (outer : List Env) (s : Shared) (H : Hp) (E : XK), Room k (A.deeper (envOfC qual (defScope st) s.heap.objs.size f cdv)) → (A.deeper (envOfC qual (defScope st) s.heap.objs.size f cdv)).guards = some [] →
    DSs (cxOf CX0 P w K mg base N qual (defScope st) f cdv A outer s H E).nox W0 (defBody st) t
theorem DFunG.ok {sp : DSp} (F : FunD K x qual (defArgs st) (defBody st) (defScope st) dv kv f fd) (S : FnScope N ps (defScope st)) (len : ∀ ds G Q E, sp ds G Q E → ds.length = ps.length) (d : DerG P w K mg base N qual st f k t)
    (rd : ∀ ds G Q E, sp ds G Q E → DRun t (dstart N ds) G Q) : FnG P w K mg base (k + 1) f fd ps (cSp K sp) := by
  refine FunD.okG F S (fun vs H Q E ⟨ds, G, Z, Q0, E0, ok, rs, h, k, x⟩ => rs.length.symm.trans (len _ _ _ _ h)) fun cdv A outer s H vs Q E hr hg ⟨ds, G, Z, Q0, E0, ok, rs, h, k, x⟩ => ?_
  exact ⟨_, PSs.nox (d cdv A outer s H E hr hg), _, G, Z, _, ok, RepSt.start rs, rd ds G Q0 E0 h, ⟨fun δ' G' σ' H' q k1 ok1 _ => k _ _ _ _ q k1 ok1 .non, fun _ _ _ _ q => q.elim, fun _ _ _ _ q => q.elim, fun d G' v H' q k1 ok1 r1 => k _ _ _ _ q k1 ok1 r1, fun _ _ _ _ _ q => q.elim, fun _ _ _ _ _ _ _ _ q => q.elim⟩⟩
theorem DFunG.ok0 {p : GHp → DK → DXK → Prop} (F : FunD K x qual (defArgs st) (defBody st) (defScope st) dv kv f fd) (S : FnScope N ps (defScope st)) (hp : ps.length = 0) (hl : List.replicate (N.length - 0) none = l) (d : DerG P w K mg base N qual st f k t)
    (rd : ∀ G Q E, p G Q E → DRun t (l) G Q) : FnG P w K mg base (k + 1) f fd ps (cSp K (sp0 p)) :=
  DFunG.ok F S (fun ds G Q E h => by
    match ds, h with
    | [], _ => exact hp.symm) d fun ds G Q E h => by
    match ds, h with
    | [], h => subst hl; exact rd G Q E h
theorem DFunG.ok1 {p : D → GHp → DK → DXK → Prop} (F : FunD K x qual (defArgs st) (defBody st) (defScope st) dv kv f fd) (S : FnScope N ps (defScope st)) (hp : ps.length = 1) (hl : List.replicate (N.length - 1) none = l) (d : DerG P w K mg base N qual st f k t)
    (rd : ∀ a G Q E, p a G Q E → DRun t (some a :: l) G Q) : FnG P w K mg base (k + 1) f fd ps (cSp K (sp1 p)) :=
  DFunG.ok F S (fun ds G Q E h => by
    match ds, h with
    | [_], _ => exact hp.symm) d fun ds G Q E h => by
    match ds, h with
    | [a], h => subst hl; exact rd a G Q E h
theorem DFunG.ok2 {p : D → D → GHp → DK → DXK → Prop} (F : FunD K x qual (defArgs st) (defBody st) (defScope st) dv kv f fd) (S : FnScope N ps (defScope st)) (hp : ps.length = 2) (hl : List.replicate (N.length - 2) none = l) (d : DerG P w K mg base N qual st f k t)
    (rd : ∀ a b G Q E, p a b G Q E → DRun t (some a :: some b :: l) G Q) : FnG P w K mg base (k + 1) f fd ps (cSp K (sp2 p)) :=
  DFunG.ok F S (fun ds G Q E h => by
    match ds, h with
    | [_, _], _ => exact hp.symm) d fun ds G Q E h => by
    match ds, h with
    | [a, b], h => subst hl; exact rd a b G Q E h
theorem DFunG.ok3 {p : D → D → D → GHp → DK → DXK → Prop} (F : FunD K x qual (defArgs st) (defBody st) (defScope st) dv kv f fd) (S : FnScope N ps (defScope st)) (hp : ps.length = 3) (hl : List.replicate (N.length - 3) none = l) (d : DerG P w K mg base N qual st f k t)
    (rd : ∀ a b c G Q E, p a b c G Q E → DRun t (some a :: some b :: some c :: l) G Q) : FnG P w K mg base (k + 1) f fd ps (cSp K (sp3 p)) :=
  DFunG.ok F S (fun ds G Q E h => by
    match ds, h with
    | [_, _, _], _ => exact hp.symm) d fun ds G Q E h => by
    match ds, h with
    | [a, b, c], h => subst hl; exact rd a b c G Q E h
theorem DFunG.ok4 {p : D → D → D → D → GHp → DK → DXK → Prop} (F : FunD K x qual (defArgs st) (defBody st) (defScope st) dv kv f fd) (S : FnScope N ps (defScope st)) (hp : ps.length = 4) (hl : List.replicate (N.length - 4) none = l) (d : DerG P w K mg base N qual st f k t)
    (rd : ∀ a b c e G Q E, p a b c e G Q E → DRun t (some a :: some b :: some c :: some e :: l) G Q) : FnG P w K mg base (k + 1) f fd ps (cSp K (sp4 p)) :=
  DFunG.ok F S (fun ds G Q E h => by
    match ds, h with
    | [_, _, _, _], _ => exact hp.symm) d fun ds G Q E h => by
    match ds, h with
    | [a, b, c, e], h => subst hl; exact rd a b c e G Q E h
theorem DFunG.ok5 {p : D → D → D → D → D → GHp → DK → DXK → Prop} (F : FunD K x qual (defArgs st) (defBody st) (defScope st) dv kv f fd) (S : FnScope N ps (defScope st)) (hp : ps.length = 5) (hl : List.replicate (N.length - 5) none = l) (d : DerG P w K mg base N qual st f k t)
    (rd : ∀ a b c e g G Q E, p a b c e g G Q E → DRun t (some a :: some b :: some c :: some e :: some g :: l) G Q) : FnG P w K mg base (k + 1) f fd ps (cSp K (sp5 p)) :=
  DFunG.ok F S (fun ds G Q E h => by
    match ds, h with
    | [_, _, _, _, _], _ => exact hp.symm) d fun ds G Q E h => by
    match ds, h with
    | [a, b, c, e, g], h => subst hl; exact rd a b c e g G Q E h
theorem DFunG.ok6 {p : D → D → D → D → D → D → GHp → DK → DXK → Prop} (F : FunD K x qual (defArgs st) (defBody st) (defScope st) dv kv f fd) (S : FnScope N ps (defScope st)) (hp : ps.length = 6) (hl : List.replicate (N.length - 6) none = l) (d : DerG P w K mg base N qual st f k t)
    (rd : ∀ a b c e g i G Q E, p a b c e g i G Q E → DRun t (some a :: some b :: some c :: some e :: some g :: some i :: l) G Q) : FnG P w K mg base (k + 1) f fd ps (cSp K (sp6 p)) :=
  DFunG.ok F S (fun ds G Q E h => by
    match ds, h with
    | [_, _, _, _, _, _], _ => exact hp.symm) d fun ds G Q E h => by
    match ds, h with
    | [a, b, c, e, g, i], h => subst hl; exact rd a b c e g i G Q E h
end
/-! calls of such defs -/
section
variable {X : Cx} {k : Nat} {f : Addr} {fd : FuncData} {ps : List Str} {sp : DSp} {x : Str} {p pos : Pos} {e : Expr} {es : List Expr} {t : DTA}
theorem run_fnG {sp : Sp} {pins : List (Addr × Obj)} {σ : L2.St} {H : Hp} {s : Shared} {Q : VK} {us : List Value} {vs : List V} (F : FnG X.prog X.w X.K X.mg X.base k f fd ps sp) (hr : Room k X.A) (hgd : X.A.guards = some []) (hb : Binds X.K fd ps [])
    (I : Inv X pins σ H s) (r : Vals vs us) (h : sp vs H Q (fun _ _ _ => False)) : wpAny (model X.prog X.w) X.A (call (.ref f) us) (EP X pins σ Q) X.xe s := by
  have hl : (us ++ []).length = ps.length := by rw [List.append_nil, ← r.length]; exact F.len _ _ _ _ h
  have hbt := hb s us I.kIn hl
  rw [List.append_nil] at hbt
  refine wpAny_call (codeAny_mono (F.go X.A X.stack s H ⟨us, []⟩ us vs Q (fun _ _ _ => False) hr hgd I.env0 hbt r h) fun r s' hq => ?_)
  match r, hq with
  | .ok (.ret u), hq => exact I.after hq
  | .ok .next, hq => exact False.elim hq
  | .ok .brk, hq => exact False.elim hq
  | .ok .cont, hq => exact False.elim hq
  | .error e, hq => exact False.elim hq
theorem de_callG (F : FnG X.prog X.w X.K X.mg X.base k f fd ps (cSp X.K sp)) (hr : Room k X.A) (hgd : X.A.guards = some []) (hg : Gl X x) (hm : X.mg x = some (.ref f)) (hk : PySem.W.keepIn X.K (.ref f) = true) (hb : Binds X.K fd ps [])
    (ha : DA X (e :: es) t) (hdb : (x == ("__debug__" : Str)) = false := by decide) (he : starEach (e :: es) X.env = (false, eval e X.env) :: starEach es X.env := by rfl) (hpl : (backTo pos (starEach es X.env)).any (·.1) = false := by rfl) :
    DE X (.Call (.Name x p) (e :: es) [] pos) (dCall sp [] t) := by
  have h0 : PE X (.Call (.Name x p) (e :: es) [] pos) (tCall (cSp X.K sp) [] (fun _ _ _ => False) (cA X.K t)) := ⟨fun pins s σ H Q I h => by
    refine wpAny_Call_Name_kw (ld_glob I hg hm ?_ hdb)
    refine PySem.W.callWith_K (h₀ := X.base) I.ok.mod.kin hk (thn (ha.run pos pins s σ H _ I h) fun us s1 ⟨vs, H1, I1, r, q⟩ => ⟨I1.kIn, ?_⟩) he hpl
    have q : cSp X.K sp (vs ++ []) H1 Q (fun _ _ _ => False) := q
    rw [List.append_nil] at q
    exact run_fnG F hr hgd hb I1 r q⟩
  exact PE.mono h0 fun σ H Q ⟨δ, G, Z, Q0, ok, rs, h, k⟩ =>
    ⟨δ, G, Z, _, ok, rs, h, fun ds G1 vs H1 h1 k1 ok1 r1 => ⟨_, G1, Z, Q0, _, ok1, r1.append .nil, h1, fun d G' v H' q k2 ok2 r2 => k _ _ _ _ q (k1.trans k2) ok2 r2, .none⟩⟩
theorem de_callG0 (F : FnG X.prog X.w X.K X.mg X.base k f fd ps (cSp X.K sp)) (hr : Room k X.A) (hgd : X.A.guards = some []) (hg : Gl X x) (hm : X.mg x = some (.ref f)) (hk : PySem.W.keepIn X.K (.ref f) = true) (hb : Binds X.K fd ps [])
    (hdb : (x == ("__debug__" : Str)) = false := by decide) : DE X (.Call (.Name x p) [] [] pos) (dCall sp [] dNil) := by
  have h0 : PE X (.Call (.Name x p) [] [] pos) (tCall (cSp X.K sp) [] (fun _ _ _ => False) tNil) := ⟨fun pins s σ H Q I h => by
    refine wpAny_Call_Name_kw (ld_glob I hg hm ?_ hdb)
    exact PySem.W.callWith_K0 I.kIn hk (run_fnG (us := []) F hr hgd hb I .nil h)⟩
  exact PE.mono h0 fun σ H Q ⟨δ, G, Z, Q0, ok, rs, h, k⟩ => ⟨_, G, Z, Q0, _, ok, .nil, h, k, .none⟩
end
/-! repr -/
def reprOk (p : PyData) : Prop := p.showable = true ∧ p.hasDict = false ∧ p.depth ≤ 60 ∧ p.shown.length ≤ sizeLine
def dReprR (x : D) (G : GHp) (Q : DK) : Prop := ∃ p, DD G x p ∧ reprOk p ∧ Q (.str p.shown) G
def rRepr (K : PySem.W.Frag) : List V → Hp → VK → Prop := fun xs H Q => ∃ v p, xs = [v] ∧ Dp K H v p ∧ reprOk p ∧ Q (.str p.shown) H
section
variable {X : Cx}
theorem call_reprG (hg : X.A.guards = some []) (hu : X.A.units + 64 < cLine) : CallR X (.builtin "repr") (rRepr X.K) := by
  intro pins s σ H xs us Q I r h
  obtain ⟨v, p, rfl, hd, ⟨h1, h2, h3, h4⟩, q⟩ := h
  obtain ⟨u, rfl, rv⟩ := vals1 r
  have ref : ∀ a, u = .ref a → wpAny (model X.prog X.w) X.A (call (.builtin "repr") [u]) (EP X pins σ Q) X.xe s := by
    rintro a rfl
    obtain ⟨as, rd⟩ := Dp.reads I p v (.ref a) hd rv
    refine repr_of_reads' rd h1 (fun e => by rw [h2] at e; cases e) hg (by omega) (fun _ _ e => e) (fun h' u tk hk => ?_) h4
    exact ⟨.str _, H, I.kept hk, ⟨_, rfl⟩, q⟩
  cases hd with
  | non =>
    obtain rfl : u = .none := rv
    exact PySem.P.repr_of_none ⟨.str _, H, I.tok _, ⟨_, rfl⟩, q⟩
  | bl b =>
    obtain rfl : u = .bool b := rv
    exact PySem.P.repr_of_bool ⟨.str _, H, I.tok _, ⟨_, rfl⟩, q⟩
  | int i =>
    obtain ⟨t, rfl⟩ := rv
    exact PySem.P.repr_of_int (of_decide_eq_true h1) ⟨.str _, H, I.tok _, ⟨_, rfl⟩, q⟩
  | str y =>
    obtain ⟨t, rfl⟩ := rv
    exact PySem.P.repr_of_str ⟨.str _, H, I.tok _, ⟨_, rfl⟩, q⟩ h4
  | tup _ _ => exact ref _ rv
  | lst _ _ => exact ref _ rv
theorem dcall_repr (hg : X.A.guards = some []) (hu : X.A.units + 64 < cLine) : DCall X (.builtin "repr") (dR1 dReprR) :=
  dcall1 (call_reprG hg hu) fun x v H G Z Q Q0 ok r ⟨p, hd, h1, h⟩ k => ⟨v, p, rfl, hd.dp ok r, h1, k _ _ _ _ h .refl ok (.str _)⟩
end
/-! the law, where nothing is being shown -/
section
variable {P : Program} {w : World} {K : PySem.W.Frag} {mg mb : Str → Option Value} {k : Nat} {fa a : Addr} {fd : FuncData} {x : Str} {sp : Sp} {s₁ : Shared} {vs : List Value} {ns : List Int}
/-- the same where the script alone may be told of -/
theorem coreG {H : Hp} (KX : K.In s₁.heap) (nG : s₁.heap.Ns mainGlobals mg) (nB : s₁.heap.Ns builtinsNs mb) (boot : ∀ y : Str, y ≠ "__name__" → mb y = bootBuiltins y) (lim : s₁.heap.NoLimit) (gens : s₁.gens = #[])
    (ha : s₁.heap.get? a = some { cls := .type "list", data := .seq vs.toArray }) (room : Room k callerA) (F : ∀ base : Heap, K.In base → base.Ns mainGlobals mg → FnG P w K mg base k fa fd [x] sp)
    (bind1 : ∀ (s : Shared) (u : Value), BindsTo s fd ⟨[u], []⟩ [(x, u)]) (sp1 : sp [.ref a] H (fun v _ => v = .bl true) fun _ _ _ => False)
    (only : Only H) (hok : HOk P w H s₁.heap) (just : ∀ b, H b ≠ none → b = a) (out : H a ≠ none → K.lookup a = none) :
    codeAny (model P w) callerA (.call (.ref fa) ⟨[.ref a], []⟩) (fun r s' => r = .ok (.ret (.bool true)) ∧ OldK s₁.heap s'.heap ∧ s'.os = s₁.os ∧ AllBare s'.gens) s₁ := by
  have free : ∀ {b : Addr} {o : Obj} {es : Array DictEntry} {n : Nat}, s₁.heap.get? b = some o → o.data = .dict es n → H b = none := by
    intro b o es n e d
    refine Classical.byContradiction fun q => ?_
    have eb := just b q
    rw [eb, ha] at e
    cases e
    exact nomatch d
  have seen : ∀ {b : Addr} {m : Str → Option Value}, s₁.heap.Ns b m → (hidT s₁.heap H).Ns b m := by
    rintro b m ⟨o, es, n, e, d, r⟩
    exact ⟨o, es, n, hidT_get e (free e d), d, r⟩
  have KB : K.In (hidT s₁.heap H) := by
    intro b o e
    refine hidT_get (KX b o e) (Classical.byContradiction fun q => ?_)
    have eb := just b q
    rw [eb] at q e
    rw [out q] at e
    cases e
  obtain ⟨mc, l1, l2⟩ := lim
  have start0 : Env0 P w K mg (hidT s₁.heap H) callerA [] s₁ H :=
    { frames := rfl, mod := ⟨KB, seen nG, ⟨mb, seen nB, boot⟩, ⟨mc, seen l1, l2⟩⟩, bs := fun b o e => of_hidT e, bsz := Nat.le_of_eq (hidT_size _ _), funs := trivial
      frf := fun b hb => absurd hb (List.not_mem_nil), hok := hok, bare := .of_eq gens }
  have ran := (F _ KB (seen nG)).go callerA [] s₁ H ⟨[.ref a], []⟩ [.ref a] [.ref a] _ _ room rfl start0 (bind1 s₁ (.ref a)) (.cons rfl .nil) sp1
  refine codeAny_mono ran fun r s' h => ?_
  match r, h with
  | .error e, h => exact False.elim h
  | .ok .next, h => exact False.elim h
  | .ok .brk, h => exact False.elim h
  | .ok .cont, h => exact False.elim h
  | .ok (.ret u), h =>
    obtain ⟨v, H', os, bare, un, hok', rv, q⟩ := h
    have q : v = .bl true := q
    rw [q] at rv
    have rv : u = .bool true := rv
    rw [rv]
    refine ⟨rfl, OldK.of_keep fun b o e => ?_, os, bare⟩
    rcases only b with z | ⟨ob, xs, z⟩
    · exact un.keep b o e z (fun q => absurd q List.not_mem_nil) (List.not_mem_nil)
    · have w1 := (hok b _ z).1
      have w2 := (hok' b _ (un.frzs b ob _ z)).1
      rw [e] at w1
      cases w1
      exact w2
theorem law_callG (KX : K.In s₁.heap) (nG : s₁.heap.Ns mainGlobals mg) (nB : s₁.heap.Ns builtinsNs mb) (boot : ∀ y : Str, y ≠ "__name__" → mb y = bootBuiltins y) (lim : s₁.heap.NoLimit) (gens : s₁.gens = #[])
    (ha : s₁.heap.get? a = some { cls := .type "list", data := .seq vs.toArray }) (hi : IntsAre vs ns) (hl : ns.length ≤ sizeLine) (room : Room k callerA) (F : ∀ base : Heap, K.In base → base.Ns mainGlobals mg → FnG P w K mg base k fa fd [x] sp)
    (bind1 : ∀ (s : Shared) (u : Value), BindsTo s fd ⟨[u], []⟩ [(x, u)]) (hsp : ∀ H : Hp, SqL K H a (ns.map V.int) → sp [.ref a] H (fun v _ => v = .bl true) fun _ _ _ => False) :
    codeAny (model P w) callerA (.call (.ref fa) ⟨[.ref a], []⟩) (fun r s' => r = .ok (.ret (.bool true)) ∧ OldK s₁.heap s'.heap ∧ s'.os = s₁.os ∧ AllBare s'.gens) s₁ := by
  have rv := vals_ints hi
  have lv := hi.length
  cases hk : K.lookup a with
  | some o =>
    have e := KX a o hk
    rw [ha] at e
    cases e
    have hq : SqL K (fun _ => none) a (ns.map V.int) := .inr ⟨_, vs.toArray, _, hk, rfl, rfl, rfl, by rw [List.size_toArray, lv]; exact hl, by simpa using rv⟩
    exact coreG KX nG nB boot lim gens ha room F bind1 (hsp _ hq) (fun _ => .inl rfl) (fun b u z => nomatch z) (fun b z => (z rfl).elim) fun z => (z rfl).elim
  | none =>
    have e1 : (fun b => if b = a then some (HO.frz { cls := .type "list", data := .seq vs.toArray } (.lst (ns.map V.int))) else none) a = some (HO.frz { cls := .type "list", data := .seq vs.toArray } (.lst (ns.map V.int))) := if_pos rfl
    refine coreG (H := fun b => if b = a then some (.frz { cls := .type "list", data := .seq vs.toArray } (.lst (ns.map V.int))) else none) KX nG nB boot lim gens ha room F bind1 (hsp _ (.inl (.inr ⟨_, e1⟩))) (fun b => ?_) (fun b u z => ?_) (fun b z => ?_) fun _ => hk
    · dsimp only
      split
      · exact .inr ⟨_, _, rfl⟩
      · exact .inl rfl
    · dsimp only at z
      split at z
      · next c => cases z; subst c; exact ⟨ha, by rw [List.length_map]; exact hl, vs, _, rv, ha⟩
      · cases z
    · refine Classical.byContradiction fun c => z ?_
      exact if_neg c
end
theorem walk_lawG {l : PySem.W.OpenLaw} {n k : Nat} {q : Program} {loose : List Str} {XP : (Str → Option Value) → Heap → Prop} {YP : World → Heap → Prop} {d : DefRec} {x : Str}
    (hn : l.most = some n) (hn2 : n ≤ sizeLine) (hdf : d.params.defaults = []) (hr : Room k callerA)
    (F : ∀ (w : World) (mg : Str → Option Value) (fa : Addr) (h : Heap), YP w h → h.Ns mainGlobals mg → mg d.name = some (.ref fa) →
      ∃ (K : PySem.W.Frag) (fd : FuncData), K.In h ∧ (∀ (s : Shared) (u : Value), BindsTo s fd ⟨[u], []⟩ [(x, u)]) ∧ ∀ base : Heap, K.In base → base.Ns mainGlobals mg → FnG l.prog w K mg base k fa fd [x] (cSp K (spLaw n))) :
    PySem.W.WalkO q loose XP YP l.row.toRowW d [] (fun f vs => PySem.call f vs) := by
  apply Att.attach_callB hn hdf
  intro w s₀ s₁ mg mb fa o pm cd doc a vs ns g y ho hd hcd hmg hobj hints hlen hbits hg
  obtain ⟨K, fd, KX, hb, hF⟩ := F w mg fa _ y g.T.g hmg
  exact law_callG KX g.T.g g.T.b g.T.builtins g.T.nolimit hg hobj hints (Nat.le_trans hlen hn2) hr hF hb fun H hS => law_sp hlen hbits hS
end DL
set_option Elab.async false
set_option linter.all false
set_option maxRecDepth 100000
set_option maxHeartbeats 1000000
/-! DL, part 33: an exception of one's own as a value. -/
namespace DL
open PySem PySem.Spec L2 PyProof.Rows
section
variable {X : Cx} {e : Expr} {es : List Expr} {ta : TA} {x : Str} {C fI : Addr} {p pos : Pos} {k : Nat} {fd : FuncData} {ps : List Str} {f : Str}
/-- C(e): a new exception, held -/
theorem pe_newX {sp : Sp} (T : OexC X.K C) (iC : PySem.W.findIn X.K (.ref C) "__init__" = some (some (.ref fI))) (tI : PySem.W.typeIn X.K (.ref fI) = some (.type "function"))
    (F1 : FnOk X.prog X.w X.K X.mg X.base CX0 k fI fd ps sp) (hr : Room (k + 1) X.A) (hb : Binds X.K fd ps []) (hg : Gl X x) (hm : X.mg x = some (.ref C)) (ha : PA X (e :: es) ta)
    (hdb : (x == ("__debug__" : Str)) = false := by decide) (he : starEach (e :: es) X.env = (false, eval e X.env) :: starEach es X.env := by rfl) (hpl : (backTo pos (starEach es X.env)).any (·.1) = false := by rfl) :
    PE X (.Call (.Name x p) (e :: es) [] pos) (fun σ H Q => ta σ H fun vs H1 => vs.length ≤ 1000 ∧ ∀ a, H1 a = none → sp (.ref a :: vs) (upd H1 a (exo a C none)) (fun v H2 => v = .non ∧ Q (.ref a) H2) (fun _ _ _ => False)) := by
  refine ⟨fun pins s σ H Q I h => ?_⟩
  obtain ⟨nm, q, N, bs, bm, sn, sub, ab, col, dd, k0, k1, k2, k3, k5, hC, hbm⟩ := T.cls
  apply wpAny_Call_Name_kw
  apply ld_glob I hg hm ?_ hdb
  refine PySem.W.callWith_K (h₀ := X.base) I.ok.mod.kin T.kC (thn (ha.run pos pins s σ H _ I h) fun us s1 hh => ?_) he hpl
  obtain ⟨vs, H1, I1, r1, hz, q1⟩ := hh
  refine ⟨I1.kIn, ?_⟩
  show wpAny _ _ (call (.ref C) us) _ _ _
  obtain ⟨hp, g, dr, tk, os⟩ := s1
  obtain ⟨A0, hA0⟩ : ∃ A0, A0 = hp.objs.size + 1 := ⟨_, rfl⟩
  have big : hp.objs.size ≤ A0 := by omega
  have none1 : H1 A0 = none := I1.hok.fresh big
  have q2 := q1 A0 none1
  have keeps : ∀ b o, hp.get? b = some o → ((hp.push (PySem.W.kdv_tup us)).push (PySem.HandSPX.excO C hp.objs.size)).get? b = some o := fun b o e => Heap.get?_push_of_some _ (Heap.get?_push_of_some _ e)
  have at_ : ((hp.push (PySem.W.kdv_tup us)).push (PySem.HandSPX.excO C hp.objs.size)).get? A0 = some (PySem.HandSPX.excO C hp.objs.size) := by rw [hA0]; heap_get
  have I2 := I1.laid (t' := tk) (a := A0) (o := exo A0 C none) (h' := (hp.push (PySem.W.kdv_tup us)).push (PySem.HandSPX.excO C hp.objs.size)) keeps big (exo_ok at_)
  have r2 : Vals (V.ref A0 :: vs) (Value.ref A0 :: us) := .cons rfl r1
  have hl : (Value.ref A0 :: us ++ []).length = ps.length := by
    rw [List.append_nil, ← r2.length]
    exact F1.len _ _ _ _ q2
  have hus : us.length ≤ sizeLine := by rw [← Paired.length r1, sizeLine_eq]; omega
  have bnd := hb _ (Value.ref A0 :: us) I2.kIn hl
  rw [List.append_nil] at bnd
  have ran := F1.run _ X.stack _ _ ⟨Value.ref A0 :: us, []⟩ (Value.ref A0 :: us) _ _ (fun _ _ _ => False) (hr.make C us []) (I2.env0.make C us []) bnd r2 q2
  rw [hA0] at ran
  refine wpAny_call (PySem.HandSPX.call_own F.excBase_ValueError (fun Y => PySem.HandSPX.refsVE_contains Y bm hbm) (I1.kIn _ _ hC) (PySem.W.looks_findIn I1.kIn iC) (fun self => PySem.W.bind_fn I1.kIn self tI) hus (codeAny_mono ran fun r s' hq => ?_))
  match r, hq with
  | .error er, hq => exact False.elim hq
  | .ok .next, hq => exact False.elim hq
  | .ok .brk, hq => exact False.elim hq
  | .ok .cont, hq => exact False.elim hq
  | .ok (.ret u), hq =>
    rw [← hA0] at hq
    obtain ⟨v, H2, os2, bare2, un2, hok2, rv, ev, q3⟩ := hq
    subst ev
    have J := I2.after (Q := fun v H2 => v = .non ∧ Q (.ref A0) H2) ⟨.non, H2, os2, bare2, un2, hok2, rv, rfl, q3⟩
    obtain ⟨v, H3, I3, rv3, ev3, q4⟩ := J
    subst ev3
    refine ⟨rv, ?_⟩
    exact ⟨.ref A0, H3, I3, by rw [hA0]; rfl, q4⟩
end
def dNewX (C : Addr) (f : Str) (ta : DTA) : DTE := fun δ G Q => ta δ G fun ds G1 => match ds with
  | [d] => ∀ a, G1 a = none → Q (.ref a) (gupd G1 a (.exo C [(f, d)]))
  | _ => False
section
variable {X : Cx} {e : Expr} {es : List Expr} {ta : DTA} {x : Str} {C fI : Addr} {p pos : Pos} {k : Nat} {fd : FuncData} {ps : List Str} {f : Str}
theorem de_newX (T : OexC X.K C) (T2 : ExoF X.K C) (iC : PySem.W.findIn X.K (.ref C) "__init__" = some (some (.ref fI))) (tI : PySem.W.typeIn X.K (.ref fI) = some (.type "function"))
    (F1 : FnOk X.prog X.w X.K X.mg X.base CX0 k fI fd ps (spI C f)) (hr : Room (k + 1) X.A) (hb : Binds X.K fd ps []) (hg : Gl X x) (hm : X.mg x = some (.ref C)) (ha : DA X (e :: es) ta)
    (hdb : (x == ("__debug__" : Str)) = false := by decide) (he : starEach (e :: es) X.env = (false, eval e X.env) :: starEach es X.env := by rfl) (hpl : (backTo pos (starEach es X.env)).any (·.1) = false := by rfl) :
    DE X (.Call (.Name x p) (e :: es) [] pos) (dNewX C f ta) :=
  PE.mono (pe_newX T iC tI F1 hr hb hg hm ha hdb he hpl) fun σ H Q ⟨δ, G, Z, Q0, ok, rs, h, kq⟩ =>
    ⟨δ, G, Z, _, ok, rs, h, fun ds G1 vs H1 h1 k1 ok1 r1 => by
      rcases r1 with _ | ⟨ra, r1⟩
      · exact False.elim h1
      rcases r1 with _ | ⟨rb, r1⟩
      · next d v =>
        refine ⟨by simp, fun a hna => ⟨a, v, rfl, upd_same, fun dx hdx hne => ⟨rfl, ?_⟩⟩⟩
        have h1 : ∀ a, G1 a = none → Q0 (.ref a) (gupd G1 a (.exo C [(f, d)])) := h1
        have hdx' : H1 dx = none := by rw [upd_ne hne] at hdx; exact hdx
        have ea : (upd (upd (upd H1 a (exo a C none)) dx (exd dx [(f, v)])) a (exo a C (some dx))) = upd (upd H1 dx (exd dx [(f, v)])) a (exo a C (some dx)) := by
          funext b
          by_cases q : b = a
          · rw [q, upd_same, upd_same]
          · rw [upd_ne q, upd_ne q]
            by_cases q2 : b = dx
            · rw [q2, upd_same, upd_same]
            · rw [upd_ne q2, upd_ne q2, upd_ne q]
        rw [ea]
        have k2 : Kp H1 G1 Z (upd H1 dx (exd dx [(f, v)])) G1 := Kp.laid hdx'
        have ok2 := ok1.laid (o := exd dx [(f, v)]) hdx'
        have ha2 : (upd H1 dx (exd dx [(f, v)])) a = none := by rw [upd_ne (Ne.symm hne)]; exact hna
        have ga : G1 a = none := (ok1.free hna).1
        have k3 : Kp (upd H1 dx (exd dx [(f, v)])) G1 Z (upd (upd H1 dx (exd dx [(f, v)])) a (exo a C (some dx))) (gupd G1 a (.exo C [(f, d)])) := Kp.laidG ha2 ga
        have fr := ok1.free hdx'
        refine kq _ _ _ _ (h1 a ga) (k1.trans (k2.trans k3)) (ok2.laidG ha2 ⟨T2, dx, [(f, v)], upd_same, U_of (by rw [gupd_ne hne]; exact fr.1) fr.2 (by rw [upd_ne hne, upd_same]), rfl, .cons (ra.mono (k2.trans k3).keep) .nil⟩) (.ref a)
      · exact False.elim h1⟩
end
/-! what the module's own exception class tells -/
def exoB (K : PySem.W.Frag) (C : Addr) : Bool :=
  decide (PySem.W.findIn K (.ref C) "__getattribute__" = some (some (.builtin "BaseException.__getattribute__"))) && (decide (PySem.W.findIn K (.ref C) "__getattr__" = some none) && (decide (PySem.W.subIn K (.ref C) (.type "BaseException") = some true) && (PySem.W.hasDictIn K C &&
  (decide (PySem.W.findIn K (.ref C) "__class__" = some (some (.builtin "object.__class__"))) && (decide (PySem.W.specialIn K (.builtin "object.__class__") "__get__" = some (some (.builtin "getset_descriptor.__get__"))) && (decide (PySem.W.takesIn K (.builtin "object.__class__") = some true) &&
  (decide (PySem.W.mroIn K C (.type "object") = some true) && [Tg.int, .bool, .str, .tup, .lst, .dct, .non, .exc].all fun t => decide (PySem.W.kitOne K (.ref C) (.type t.name) = some false))))))))
theorem exoB_ok {K : PySem.W.Frag} {C : Addr} (h : exoB K C = true) : ExoF K C := by
  unfold exoB at h
  simp only [Bool.and_eq_true, decide_eq_true_eq, List.all_eq_true] at h
  obtain ⟨h1, h2, h3, h4, h5, h6, h7, h8, h9⟩ := h
  exact ⟨⟨h1, h2, h3, h4, h5, h6, h7, h8⟩, fun t => h9 t (by cases t <;> simp)⟩
end DL
set_option Elab.async false
set_option linter.all false
set_option maxRecDepth 100000
set_option maxHeartbeats 1000000
/-! DL, part 34: pairs taken apart while an exception is handled. -/
namespace DL
open PySem PySem.Spec L2 PyProof.Rows HotX
section
variable {prog : Program} {w : World} {A : Around} {E : Value → Shared → Prop} {s : Shared}
/-- a tuple's iterator at its end, where an exception is handled -/
theorem tupEndHot {q t x1 : Addr} {n : Nat} {its : Array Value} {Q : Option Value → Shared → Prop} (hot : HotAt A x1 s.heap) (hx1 : x1 ≠ q) (hq : IsTupIter s.heap q t n) (ht : IsTup s.heap t its) (hn : its[n]? = none)
    (hQ : ∀ h', Heap.ExtBut q s.heap h' → Q none { s with heap := h' }) : wpAny (model prog w) A (pyNext (.ref q)) Q E s := by
  obtain ⟨oq, g1, c1, d1⟩ := id hq
  obtain ⟨ot, g2, _, l2, d2⟩ := ht
  obtain ⟨hh, o1, vs1, h1, dd1, cc1⟩ := hot
  unfold pyNext
  refine wpAny_bind (wpAny_attempt (wpAny_callSpecial?_slot (name := Str.ofString "__next__") hq.typeIs slot_tupleiter_next
    (wpAny_call_entry slot_tupleiter_next hq.typeIs entry_tupleiter_next ?_ (args_tupleiter_next _))))
  show wpAny _ _ (field (.ref q) 0 >>= _) _ _ s
  refine wpAny_bind (wpAny_field g1 d1 (x := .ref t) rfl ?_)
  show wpAny _ _ (if (Value.ref t == Value.none) = true then _ else _) _ _ s
  rw [if_neg (show ¬ ((Value.ref t == Value.none) = true) from Bool.false_ne_true)]
  show wpAny _ _ (field (.ref q) 1 >>= _) _ _ s
  refine wpAny_bind (wpAny_field g1 d1 (x := .int n 0) rfl ?_)
  show wpAny _ _ (seqItems? (.ref t) >>= _) _ _ s
  refine wpAny_bind (wpAny_seqItems g2 d2 ?_)
  simp only [Int.toNat_natCast, hn]
  refine wpAny_bind (wpAny_rule (wpAny_bind (wpAny_setField g1 d1 (by simp) ?_)))
  show wpAny _ _ (newExc (.type "StopIteration") [] >>= _) _ _ _
  refine wpAny_bind ?_
  simp only [newExc, newTuple]
  refine wpAny_bind (wpAny_newObj_type ?_ (by size_fits))
  refine wpAny_bind (m := firstArgMember _ _) (wpAny_of_eq (a := Value.none) (by first | rfl | (simp only [firstArgMember]; rfl)) ?_)
  refine wpAny_newObj_type ?_ (by size_fits)
  have h2 : (s.heap.update q (Obj.mapFields fun x => x.setIfInBounds 0 Value.none)).get? x1 = some o1 := by
    rw [Heap.get?_update_other _ _ (Ne.symm hx1)]
    exact h1
  refine raiseNew_hot ⟨hh, o1, vs1, Heap.get?_push_of_some _ (Heap.get?_push_of_some _ h2), dd1, cc1⟩ (Nat.ne_of_lt (Heap.lt_size (Heap.get?_push_of_some _ h2))) (Heap.get?_push_size _ rfl) rfl
    (by first | (simp; done) | (simp; omega) | (simp only [Array.size_append]; simp; omega)) ?_
  refine wpAny_bind (wpAny_isInstance (T := "StopIteration") (b := true) ⟨_, Heap.get?_update_self _ (Heap.get?_push_size _ rfl) rfl, rfl⟩ isSubtype_stop ?_)
  refine wpAny_pure (hQ _ fun b o hb e => ?_)
  have e2 : (s.heap.update q (Obj.mapFields fun x => x.setIfInBounds 0 Value.none)).get? b = some o := by
    rw [Heap.get?_update_other _ _ (Ne.symm hb)]
    exact e
  rw [Heap.get?_update_other _ _ (Nat.ne_of_gt (Heap.lt_size (Heap.get?_push_of_some _ e2)))]
  exact Heap.get?_push_of_some _ (Heap.get?_push_of_some _ e2)
theorem apartHot {t x1 : Addr} {its : Array Value} {Q : List Value → Shared → Prop} (hot : HotAt A x1 s.heap) (ht : IsTup s.heap t its)
    (hQ : ∀ h', Heap.ExtBut s.heap.objs.size s.heap h' → Q its.toList { s with heap := h' }) : wpAny (model prog w) A (unpackItems (.ref t) its.size none) Q E s := by
  have tne : t ≠ s.heap.objs.size := by
    obtain ⟨o, ho, _⟩ := ht
    exact Nat.ne_of_lt (Heap.lt_size ho)
  obtain ⟨hh, o1, vs1, h1, dd1, cc1⟩ := hot
  have xne : x1 ≠ s.heap.objs.size := Nat.ne_of_lt (Heap.lt_size h1)
  unfold unpackItems
  refine wpAny_bind ?_
  unfold notIterableAtAll
  refine wpAny_bind (wpAny_specialOf ht.typeIs slot_tuple_iter.lookup ?_)
  refine wpAny_pure ?_
  simp only [Bool.false_eq_true, if_false]
  refine wpAny_bind (wpAny_holding (iter_tuple ht ?_))
  refine wpAny_bind (wpAny_holding (draw_tuple tne its.size 0 _ _ ⟨_, Heap.get?_push_size _ rfl, rfl, rfl⟩ (ht.push _) (by omega) fun g1 it1 sb1 => ?_))
  have all_ : List.take its.size (List.drop 0 its.toList) = its.toList := by
    rw [List.drop_zero]
    exact List.take_of_length_le (by simp)
  rw [all_, if_neg (by simp)]
  have tg : IsTup g1 t its := (ht.push _).extBut sb1.extBut tne
  have xg : g1.get? x1 = some o1 := sb1.extBut x1 o1 xne (Heap.get?_push_of_some _ h1)
  refine wpAny_bind (wpAny_holding (tupEndHot ⟨hh, o1, vs1, xg, dd1, cc1⟩ xne it1 tg (by simp) fun g2 eb2 => ?_))
  simp only [Option.isSome_none, Bool.false_eq_true, if_false]
  exact wpAny_pure (hQ g2 fun b o hb e => eb2 b o hb (sb1.extBut b o hb (Heap.get?_push_of_some _ e)))
end
/-- a, b = x, y with plain local names, where an exception is handled -/
theorem ps_parH {X : Cx} {i j : Nat} {x y : Str} {a b : Expr} {ta : TA} {px py pt pos : Pos} {kt k2 pt2} (hc : L2H.HotC X) (hN : X.N.Nodup) (hi : X.N[i]? = some x) (hj : X.N[j]? = some y) (hij : i ≠ j)
    (hx : X.env.scope.names.lookup x = some .local) (hy : X.env.scope.names.lookup y = some .local) (ha : PA X [a, b] ta)
    (hw : swappedStores [.Tuple [.Name x px, .Name y py] kt pt] (.Tuple [a, b] k2 pt2) X.env = pure (some [x, y]))
    (hs : swapsWithSole [.Tuple [.Name x px, .Name y py] kt pt] (.Tuple [a, b] k2 pt2) pos.line X.env = pure false := by rfl) :
    PS X (.Assign [.Tuple [.Name x px, .Name y py] kt pt] (.Tuple [a, b] k2 pt2) pos) (tPar i j ta) := by
  refine ⟨fun pins s σ H D I h => ?_⟩
  rw [exec_Assign_arm]
  refine wpAny_bind (wpAny_standAt ?_)
  rw [hs]
  refine wpAny_bind (wpAny_pure ?_)
  rw [if_neg (by decide)]
  refine wpAny_bind (Tuple_ (thn (ha.run _ pins s σ H _ I h) fun us s1 ⟨vs, H1, I1, r1, v, w, e1, q1⟩ => ?_))
  subst e1
  obtain ⟨u1, u2, rfl, rv, rw_⟩ : ∃ u1 u2, us = [u1, u2] ∧ RelV v u1 ∧ RelV w u2 := by
    cases r1 with
    | cons r2 t1 =>
      cases t1 with
      | cons r3 t2 =>
        cases t2
        exact ⟨_, _, rfl, r2, r3⟩
  refine wpAny_newObj_type ?_ (by show 2 ≤ sizeLine; decide)
  have J : Inv X pins σ H1 { s1 with heap := s1.heap.push { cls := .type "tuple", data := .seq [u1, u2].toArray } } := I1.kept (t' := s1.toks) fun b o e => Heap.get?_push_of_some _ e
  obtain ⟨x1, hot⟩ := hc.at J
  rw [hw]
  refine wpAny_bind (wpAny_pure ?_)
  show wpAny (model X.prog X.w) X.A (do rule "assign.swapped-stores"; let zs ← unpackItems (.ref s1.heap.objs.size) 2 none; assignInOrder [fun z => bindName X.env y z, fun z => bindName X.env x z] zs.reverse; pure Flow.next) _ _ _
  refine wpAny_bind (wpAny_rule (wpAny_bind (apartHot (its := #[u1, u2]) hot (IsTup.new s1.heap _) fun g1 eb => ?_)))
  have J1 := J.kept (h' := g1) (t' := s1.toks) fun b o e => eb b o (Nat.ne_of_lt (Heap.lt_size e)) e
  show wpAny _ _ (assignInOrder [fun z => bindName X.env y z, fun z => bindName X.env x z] [u2, u1] >>= fun _ => pure Flow.next) _ _ _
  refine wpAny_bind (assignInOrder_cons (wpAny_bindName (store_ok J1 hN hj (.inl hy) rw_ (fun s2 J2 => ?_) (.inr hy))))
  refine assignInOrder_cons (wpAny_bindName (store_ok J2 hN hi (.inl hx) rv (fun s3 J3 => assignInOrder_nil (wpAny_pure ?_)) (.inr hx)))
  have J3 := J3
  rw [List.set_comm _ _ (Ne.symm hij)] at J3
  exact ⟨_, H1, J3, q1⟩
end DL
set_option Elab.async false
set_option linter.all false
set_option maxRecDepth 100000
set_option maxHeartbeats 1000000
/-! DL, part 35: exceptions whose context is None (L2N). Printed by mk35.py out of DL12, DL14, DL16, DL18. -/
namespace DL
open PySem PySem.Spec L2
def DMkN (X : Cx) (e : Expr) (t : DTM) : Prop := L2N.PMk X e (cM X.K t)
theorem PMkN.mono {X : Cx} {e : Expr} {t u : St → Hp → XK → Prop} (h : L2N.PMk X e t) (k : ∀ σ H Q, u σ H Q → t σ H Q) : L2N.PMk X e u := fun pins s σ H Q I q => h pins s σ H Q I (k σ H Q q)
section
variable {X : Cx} {W : WX} {e : Expr} {t : DTX} {tm : DTM} {pos : Pos}
theorem ds_raiseN (hc : X.calm = true) (tk : L2N.Takes X W) (he : DMkN X e tm) : DS X W (.Raise (some e) none pos) (dRaise tm) :=
  PS.mono (L2N.ps_raise hc tk he) fun E σ H ⟨δ, G, Z, D0, ok, rs, h, l⟩ => ⟨δ, G, Z, _, ok, rs, h, l.xl rs⟩
theorem de_callXN {k : Nat} {f : Addr} {fd : FuncData} {ps : List Str} {sp : DSp} {x : Str} {p : Pos} {es : List Expr} {ta : DTA} (tk : L2N.Takes X W) (F : FnOk X.prog X.w X.K X.mg X.base (L2N.CX X.prog X.w) k f fd ps (cSp X.K sp)) (hr : Room k X.A) (hg : Gl X x) (hm : X.mg x = some (.ref f)) (hk : PySem.W.keepIn X.K (.ref f) = true) (hb : Binds X.K fd ps [])
    (ha : DA X (e :: es) ta) (hdb : (x == ("__debug__" : Str)) = false := by decide) (he : starEach (e :: es) X.env = (false, eval e X.env) :: starEach es X.env := by rfl) (hpl : (backTo pos (starEach es X.env)).any (·.1) = false := by rfl) :
    DEx X W (.Call (.Name x p) (e :: es) [] pos) (dCallX sp ta) :=
  PE.mono (pe_callS (E := WE W) F hr hg hm hk hb (fun σ => L2N.passAt tk σ) ha hdb he hpl) fun σ H Q ⟨δ, G, Z, Q0, E0, ok, rs, h, k, x⟩ =>
    ⟨δ, G, Z, _, ok, rs, h, fun ds G1 vs H1 h1 k1 ok1 r1 => ⟨ds, G1, Z, Q0, E0, ok1, r1, h1, fun d G' v H' q k2 ok2 r2 => k _ _ _ _ q (k1.trans k2) ok2 r2, x.after k1⟩⟩
end
theorem takes_w0N {X : Cx} : L2N.Takes X W0 := fun u s' ⟨a, B, sI, pins, σ, H, cls, d, e, I, nb, up, sky, na, os, ag, w⟩ => w.elim
theorem passX0N {X : Cx} : Passes (L2N.CX X.prog X.w) X (fun _ _ _ => False) := fun pins σ H s e s' I c => L2N.passAt (W := W0) takes_w0N σ pins H s e s' I c
section
variable {P : Program} {w : World} {K : PySem.W.Frag} {mg : Str → Option Value} {base : Heap} {x qual : Str} {st : Stmt} {f : Addr} {fd : FuncData} {N ps : List Str} {k : Nat} {t : DTS} {l : DSt} {dv : List V} {kv : List (Str × V)}
theorem takes_cxN {scope : Scope} {cdv : Value} {A : Around} {outer : List Env} {s : Shared} {H : Hp} {E : XK} : L2N.Takes (cxOf (L2N.CX P w) P w K mg base N qual scope f cdv A outer s H E) (WD E) := L2N.takes_of rfl rfl rfl rfl
theorem passes_cxN {scope : Scope} {cdv : Value} {A : Around} {outer : List Env} {s : Shared} {H : Hp} {E : XK} : PassesOwn (model P w) (cxOf (L2N.CX P w) P w K mg base N qual scope f cdv A outer s H E).A (cxOf (L2N.CX P w) P w K mg base N qual scope f cdv A outer s H E).env (cxOf (L2N.CX P w) P w K mg base N qual scope f cdv A outer s H E).xe := passes_of rfl
abbrev DerXN (P : Program) (w : World) (K : PySem.W.Frag) (mg : Str → Option Value) (base : Heap) (N : List Str) (qual : Str) (st : Stmt) (f : Addr) (k : Nat) (t : DTS) : Prop :=
  ∀ (cdv : Value) (A : Around) (outer : List Env) (s : Shared) (H : Hp) (E : XK), Room k (A.deeper (PyProof.Rows.envOfC qual (defScope st) s.heap.objs.size f cdv)) → DSs (cxOf (L2N.CX P w) P w K mg base N qual (defScope st) f cdv A outer s H E) (WD E) (defBody st) t
theorem DFunXN.ok {sp : DSp} (F : FunD K x qual (defArgs st) (defBody st) (defScope st) dv kv f fd) (S : FnScope N ps (defScope st)) (len : ∀ ds G Q E, sp ds G Q E → ds.length = ps.length) (d : DerXN P w K mg base N qual st f k t)
    (rd : ∀ ds G Q E0, sp ds G Q E0 → DRunX t (dstart N ds) G Q E0) : FnOk P w K mg base (L2N.CX P w) (k + 1) f fd ps (cSp K sp) := by
  refine F.ok S (fun vs H Q E ⟨ds, G, Z, Q0, E0, ok, rs, h, k, x⟩ => rs.length.symm.trans (len _ _ _ _ h)) fun cdv A outer s H vs Q E hr ⟨ds, G, Z, Q0, E0, ok, rs, h, k, x⟩ => ?_
  refine ⟨_, d cdv A outer s H E hr, _, G, Z, _, ok, RepSt.start rs, rd ds G Q0 E0 h, ⟨fun δ' G' σ' H' q k1 ok1 _ => k _ _ _ _ q k1 ok1 .non, fun _ _ _ _ q => q.elim, fun _ _ _ _ q => q.elim, fun d G' v H' q k1 ok1 r1 => k _ _ _ _ q k1 ok1 r1,
    fun c δ' G' σ' H' q k1 ok1 _ => x.bare c G' H' q k1 ok1, fun c fs δ' G' σ' H' dx xs q k1 ok1 _ u e r => x.own c fs G' H' dx xs q k1 ok1 u e r⟩⟩
theorem DFunXN.ok0 {p : GHp → DK → DXK → Prop} (F : FunD K x qual (defArgs st) (defBody st) (defScope st) dv kv f fd) (S : FnScope N ps (defScope st)) (hp : ps.length = 0) (hl : List.replicate (N.length - 0) none = l) (d : DerXN P w K mg base N qual st f k t)
    (rd : ∀ G Q E, p G Q E → DRunX t (l) G Q E) : FnOk P w K mg base (L2N.CX P w) (k + 1) f fd ps (cSp K (sp0 p)) :=
  DFunXN.ok F S (fun ds G Q E h => by
    match ds, h with
    | [], _ => exact hp.symm) d fun ds G Q E0 h => by
    match ds, h with
    | [], h => subst hl; exact rd G Q E0 h
theorem DFunXN.ok1 {p : D → GHp → DK → DXK → Prop} (F : FunD K x qual (defArgs st) (defBody st) (defScope st) dv kv f fd) (S : FnScope N ps (defScope st)) (hp : ps.length = 1) (hl : List.replicate (N.length - 1) none = l) (d : DerXN P w K mg base N qual st f k t)
    (rd : ∀ a G Q E, p a G Q E → DRunX t (some a :: l) G Q E) : FnOk P w K mg base (L2N.CX P w) (k + 1) f fd ps (cSp K (sp1 p)) :=
  DFunXN.ok F S (fun ds G Q E h => by
    match ds, h with
    | [_], _ => exact hp.symm) d fun ds G Q E0 h => by
    match ds, h with
    | [a], h => subst hl; exact rd a G Q E0 h
theorem DFunXN.ok2 {p : D → D → GHp → DK → DXK → Prop} (F : FunD K x qual (defArgs st) (defBody st) (defScope st) dv kv f fd) (S : FnScope N ps (defScope st)) (hp : ps.length = 2) (hl : List.replicate (N.length - 2) none = l) (d : DerXN P w K mg base N qual st f k t)
    (rd : ∀ a b G Q E, p a b G Q E → DRunX t (some a :: some b :: l) G Q E) : FnOk P w K mg base (L2N.CX P w) (k + 1) f fd ps (cSp K (sp2 p)) :=
  DFunXN.ok F S (fun ds G Q E h => by
    match ds, h with
    | [_, _], _ => exact hp.symm) d fun ds G Q E0 h => by
    match ds, h with
    | [a, b], h => subst hl; exact rd a b G Q E0 h
theorem DFunXN.ok3 {p : D → D → D → GHp → DK → DXK → Prop} (F : FunD K x qual (defArgs st) (defBody st) (defScope st) dv kv f fd) (S : FnScope N ps (defScope st)) (hp : ps.length = 3) (hl : List.replicate (N.length - 3) none = l) (d : DerXN P w K mg base N qual st f k t)
    (rd : ∀ a b c G Q E, p a b c G Q E → DRunX t (some a :: some b :: some c :: l) G Q E) : FnOk P w K mg base (L2N.CX P w) (k + 1) f fd ps (cSp K (sp3 p)) :=
  DFunXN.ok F S (fun ds G Q E h => by
    match ds, h with
    | [_, _, _], _ => exact hp.symm) d fun ds G Q E0 h => by
    match ds, h with
    | [a, b, c], h => subst hl; exact rd a b c G Q E0 h
theorem DFunXN.ok4 {p : D → D → D → D → GHp → DK → DXK → Prop} (F : FunD K x qual (defArgs st) (defBody st) (defScope st) dv kv f fd) (S : FnScope N ps (defScope st)) (hp : ps.length = 4) (hl : List.replicate (N.length - 4) none = l) (d : DerXN P w K mg base N qual st f k t)
    (rd : ∀ a b c e G Q E, p a b c e G Q E → DRunX t (some a :: some b :: some c :: some e :: l) G Q E) : FnOk P w K mg base (L2N.CX P w) (k + 1) f fd ps (cSp K (sp4 p)) :=
  DFunXN.ok F S (fun ds G Q E h => by
    match ds, h with
    | [_, _, _, _], _ => exact hp.symm) d fun ds G Q E0 h => by
    match ds, h with
    | [a, b, c, e], h => subst hl; exact rd a b c e G Q E0 h
theorem DFunXN.ok5 {p : D → D → D → D → D → GHp → DK → DXK → Prop} (F : FunD K x qual (defArgs st) (defBody st) (defScope st) dv kv f fd) (S : FnScope N ps (defScope st)) (hp : ps.length = 5) (hl : List.replicate (N.length - 5) none = l) (d : DerXN P w K mg base N qual st f k t)
    (rd : ∀ a b c e g G Q E, p a b c e g G Q E → DRunX t (some a :: some b :: some c :: some e :: some g :: l) G Q E) : FnOk P w K mg base (L2N.CX P w) (k + 1) f fd ps (cSp K (sp5 p)) :=
  DFunXN.ok F S (fun ds G Q E h => by
    match ds, h with
    | [_, _, _, _, _], _ => exact hp.symm) d fun ds G Q E0 h => by
    match ds, h with
    | [a, b, c, e, g], h => subst hl; exact rd a b c e g G Q E0 h
theorem DFunXN.ok6 {p : D → D → D → D → D → D → GHp → DK → DXK → Prop} (F : FunD K x qual (defArgs st) (defBody st) (defScope st) dv kv f fd) (S : FnScope N ps (defScope st)) (hp : ps.length = 6) (hl : List.replicate (N.length - 6) none = l) (d : DerXN P w K mg base N qual st f k t)
    (rd : ∀ a b c e g i G Q E, p a b c e g i G Q E → DRunX t (some a :: some b :: some c :: some e :: some g :: some i :: l) G Q E) : FnOk P w K mg base (L2N.CX P w) (k + 1) f fd ps (cSp K (sp6 p)) :=
  DFunXN.ok F S (fun ds G Q E h => by
    match ds, h with
    | [_, _, _, _, _, _], _ => exact hp.symm) d fun ds G Q E0 h => by
    match ds, h with
    | [a, b, c, e, g, i], h => subst hl; exact rd a b c e g i G Q E0 h
end
section
variable {X : Cx} {W : WX} {x n f : Str} {c : Value} {C : Addr} {i : Nat} {body : List Stmt} {np p1 p2 p3 pos pos' : Pos} {tb : DTS}
theorem ds_tryRetN (hs : X.stack = X.env :: X.outer) (hf : X.env.frame = some X.env.locals) (hN : X.N.Nodup) (hi : X.N[i]? = some n) (hln : X.env.kindOf n = some .local) (hc : Names X x c) (tk : L2N.Takes X W)
    (hb : ∀ (W' : WX) (pn : List (Addr × Obj)) (xe : Value → Shared → Prop), L2N.Takes (X.tr pn xe) W' → PassesOwn (model X.prog X.w) X.A X.env xe → DSs (X.tr pn xe) W' body tb)
    (T : XfC X.K C) (hno : PySem.W.findIn X.K (.ref C) f = some none)
    (hv : ∀ (a : Addr) (pn : List (Addr × Obj)), PE (X.suite a pn) (.Name n p1) (tVar i)) :
    DS X W (.Try body [.ExceptHandler (some (.Name x np)) (some n) [.Return (some (.Attribute (.Name n p1) f p2)) p3] pos'] [] [] pos) (dTryRet X.K c C f i tb) :=
  PS.mono (L2N.ps_try_as (tb := fun W' => cS X.K W' tb) (ts := fun a cls d D σ H => tXf a cls d C f (tVar i) σ H D.rt) hs hf hN hi hln hc tk (fun W' pn xe t1 t2 => hb W' pn xe t1 t2)
    (fun a oe cls d pn hz hfl => pss_one (ps_ret (pe_xf T hno hz.zc hfl (hv a _))))) fun E σ H ⟨δ, G, Z, D0, ok, rs, h, l⟩ => by
    refine ⟨δ, G, Z, _, ok, rs, h, ⟨l.nx, l.bk, l.ct, l.rt, fun cls δ' G' σ' H' q k ok' rs' => ?_, fun cls fs δ' G' σ' H' dx xs q k ok' rs' u e r => ?_⟩⟩
    · obtain ⟨b, hb1, h1, h2⟩ := q
      refine ⟨b, hb1, fun hb2 => ?_, fun hb2 => l.exb _ _ _ _ _ (h2 hb2) k ok' rs'⟩
      obtain ⟨_, _, fs', d, e, _⟩ := h1 hb2
      cases e
    · obtain ⟨b, hb1, h1, h2⟩ := q
      refine ⟨b, hb1, fun hb2 a ha => ?_, fun hb2 => l.exo _ _ _ _ _ _ _ _ (h2 hb2) k ok' rs' u e r⟩
      obtain ⟨ec, hil, fs', d, ef, hl, hrt⟩ := h1 hb2
      cases ef
      obtain ⟨v, hv1, hv2⟩ := lookup_rep e r hl
      have hl2 : i < σ'.length := by rw [← rs'.length]; exact hil
      exact ⟨.ref a, by simp [hl2], rfl, ec, dx, xs, v, rfl, U_le _ _ u, hv1, l.rt _ _ _ _ hrt k ok' hv2⟩
end
end DL
set_option Elab.async false
set_option linter.all false
set_option maxRecDepth 100000
set_option maxHeartbeats 1000000
/-! DL, part 36: own exceptions raised where nothing is handled; handlers whose suite goes on. -/
namespace DL
open PySem PySem.Spec L2
section
variable {X : Cx} {e : Expr} {es : List Expr} {ta : TA} {x : Str} {C fI : Addr} {p pos : Pos} {k : Nat} {fd : FuncData} {ps : List Str} {f : Str}
/-- C(e), made to be raised -/
theorem pmk_ownN {sp : Sp} (T : OexC X.K C) (iC : PySem.W.findIn X.K (.ref C) "__init__" = some (some (.ref fI))) (tI : PySem.W.typeIn X.K (.ref fI) = some (.type "function"))
    (F1 : FnOk X.prog X.w X.K X.mg X.base CX0 k fI fd ps sp) (hr : Room (k + 1) X.A) (hb : Binds X.K fd ps []) (hg : Gl X x) (hm : X.mg x = some (.ref C)) (ha : PA X (e :: es) ta)
    (hdb : (x == ("__debug__" : Str)) = false := by decide) (he : starEach (e :: es) X.env = (false, eval e X.env) :: starEach es X.env := by rfl) (hpl : (backTo pos (starEach es X.env)).any (·.1) = false := by rfl) :
    L2N.PMk X (.Call (.Name x p) (e :: es) [] pos) (tMkO C sp [] ta) := by
  intro pins s σ H Q I h
  obtain ⟨nm, q, N, bs, bm, sn, sub, ab, col, dd, k0, k1, k2, k3, k5, hC, hbm⟩ := T.cls
  apply wpAny_Call_Name_kw
  apply ld_glob I hg hm ?_ hdb
  refine PySem.W.callWith_K (h₀ := X.base) I.ok.mod.kin T.kC (thn (ha.run pos pins s σ H _ I h) fun us s1 hh => ?_) he hpl
  obtain ⟨vs, H1, I1, r1, hz, q1⟩ := hh
  refine ⟨I1.kIn, ?_⟩
  show wpAny _ _ (call (.ref C) us) _ _ _
  obtain ⟨hp, g, dr, tk, os⟩ := s1
  obtain ⟨A0, hA0⟩ : ∃ A0, A0 = hp.objs.size + 1 := ⟨_, rfl⟩
  have big : hp.objs.size ≤ A0 := by omega
  have none1 : H1 A0 = none := I1.hok.fresh big
  have q2 := q1 A0 none1
  rw [List.append_nil] at q2
  have keeps : ∀ b o, hp.get? b = some o → ((hp.push (PySem.W.kdv_tup us)).push (PySem.HandSPX.excO C hp.objs.size)).get? b = some o := fun b o e => Heap.get?_push_of_some _ (Heap.get?_push_of_some _ e)
  have at_ : ((hp.push (PySem.W.kdv_tup us)).push (PySem.HandSPX.excO C hp.objs.size)).get? A0 = some (PySem.HandSPX.excO C hp.objs.size) := by rw [hA0]; heap_get
  have I2 := I1.laid (t' := tk) (a := A0) (o := exo A0 C none) (h' := (hp.push (PySem.W.kdv_tup us)).push (PySem.HandSPX.excO C hp.objs.size)) keeps big (exo_ok at_)
  have r2 : Vals (V.ref A0 :: vs) (Value.ref A0 :: us) := .cons rfl r1
  have hl : (Value.ref A0 :: us ++ []).length = ps.length := by
    rw [List.append_nil, ← r2.length]
    exact F1.len _ _ _ _ q2
  have hus : us.length ≤ sizeLine := by rw [← Paired.length r1, sizeLine_eq]; omega
  have bnd := hb _ (Value.ref A0 :: us) I2.kIn hl
  rw [List.append_nil] at bnd
  have ran := F1.run _ X.stack _ _ ⟨Value.ref A0 :: us, []⟩ (Value.ref A0 :: us) _ _ (fun _ _ _ => False) (hr.make C us []) (I2.env0.make C us []) bnd r2 q2
  rw [hA0] at ran
  refine wpAny_call (PySem.HandSPX.call_own F.excBase_ValueError (fun Y => PySem.HandSPX.refsVE_contains Y bm hbm) (I1.kIn _ _ hC) (PySem.W.looks_findIn I1.kIn iC) (fun self => PySem.W.bind_fn I1.kIn self tI) hus (codeAny_mono ran fun r s' hq => ?_))
  match r, hq with
  | .error er, hq => exact False.elim hq
  | .ok .next, hq => exact False.elim hq
  | .ok .brk, hq => exact False.elim hq
  | .ok .cont, hq => exact False.elim hq
  | .ok (.ret u), hq =>
    rw [← hA0] at hq ⊢
    obtain ⟨v, H2, os2, bare2, un2, hok2, rv, ev, d, fs, ea, ed, hd1, q3⟩ := hq
    subst ev
    obtain ⟨h2, g2, d2, t2, os'⟩ := s'
    obtain ⟨t0, Gx, J, kG, ge, hoe, na⟩ := mk_end0 (d2 := d2) (t2 := t2) I1 big keeps un2 hok2 os2 bare2 ea ed hd1
    exact ⟨rv, A0, _, _, ⟨Gx, g2, d2, t2, os'⟩, _, .ref C, some d, rfl, J, kG, ge, hoe, ⟨rfl, rfl, fun vs hv => by cases hv; rfl⟩, rfl, rfl, na, rfl, bare2, raises_own T.exC T.tyC, q3⟩
end
section
variable {X : Cx} {e : Expr} {es : List Expr} {ta : DTA} {x : Str} {C fI : Addr} {p pos : Pos} {k : Nat} {fd : FuncData} {ps : List Str} {f : Str}
theorem dm_mk1N (T : OexC X.K C) (iC : PySem.W.findIn X.K (.ref C) "__init__" = some (some (.ref fI))) (tI : PySem.W.typeIn X.K (.ref fI) = some (.type "function"))
    (F1 : FnOk X.prog X.w X.K X.mg X.base CX0 k fI fd ps (spI C f)) (hr : Room (k + 1) X.A) (hb : Binds X.K fd ps []) (hg : Gl X x) (hm : X.mg x = some (.ref C)) (ha : DA X (e :: es) ta)
    (hdb : (x == ("__debug__" : Str)) = false := by decide) (he : starEach (e :: es) X.env = (false, eval e X.env) :: starEach es X.env := by rfl) (hpl : (backTo pos (starEach es X.env)).any (·.1) = false := by rfl) :
    DMkN X (.Call (.Name x p) (e :: es) [] pos) (dMk1 C f ta) :=
  PMkN.mono (pmk_ownN T iC tI F1 hr hb hg hm ha hdb he hpl) fun σ H Q ⟨δ, G, Z, Q0, ok, rs, h, xl⟩ =>
    ⟨δ, G, Z, _, ok, rs, h, fun ds G1 vs H1 h1 k1 ok1 r1 => by
      rcases r1 with _ | ⟨ra, r1⟩
      · exact False.elim h1
      rcases r1 with _ | ⟨rb, r1⟩
      · next d v =>
        have h1 : Q0 (.ref C) (some [(f, d)]) G1 := h1
        refine ⟨by simp, fun a hna => ⟨a, v, rfl, upd_same, fun dx hdx hne => ⟨rfl, dx, [(f, v)], upd_same, by rw [upd_ne hne, upd_same], by rw [upd_ne hne] at hdx; exact hdx, ?_⟩⟩⟩
        have hdx' : H1 dx = none := by rw [upd_ne hne] at hdx; exact hdx
        rw [made_heap hna hne]
        have k2 := Kp.laid (H := H1) (G := G1) (Z := Z) (o := .xd [(f, v)]) hdx'
        exact xl.own _ _ _ _ _ _ h1 (k1.trans k2) (ok1.laid hdx') (U_laid ok1 hdx') rfl (.cons (ra.mono k2.keep) .nil)
      · exact False.elim h1⟩
end
/-- the exception that is caught is the handled one -/
theorem hot_suite {X : Cx} {a : Addr} {oe : Obj} {cls : Value} {dd : Option Addr} {pn : List (Addr × Obj)} (hz : L2N.Zn cls dd oe) (hd : ∃ vs, oe.data = .fields vs) : L2H.HotC (X.suite a ((a, oe) :: pn)) := by
  obtain ⟨vs, hd⟩ := hd
  exact ⟨(a, oe), ⟨rfl, vs, hd, hz.2.2 vs hd⟩, List.mem_cons_self⟩
/-- what a handler 'except c as n: x, y = (n.f, None)' makes of an exception -/
def exPar (K : PySem.W.Frag) (c : Value) (C : Addr) (f : Str) (i j1 j2 : Nat) (D : DEnds) : DXS := fun cls fs δ G =>
  ∃ b, PySem.W.exmOne K cls c = some b ∧ (b = true → cls = .ref C ∧ i < δ.length ∧ ∃ fs' d, fs = some fs' ∧ fs'.lookup f = some d ∧ D.nx ((((δ.set i none).set j1 (some d)).set j2 (some .non)).set i none) G) ∧ (b = false → D.ex cls fs δ G)
def dTryPar (K : PySem.W.Frag) (c : Value) (C : Addr) (f : Str) (i j1 j2 : Nat) (tb : DTS) : DTS := fun D δ G => tb { D with ex := exPar K c C f i j1 j2 D } δ G
section
variable {X : Cx} {W : WX} {x n f y1 y2 : Str} {c : Value} {C : Addr} {i j1 j2 : Nat} {body : List Stmt} {np p1 p2 p3 q1 q2 q3 q4 pos pos' : Pos} {kt k2 : Nat} {cj : Nat} {cp : Pos} {tb : DTS}
theorem ds_tryParN (hs : X.stack = X.env :: X.outer) (hf : X.env.frame = some X.env.locals) (hN : X.N.Nodup) (hi : X.N[i]? = some n) (hln : X.env.kindOf n = some .local) (hc : Names X x c) (tk : L2N.Takes X W)
    (hb : ∀ (W' : WX) (pn : List (Addr × Obj)) (xe : Value → Shared → Prop), L2N.Takes (X.tr pn xe) W' → PassesOwn (model X.prog X.w) X.A X.env xe → DSs (X.tr pn xe) W' body tb)
    (T : XfC X.K C) (hno : PySem.W.findIn X.K (.ref C) f = some none)
    (hv : ∀ (a : Addr) (pn : List (Addr × Obj)), PE (X.suite a pn) (.Name n p1) (tVar i))
    (h1 : X.N[j1]? = some y1) (h2 : X.N[j2]? = some y2) (hij : j1 ≠ j2) (hx : X.env.scope.names.lookup y1 = some .local) (hy : X.env.scope.names.lookup y2 = some .local)
    (hw : swappedStores [.Tuple [.Name y1 q1, .Name y2 q2] kt q3] (.Tuple [.Attribute (.Name n p1) f p2, .Constant .none cj cp] k2 q4) X.env = pure (some [y1, y2]))
    (hsw : swapsWithSole [.Tuple [.Name y1 q1, .Name y2 q2] kt q3] (.Tuple [.Attribute (.Name n p1) f p2, .Constant .none cj cp] k2 q4) p3.line X.env = pure false := by rfl) :
    DS X W (.Try body [.ExceptHandler (some (.Name x np)) (some n) [.Assign [.Tuple [.Name y1 q1, .Name y2 q2] kt q3] (.Tuple [.Attribute (.Name n p1) f p2, .Constant .none cj cp] k2 q4) p3] pos'] [] [] pos) (dTryPar X.K c C f i j1 j2 tb) :=
  PS.mono (L2N.ps_try_as (tb := fun W' => cS X.K W' tb) (ts := fun a cls d => tPar j1 j2 (tCons (tXf a cls d C f (tVar i)) (tCons (tC .non) tNil))) hs hf hN hi hln hc tk (fun W' pn xe t1 t2 => hb W' pn xe t1 t2)
    (fun a oe cls d pn hz hfl => pss_one (ps_parH (hot_suite hz hfl) hN h1 h2 hij hx hy (pa_cons (pe_xf T hno hz.zc hfl (hv a _)) (pa_cons pe_non pa_nil)) hw hsw))) fun E σ H ⟨δ, G, Z, D0, ok, rs, h, l⟩ => by
    refine ⟨δ, G, Z, _, ok, rs, h, ⟨l.nx, l.bk, l.ct, l.rt, fun cls δ' G' σ' H' q k ok' rs' => ?_, fun cls fs δ' G' σ' H' dx xs q k ok' rs' u e r => ?_⟩⟩
    · obtain ⟨b, hb1, h1, h2⟩ := q
      refine ⟨b, hb1, fun hb2 => ?_, fun hb2 => l.exb _ _ _ _ _ (h2 hb2) k ok' rs'⟩
      obtain ⟨_, _, fs', d, e, _⟩ := h1 hb2
      cases e
    · obtain ⟨b, hb1, h1, h2⟩ := q
      refine ⟨b, hb1, fun hb2 a ha => ?_, fun hb2 => l.exo _ _ _ _ _ _ _ _ (h2 hb2) k ok' rs' u e r⟩
      obtain ⟨ec, hil, fs', d, ef, hl, hnx⟩ := h1 hb2
      cases ef
      obtain ⟨v, hv1, hv2⟩ := lookup_rep e r hl
      have hl2 : i < σ'.length := by rw [← rs'.length]; exact hil
      refine ⟨.ref a, by simp [hl2], rfl, ec, dx, xs, v, rfl, U_le _ _ u, hv1, v, .non, rfl, ?_⟩
      exact l.nx _ _ _ _ hnx k ok' (((((rs'.forget i (some (.ref a))).set hv2 j1).set .non j2).forget i none))
end
/-- what a handler 'except c as n: return n.f == e' makes of an exception -/
def exEq (K : PySem.W.Frag) (c : Value) (C : Addr) (f : Str) (i : Nat) (r : DR2) (te : DTE) (D : DEnds) : DXS := fun cls fs δ G =>
  ∃ b, PySem.W.exmOne K cls c = some b ∧ (b = true → cls = .ref C ∧ i < δ.length ∧ ∃ fs' d, fs = some fs' ∧ fs'.lookup f = some d ∧ te (δ.set i none) G fun y G2 => r d y G2 D.rt) ∧ (b = false → D.ex cls fs δ G)
def dTryEq (K : PySem.W.Frag) (c : Value) (C : Addr) (f : Str) (i : Nat) (r : DR2) (te : DTE) (tb : DTS) : DTS := fun D δ G => tb { D with ex := exEq K c C f i r te D } δ G
section
variable {X : Cx} {W : WX} {x n f : Str} {c : Value} {C : Addr} {i : Nat} {body : List Stmt} {np p1 p2 p3 p4 pos pos' : Pos} {tb : DTS} {r : DR2} {e2 : Expr} {te : DTE}
theorem ds_tryEqN (hs : X.stack = X.env :: X.outer) (hf : X.env.frame = some X.env.locals) (hN : X.N.Nodup) (hi : X.N[i]? = some n) (hln : X.env.kindOf n = some .local) (hc : Names X x c) (tk : L2N.Takes X W)
    (hb : ∀ (W' : WX) (pn : List (Addr × Obj)) (xe : Value → Shared → Prop), L2N.Takes (X.tr pn xe) W' → PassesOwn (model X.prog X.w) X.A X.env xe → DSs (X.tr pn xe) W' body tb)
    (T : XfC X.K C) (hno : PySem.W.findIn X.K (.ref C) f = some none)
    (hv : ∀ (a : Addr) (pn : List (Addr × Obj)), PE (X.suite a pn) (.Name n p1) (tVar i)) (ho : ∀ (a : Addr) (pn : List (Addr × Obj)), DOp (X.suite a pn) (compareOp .Eq) r) (he : ∀ (a : Addr) (pn : List (Addr × Obj)), DE (X.suite a pn) e2 te)
    (hm : behindInMarks .Eq e2 = false) :
    DS X W (.Try body [.ExceptHandler (some (.Name x np)) (some n) [.Return (some (.Compare (.Attribute (.Name n p1) f p2) [.Eq] [e2] p4)) p3] pos'] [] [] pos) (dTryEq X.K c C f i r te tb) :=
  PS.mono (L2N.ps_try_as (tb := fun W' => cS X.K W' tb) (ts := fun a cls d D σ H => tOp (cR2 X.K r) (tXf a cls d C f (tVar i)) (cE X.K te) σ H D.rt) hs hf hN hi hln hc tk (fun W' pn xe t1 t2 => hb W' pn xe t1 t2)
    (fun a oe cls d pn hz hfl => pss_one (ps_ret (pe_cmpR (ho a _) (pe_xf T hno hz.zc hfl (hv a _)) (he a _) hm)))) fun E σ H ⟨δ, G, Z, D0, ok, rs, h, l⟩ => by
    refine ⟨δ, G, Z, _, ok, rs, h, ⟨l.nx, l.bk, l.ct, l.rt, fun cls δ' G' σ' H' q k ok' rs' => ?_, fun cls fs δ' G' σ' H' dx xs q k ok' rs' u e r => ?_⟩⟩
    · obtain ⟨b, hb1, h1, h2⟩ := q
      refine ⟨b, hb1, fun hb2 => ?_, fun hb2 => l.exb _ _ _ _ _ (h2 hb2) k ok' rs'⟩
      obtain ⟨_, _, fs', d, e, _⟩ := h1 hb2
      cases e
    · obtain ⟨b, hb1, h1, h2⟩ := q
      refine ⟨b, hb1, fun hb2 a ha => ?_, fun hb2 => l.exo _ _ _ _ _ _ _ _ (h2 hb2) k ok' rs' u e r⟩
      obtain ⟨ec, hil, fs', d, ef, hl, hq⟩ := h1 hb2
      cases ef
      obtain ⟨v, hv1, hv2⟩ := lookup_rep e r hl
      have hl2 : i < σ'.length := by rw [← rs'.length]; exact hil
      refine ⟨.ref a, by simp [hl2], rfl, ec, dx, xs, v, rfl, U_le _ _ u, hv1, ?_⟩
      exact ⟨δ'.set i none, G', Z, _, ok', rs'.forget i (some (.ref a)), hq, fun y G2 u2 H2 q2 k2 ok2 r2 =>
        ⟨d, y, G2, Z, D0.rt, ok2, hv2.mono k2.keep, r2, q2, fun d' G3 v3 H3 q3 k3 ok3 r3 => l.rt _ _ _ _ q3 (k.trans (k2.trans k3)) ok3 r3⟩⟩
end
/-! tuples of three whole numbers that the module holds -/
structure GTupI (K : PySem.W.Frag) (mg : Str → Option Value) (x : Str) (ns : List Int) : Prop where
  m : mg x = some (.ref (He.ga K x))
  t : ∀ H, SqT K H (He.ga K x) (ns.map V.int)
  l : ns.length = 3
theorem GTupI.rep {K : PySem.W.Frag} {mg : Str → Option Value} {x : Str} {ns : List Int} (g : GTupI K mg x ns) (W : Hp) : Rep K W (.tup (ns.map .int)) (.ref (He.ga K x)) := .tup (.inr ⟨by rw [List.length_map]; exact g.l, g.t⟩) (Reps.of_ints _)
theorem de_gtI {X : Cx} {x : Str} {ns : List Int} {p : Pos} (g : GTupI X.K X.mg x ns) (hg : Gl X x) (hd : (x == ("__debug__" : Str)) = false := by decide) : DE X (.Name x p) (dC (.tup (ns.map .int))) :=
  de_c (pe_glob (v := .ref (He.ga X.K x)) hg g.m rfl hd) fun W => g.rep W
theorem GTupI.of {K : PySem.W.Frag} {mg : Str → Option Value} {x : Str} {ns : List Int} (m : mg x = some (.ref (He.ga K x))) (h : He.tupB K x (ns.map He.Dv.int) = true) (l : ns.length = 3) : GTupI K mg x ns :=
  ⟨m, fun H => by have := He.tupB_ok h H; rw [List.map_map] at this; exact this, l⟩
/-! calls with keywords that may raise -/
def dCallNX (n m : Nat) (sp : DSp) (gD : List D → List D → List D) (t tk : DTA) : DTX := fun δ G Q E => t δ G fun ds G1 => tk δ G1 fun es G2 => ds.length = n ∧ es.length = m ∧ sp (gD ds es) G2 Q E
section
variable {X : Cx} {CX : CXT} {k n : Nat} {f : Addr} {fd : FuncData} {ps ks : List Str} {E : St → XK} {x : Str} {p pos : Pos} {e : Expr} {es : List Expr} {kws : List Keyword} {g : List Value → List Value → List Value} {gV : List V → List V → List V}
theorem run_kwX {sp : Sp} {pins : List (Addr × Obj)} {σ : St} {H : Hp} {s : Shared} {Q : VK} {us ws : List Value} {vs zs : List V} (F : FnOk X.prog X.w X.K X.mg X.base CX k f fd ps sp) (hr : Room k X.A) (hb : KBn X.K fd ps n ks g gV)
    (hx : PassesAt CX X σ (E σ)) (I : Inv X pins σ H s) (r1 : Vals vs us) (r2 : Vals zs ws) (l1 : vs.length = n) (l2 : zs.length = ks.length) (h : sp (gV vs zs) H Q (E σ)) : wpAny (model X.prog X.w) X.A (call (.ref f) us (ks.zip ws)) (EP X pins σ Q) X.xe s := by
  have bt := hb.to s us ws I.kIn (r1.length.symm.trans l1) (r2.length.symm.trans l2)
  have ran := F.run X.A X.stack s H ⟨us, ks.zip ws⟩ (g us ws) (gV vs zs) Q (E σ) hr I.env0 bt (hb.rel r1 r2) h
  refine wpAny_call (codeAny_mono ran fun fin s' hq => ?_)
  match fin, hq with
  | .error er, hq => exact hx pins H s er s' I hq
  | .ok .next, hq => exact False.elim hq
  | .ok .brk, hq => exact False.elim hq
  | .ok .cont, hq => exact False.elim hq
  | .ok (.ret u), hq => exact I.after hq
theorem pe_kwX {sp : Sp} {t tk : TA} (F : FnOk X.prog X.w X.K X.mg X.base CX k f fd ps sp) (hr : Room k X.A) (hg : Gl X x) (hm : X.mg x = some (.ref f)) (hk : PySem.W.keepIn X.K (.ref f) = true) (hb : KBn X.K fd ps n ks g gV)
    (hx : ∀ σ, PassesAt CX X σ (E σ)) (ha : PA X (e :: es) t) (hkw : PK X kws tk) (hall : (backToKw pos (keywordEach kws X.env)).all (·.1.isSome) = true := by rfl) (hks : (backToKw pos (keywordEach kws X.env)).filterMap (·.1) = ks := by rfl)
    (hdb : (x == ("__debug__" : Str)) = false := by decide) (he : starEach (e :: es) X.env = (false, eval e X.env) :: starEach es X.env := by rfl)
    (hpl : ((backTo pos (starEach (e :: es) X.env)).any (·.1) || (backToKw pos (keywordEach kws X.env)).any (·.1.isNone)) = false := by rfl) :
    PE X (.Call (.Name x p) (e :: es) kws pos) (fun σ H Q => t σ H fun vs H1 => tk σ H1 fun zs H2 => vs.length = n ∧ zs.length = ks.length ∧ sp (gV vs zs) H2 Q (E σ)) := by
  refine ⟨fun pins s σ H Q I h => ?_⟩
  apply wpAny_Call_Name_kw
  apply ld_glob I hg hm ?_ hdb
  refine PySem.W.callWith_KW (h₀ := X.base) I.ok.mod.kin hk hall (thn (ha.run pos pins s σ H _ I h) fun us s1 hh => ?_) hpl he
  obtain ⟨vs, H1, I1, r1, q1⟩ := hh
  refine thn (hkw.run pos pins s1 σ H1 _ I1 q1) fun ws s2 hh => ?_
  obtain ⟨zs, H2, I2, r2, l1, l2, q2⟩ := hh
  refine ⟨I2.kIn, ?_⟩
  rw [hks]
  exact run_kwX F hr hb (hx σ) I2 r1 r2 l1 l2 q2
end
section
variable {X : Cx} {W : WX} {k n : Nat} {f : Addr} {fd : FuncData} {ps ks : List Str} {sp : DSp} {x : Str} {p pos : Pos} {e : Expr} {es : List Expr} {kws : List Keyword} {t tk : DTA} {ix : List Nat} {ms : List V} {mds : List D}
theorem de_callKXN (tk0 : L2N.Takes X W) (F : FnOk X.prog X.w X.K X.mg X.base (L2N.CX X.prog X.w) k f fd ps (cSp X.K sp)) (hr : Room k X.A) (hg : Gl X x) (hm : X.mg x = some (.ref f)) (hk : PySem.W.keepIn X.K (.ref f) = true) (hb : KBk X.K fd ps n ks ix ms)
    (hmd : ∀ W, Reps X.K W mds ms) (ha : DA X (e :: es) t) (hkw : DKw X kws tk) (hall : (backToKw pos (keywordEach kws X.env)).all (·.1.isSome) = true := by rfl) (hks : (backToKw pos (keywordEach kws X.env)).filterMap (·.1) = ks := by rfl)
    (hdb : (x == ("__debug__" : Str)) = false := by decide) (he : starEach (e :: es) X.env = (false, eval e X.env) :: starEach es X.env := by rfl)
    (hpl : ((backTo pos (starEach (e :: es) X.env)).any (·.1) || (backToKw pos (keywordEach kws X.env)).any (·.1.isNone)) = false := by rfl) :
    DEx X W (.Call (.Name x p) (e :: es) kws pos) (dCallNX n ks.length sp (fun ds es => pick ix (ds ++ es ++ mds)) t tk) := by
  obtain ⟨mv, hb⟩ := hb
  exact PE.mono (pe_kwX (E := WE W) F hr hg hm hk hb (fun σ => L2N.passAt tk0 σ) ha hkw hall hks hdb he hpl) fun σ H Q ⟨δ, G, Z, Q0, E0, ok, rs, h, k, xl⟩ =>
    ⟨δ, G, Z, _, ok, rs, h, fun ds G1 vs H1 h1 k1 ok1 r1 => ⟨δ, G1, Z, _, ok1, rs.mono k1.keep, h1, fun es G2 us H2 h2 k2 ok2 r2 => by
      have r1' := r1.mono k2.keep
      exact ⟨r1'.length.symm.trans h2.1, r2.length.symm.trans h2.2.1, _, G2, Z, Q0, E0, ok2, Reps.pickK ix hmd r1' r2, h2.2.2, fun d G' v H' q k3 ok3 r3 => k _ _ _ _ q (k1.trans (k2.trans k3)) ok3 r3, xl.after (k1.trans k2)⟩⟩⟩
end
/-! the greatest of three -/
def dMax3R : DRC := fun ds G Q => match ds with
  | [.int i, .int j, .int k] => Q (.int (max (max i j) k)) G
  | _ => False
theorem max2_nu (i j : Int) : nuMax2 (.int i) (.int j) = some (.int (max i j)) := by
  show some (if decide (i < j) = true then V.int j else V.int i) = _
  by_cases h : i < j
  · rw [if_pos (decide_eq_true h), show max i j = j by omega]
  · rw [if_neg (by rw [decide_eq_false h]; decide), show max i j = i by omega]
theorem max3_nu (i j k : Int) : nuMax3 (.int i) (.int j) (.int k) = some (.int (max (max i j) k)) := by
  show (nuMax2 (.int i) (.int j)).bind (fun m => nuMax2 m (.int k)) = _
  rw [max2_nu]
  exact max2_nu _ _
theorem dcall_max3 {X : Cx} (hc : X.calm = true) : DCall X (.builtin "max") dMax3R := by
  intro pins s σ H xs us Q I r ⟨ds, G, Z, Q0, ok, rs, h, k⟩
  rcases rs with _ | ⟨r1, rs⟩
  · exact False.elim h
  rcases rs with _ | ⟨r2, rs⟩
  · exact False.elim (by cases r1 <;> exact h)
  rcases rs with _ | ⟨r3, rs⟩
  · exact False.elim (by cases r1 <;> cases r2 <;> exact h)
  rcases rs with _ | ⟨r4, rs⟩
  · cases r1 with
    | int i =>
      cases r2 with
      | int j =>
        cases r3 with
        | int l => exact call_max3Nu hc pins s σ H _ us Q I r ⟨_, _, _, _, rfl, max3_nu i j l, k _ _ _ _ h .refl ok (.int _)⟩
        | _ => exact False.elim h
      | _ => exact False.elim h
    | _ => exact False.elim h
  · exact False.elim (by cases r1 <;> cases r2 <;> cases r3 <;> exact h)
end DL
set_option Elab.async false
set_option linter.all false
set_option maxRecDepth 100000
set_option maxHeartbeats 4000000
/-! DL, part 37: own exception classes over any built-in class: made with keywords too, fields stored. -/
namespace DLX
open PySem PySem.W PySem.Calls
/-- the built-in __init__ of the class B -/
structure IniF (B initId : String) : Prop where
  slot : Slot B "__init__" initId
  ent : entryFor table initId = some Builtin.«BaseException.__init__»
  spl : splitId initId = some (B, "__init__")
  knd : builtinKind initId = some .slot
  row : Manifest.signature? initId = some ⟨.positional, "*", B, .self, [⟨"args", .varPos, false⟩]⟩
  star : (B != "*") = true
theorem IniF.of {B newId initId : String} (F : ExcCallFacts B newId initId) : IniF B initId := ⟨F.init, F.initEntry, F.initSplit, F.initKind, F.initRow, F.noStar⟩
theorem IniF.ofClass {B newId initId : String} (F : PyProof.Rows.ExcClass B newId initId) : IniF B initId := ⟨F.init, F.initEntry, F.initSplit, F.initKind, F.initSig, F.notStar⟩
/-- what the order of classes behind an own one says -/
structure Tail (bm : List Value) (newId initId : String) : Prop where
  nw : ∃ (B iB : String) (bmB : List Value), ExcBaseFacts B newId iB bmB ∧ bm.contains (.type B) = true
  ini : ∃ B : String, IniF B initId ∧ bm.contains (.type B) = true
  noA : bm.contains (.type "AttributeError") = false
  noN : bm.contains (.type "NameError") = false
  obj : bm.contains (.type "object") = true
  ps : ∀ self : Value, refuseLoop self "__setattr__" bm = pure ()
theorem Tail.over {tl bm : List Value} {newId initId : String} (T : Tail tl newId initId) (h : excTail tl bm = true) : Tail bm newId initId := by
  obtain ⟨⟨B, iB, bmB, F, c⟩, ⟨B2, F2, c2⟩, a, n, o, p⟩ := T
  exact ⟨⟨B, iB, bmB, F, (excTail_contains B bm h).trans c⟩, ⟨B2, F2, (excTail_contains B2 bm h).trans c2⟩, (excTail_contains _ bm h).trans a, (excTail_contains _ bm h).trans n, (excTail_contains _ bm h).trans o,
    fun self => excTail_pass self (p self) bm h⟩
abbrev tlV : List Value := [.type "ValueError", .type "Exception", .type "BaseException", .type "object"]
abbrev tlL : List Value := [.type "LookupError", .type "Exception", .type "BaseException", .type "object"]
abbrev tlK : List Value := [.type "KeyError", .type "LookupError", .type "Exception", .type "BaseException", .type "object"]
abbrev tlZ : List Value := [.type "ZeroDivisionError", .type "ArithmeticError", .type "Exception", .type "BaseException", .type "object"]
theorem tailV : Tail tlV "ValueError.__new__" "ValueError.__init__" := ⟨⟨_, _, _, F.excBase_ValueError, by decide +kernel⟩, ⟨_, .of F.excBase_ValueError.toExcCallFacts, by decide +kernel⟩, by decide +kernel, by decide +kernel, by decide +kernel, fun self => F.store_ValueError.passes self⟩
theorem tailL : Tail tlL "LookupError.__new__" "LookupError.__init__" := ⟨⟨_, _, _, F.excBase_LookupError, by decide +kernel⟩, ⟨_, .of F.excBase_LookupError.toExcCallFacts, by decide +kernel⟩, by decide +kernel, by decide +kernel, by decide +kernel, fun self => F.store_LookupError.passes self⟩
theorem tailZ : Tail tlZ "ZeroDivisionError.__new__" "ZeroDivisionError.__init__" := ⟨⟨_, _, _, F.excBase_ZeroDivisionError, by decide +kernel⟩, ⟨_, .of F.excBase_ZeroDivisionError.toExcCallFacts, by decide +kernel⟩, by decide +kernel, by decide +kernel, by decide +kernel, fun self => F.store_ZeroDivisionError.passes self⟩
theorem tailK : Tail tlK "LookupError.__new__" "KeyError.__init__" := ⟨⟨_, _, _, F.excBase_LookupError, by decide +kernel⟩, ⟨_, .ofClass PyProof.Rows.excClass_KeyError, by decide +kernel⟩, by decide +kernel, by decide +kernel, by decide +kernel, fun self => by kernel_rfl⟩
section
variable {M : Model} {A : Around} {E : Value → Shared → Prop} {h : Heap} {g : Array GenState} {d : Drawn} {t : Nat} {os : OsState}
variable {nm q : Str} {C N : Addr} {bs bm bmB : List Value} {hdct : Bool} {sn : List Str} {sub : List Value} {ab : Bool} {col : Option Bool} {dd : Option Addr} {k0 k1 k2 k3 k5 : Option Value} {B newId initId : String} {kw : List (Str × Value)} {us : List Value}
theorem x_checkNew (F : ExcBaseFacts B newId initId bmB) (cB : bm.contains (.type B) = true) {Q : Unit → Shared → Prop}
    (own : h.get? C = some (excClassObj nm q C N bs bm hdct sn sub ab col dd k0 k1 k2 k3 k5 newId)) (hq : Q () ⟨h, g, d, t, os⟩) : wpAny M A (checkBuiltinCall newId ⟨.ref C :: us, kw⟩) Q E ⟨h, g, d, t, os⟩ := by
  have inB : (Value.ref C :: bm).contains (.type B) = true := by rw [List.contains_cons, cB, Bool.or_true]
  have star := F.noStar
  simp only [checkBuiltinCall, F.newKind, F.newSplit, F.newRow]
  repeat (first | refine wpAny_loadPart_at own ?_ | (refine wpAny_isSubtype_exc own ?_; rw [inB]) | refine wpAny_staticBase_exc own ?_ | refine wpAny_madeBy_exc own ?_ | simp only [bne_self_eq_false, Bool.false_eq_true, if_false] | wp_step)
  exact hq
theorem x_checkInit (F : IniF B initId) (cB : bm.contains (.type B) = true) {e : Addr} {oe : Obj} {Q : Unit → Shared → Prop}
    (own : h.get? C = some (excClassObj nm q C N bs bm hdct sn sub ab col dd k0 k1 k2 k3 k5 newId)) (he : h.get? e = some oe) (hcls : oe.cls = .ref C) (hq : Q () ⟨h, g, d, t, os⟩) :
    wpAny M A (checkBuiltinCall initId ⟨.ref e :: us, []⟩) Q E ⟨h, g, d, t, os⟩ := by
  have inB : (Value.ref C :: bm).contains (.type B) = true := by rw [List.contains_cons, cB, Bool.or_true]
  have star := F.star
  simp only [checkBuiltinCall, F.knd, F.spl, F.row]
  repeat (first | (with_reducible refine wpAny_loadPart_at he ?_; rw [hcls]) | with_reducible refine wpAny_loadPart_at own ?_ | (with_reducible refine wpAny_isSubtype_exc own ?_; rw [inB]) | wp_step)
  refine wpAny_onRaise ?_
  have ck : ∀ (a b : String) (n : Nat), Bind.check ⟨.positional, "*", B, .self, [⟨"args", .varPos, false⟩]⟩ a b n (List.map (fun x => x.fst) ({ pos := Value.ref e :: us } : Args).kw) = pure () := fun a b n => check_star_args _ _ _ _ _ _
  rw [ck]
  exact wpAny_pure hq
end
section
variable {prog : Program} {w : World} {A : Around} {E : Value → Shared → Prop} {R : Result → Shared → Prop} {h : Heap} {g : Array GenState} {d : Drawn} {t : Nat} {os : OsState}
variable {nm q : Str} {C N : Addr} {bs bm bmB : List Value} {hdct : Bool} {sn : List Str} {sub : List Value} {ab : Bool} {col : Option Bool} {dd : Option Addr} {k0 k1 k2 k3 k5 : Option Value} {B newId initId : String} {kw : List (Str × Value)} {us : List Value}
theorem x_new (F : ExcBaseFacts B newId initId bmB) (cB : bm.contains (.type B) = true) (cA : bm.contains (.type "AttributeError") = false) (cN : bm.contains (.type "NameError") = false)
    (own : h.get? C = some (excClassObj nm q C N bs bm hdct sn sub ab col dd k0 k1 k2 k3 k5 newId))
    (hq : R (.ok (.ret (.ref (h.objs.size + 1)))) ⟨(h.push (kdv_tup us)).push (PySem.HandSPX.excO C h.objs.size), g, d, t, os⟩) (hz : us.length ≤ sizeLine) :
    codeAny (model prog w) A (.builtin newId ⟨.ref C :: us, kw⟩) R ⟨h, g, d, t, os⟩ := by
  have ends := F.ends
  have inB : (Value.ref C :: bm).contains (.type B) = true := by rw [List.contains_cons, cB, Bool.or_true]
  have inA : (Value.ref C :: bm).contains (.type "AttributeError") = false := by rw [List.contains_cons, cA] <;> rfl
  have inN : (Value.ref C :: bm).contains (.type "NameError") = false := by rw [List.contains_cons, cN] <;> rfl
  apply codeAny_builtinAt F.entry
  unfold Builtin.«BaseException.__new__»
  apply wpAt_bind
  show wpAt _ _ _ (stack >>= _) _ _ _
  apply wpAt_bind
  refine wpAt_stack fun p below => wpAt_of_wpAny ?_
  wp_walk
  apply wpAt_of_wpAny
  rw [F.owner]
  repeat (first | with_reducible refine wpAny_madeHere_exc F.canon own ?_ | with_reducible refine wpAny_loadPart_at own ?_ | (with_reducible refine wpAny_isSubtype_exc own ?_; first | rw [inB] | rw [inA] | rw [inN]) | wp_step)
  show R _ _
  rw [Heap.size_push]
  exact hq
theorem x_typeCall (F : ExcBaseFacts B newId initId bmB) (cB : bm.contains (.type B) = true) (cA : bm.contains (.type "AttributeError") = false) (cN : bm.contains (.type "NameError") = false) {fI : Addr} {Q : Fin → Shared → Prop}
    (own : h.get? C = some (excClassObj nm q C N bs bm hdct sn sub ab col dd k0 k1 k2 k3 k5 newId))
    (hi : Looks (model prog w) h (typeLookup (.ref C) "__init__") (some (.ref fI))) (hb : ∀ self, Looks (model prog w) h (bindSpecial (.ref fI) self) (.ref fI, [self])) (hz : us.length ≤ sizeLine)
    (hq : codeAny (model prog w) A (.call (.ref fI) ⟨.ref (h.objs.size + 1) :: us, kw⟩)
      (fun r s' => match r with | .ok (.ret v) => v = .none ∧ Q (.done (.ret (.ref (h.objs.size + 1)))) s' | .ok _ => False | .error e => E e s')
      ⟨(h.push (kdv_tup us)).push (PySem.HandSPX.excO C h.objs.size), g, d, t, os⟩) :
    wpAny (model prog w) A (Builtin.«type.__call__» ⟨.ref C :: us, kw⟩) Q E ⟨h, g, d, t, os⟩ := by
  repeat (first | with_reducible refine wpAny_loadPart_at own ?_ | with_reducible refine wpAny_madeBy_exc own ?_ | wp_step)
  apply codeAny_call_builtin_code (Code.quiet_builtin _ F.quiet)
  apply x_checkNew F cB own
  refine x_new F cB cA cN own ?_ hz
  show wpAny _ _ _ _ _ _
  have keeps : ∀ b o, h.get? b = some o → ((h.push (kdv_tup us)).push (PySem.HandSPX.excO C h.objs.size)).get? b = some o := fun b o e => Heap.get?_push_of_some _ (Heap.get?_push_of_some _ e)
  have own1 := keeps _ _ own
  have at_ : ((h.push (kdv_tup us)).push (PySem.HandSPX.excO C h.objs.size)).get? (h.objs.size + 1) = some (PySem.HandSPX.excO C h.objs.size) := by heap_get
  have inC : (Value.ref C :: bm).contains (.ref C) = true := by simp
  have li := hi.keeps keeps
  have lb := (hb (.ref (h.objs.size + 1))).keeps keeps
  unfold isInstance
  repeat (first | with_reducible refine wpAny_loadPart_at at_ ?_ | (with_reducible refine wpAny_isSubtype_exc own1 ?_; rw [inC]) | wp_step)
  show wpAny _ _ (typeLookup (.ref C) _) _ _ _
  apply li.at
  apply wpAny_holding
  apply wpAny_bind
  apply lb.at
  apply wpAny_bind
  apply wpAny_call
  refine codeAny_mono hq fun r s' z => ?_
  rcases r with e | (v | _ | _ | _) <;> first | exact z | exact z.elim | skip
  obtain ⟨rfl, z⟩ := z
  first
    | exact wpAny_pure (wpAny_pure z)
    | (wp_walk; exact z)
theorem x_call {bm : List Value} (T : Tail bm newId initId) {fI : Addr} (own : h.get? C = some (excClassObj nm q C N bs bm hdct sn sub ab col dd k0 k1 k2 k3 k5 newId))
    (hi : Looks (model prog w) h (typeLookup (.ref C) "__init__") (some (.ref fI))) (hb : ∀ self, Looks (model prog w) h (bindSpecial (.ref fI) self) (.ref fI, [self])) (hz : us.length ≤ sizeLine)
    (hq : codeAny (model prog w) (A.under (.builtin "type.__call__" ⟨.ref C :: us, kw⟩)) (.call (.ref fI) ⟨.ref (h.objs.size + 1) :: us, kw⟩) (InitBack (h.objs.size + 1) R)
      ⟨(h.push (kdv_tup us)).push (PySem.HandSPX.excO C h.objs.size), g, d, t, os⟩) :
    codeAny (model prog w) A (.call (.ref C) ⟨us, kw⟩) R ⟨h, g, d, t, os⟩ := by
  obtain ⟨⟨B, iB, bmB, F, cB⟩, _, cA, cN, _, _⟩ := T
  have lk := tc_lookup
  have bd := tc_bind (.ref C)
  have ty : (⟨h, g, d, t, os⟩ : Shared).TypeIs (.ref C) "type" := ⟨_, own, rfl⟩
  have tyl : Looks (model prog w) h (isInstance (.ref C) (.type "type")) true := fun A' Q' E' s' k hq' => by
    obtain ⟨h', g', d', t', os'⟩ := s'
    have o1 := k _ _ own
    have f3 := tc_sub
    unfold isInstance
    repeat (any_goals (first | assumption | with_reducible refine wpAny_loadPart_at o1 ?_ | wp_step))
  apply codeAny_of_tree
  show wpAny _ _ (callAny (.ref C) _) _ _ _
  repeat (any_goals (first | assumption | with_reducible refine wpAny_loadPart_at own ?_ | wp_step))
  refine ⟨rfl, ?_⟩
  apply codeAny_call_builtin_at (Code.quiet_builtin _ (by decide +kernel)) entry_typeCall
  apply check_slot tc_kind tc_split tyl (tc_args _ _ _)
  apply x_typeCall F cB cA cN own hi hb hz
  refine codeAny_mono hq fun r s' z => ?_
  rcases r with e | (v | _ | _ | _) <;> exact z
theorem x_init {bm : List Value} (T : Tail bm newId initId) {e t0 : Addr} (own : h.get? C = some (excClassObj nm q C N bs bm hdct sn sub ab col dd k0 k1 k2 k3 k5 newId)) (he : h.get? e = some (PySem.HandSPX.excO C t0)) (hz : us.length ≤ sizeLine)
    (hq : ∀ h' t1, (∀ b o, b ≠ e → h.get? b = some o → h'.get? b = some o) → h'.get? e = some (PySem.HandSPX.excO C t1) → R (.ok (.ret .none)) ⟨h', g, d, t, os⟩) :
    codeAny (model prog w) A (.call (.builtin initId) ⟨.ref e :: us, []⟩) R ⟨h, g, d, t, os⟩ := by
  obtain ⟨_, ⟨B, F, cB⟩, _⟩ := T
  apply codeAny_call_builtin F.slot.plain F.ent
  apply x_checkInit F cB own he rfl
  wp_walk
  refine hq _ h.objs.size (fun b o hb ho => ?_) ?_
  · have e1 := Heap.get?_push_of_some (kdv_tup us) ho
    rw [Heap.get?_update_other _ _ (Ne.symm hb)]
    exact e1
  · have e1 := Heap.get?_push_of_some (kdv_tup us) he
    rw [Heap.get?_update_self _ e1 rfl]
    rfl
end
/-! fields stored -/
section
open Builtin Builtin.ObjectAttr
variable {prog : Program} {w : World} {A : Around} {E : Value → Shared → Prop} {R : Result → Shared → Prop} {hp : Heap} {g : Array GenState} {d : Drawn} {t : Nat} {os : OsState} {K : PySem.W.Frag} {name : Str} {tk : Tok} {v : Value} {x C dx : Addr} {fv : Array Value} {cd : ClassData}
structure SetC (cd : ClassData) : Prop where
  ne : cd.mro.isEmpty = false
  obj : cd.mro.contains (.type "object") = true
  ps : ∀ self : Value, refuseLoop self "__setattr__" cd.mro = pure ()
  hd : cd.hasDict = true
theorem x_set (S : SetC cd) {ox : Obj} {od : Option Obj} (KI : K.In hp) (I : PySem.W.InstAt hp x ox C od) (hcd : PySem.W.clsIn K C = some cd) (ha : PySem.W.findIn K (.ref C) name = some none)
    (hq : wpAny (model prog w) (A.under (.builtin "object.__setattr__" ⟨[.ref x, .str name tk, v], []⟩)) (storeInOwnDict (.ref x) (.ref C) (.str name tk) name v false) (fun fin s' => match fin with | .done f => R (.ok f) s' | .again c => c.quiet = true ∧ codeAny (model prog w) A c R s') (fun e s' => R (.error e) s') ⟨hp, g, d, t, os⟩) :
    codeAny (model prog w) A (.call (.builtin "object.__setattr__") ⟨[.ref x, .str name tk, v], []⟩) R ⟨hp, g, d, t, os⟩ := by
  have SF := F.store_object
  have sub : Looks (model prog w) hp (isInstance (.ref x) (.type "object")) true := I.type.andThen (looks_mroIn KI (by unfold mroIn; rw [hcd, Option.bind_some, if_neg (by rw [S.ne]; decide), S.obj]))
  apply codeAny_call_builtin SF.slot.plain SF.entry
  apply @check_slot (model prog w) _ _ ⟨hp, g, d, t, os⟩ "object.__setattr__" "object" "__setattr__" (.ref x) [.str name tk, v] [] _ SF.kind SF.split sub (SF.args (.ref x) (.str name tk) v)
  have lm : Looks (model prog w) hp (mroOf (.ref C)) cd.mro := (looks_clsIn KI hcd).andThen .now
  have l3 : Looks (model prog w) hp (storeTaker? none) none := .now
  rw [osa_eq, refuse_eq]
  apply wpAny_bind
  apply wpAny_bind
  apply I.type.at
  apply wpAny_bind
  apply lm.at
  rw [S.ps]
  apply wpAny_pure
  apply wpAny_bind
  apply I.type.at
  apply wpAny_bind
  apply (looks_findIn KI ha).at
  apply wpAny_bind
  apply l3.at
  exact hq
end
end DLX
set_option Elab.async false
set_option linter.all false
set_option maxRecDepth 100000
set_option maxHeartbeats 4000000
/-! DL, part 38: own exception classes over any built-in class, in the hand layer: stores, the base's __init__, new ones. -/
namespace DL
open PySem PySem.Spec L2 PyProof.Rows
/-- what the written part says of an own exception class whose built-in __init__ is initId -/
structure OexG (K : PySem.W.Frag) (C : Addr) (initId : String) : Prop where
  cls : ∃ nm q N bs bm sn sub ab col dd k0 k1 k2 k3 k5 newId, K.lookup C = some (excClassObj nm q C N bs bm true sn sub ab col dd k0 k1 k2 k3 k5 newId) ∧ DLX.Tail bm newId initId
  sa : PySem.W.findIn K (.ref C) "__setattr__" = some (some (.builtin "object.__setattr__"))
  exC : PySem.W.subIn K (.ref C) (.type "BaseException") = some true
  tyC : PySem.W.typeIn K (.ref C) = some (.type "type")
  kC : PySem.W.keepIn K (.ref C) = true
theorem OexG.setC {K : PySem.W.Frag} {C : Addr} {initId : String} (T : OexG K C initId) : ∃ cd, PySem.W.clsIn K C = some cd ∧ DLX.SetC cd := by
  obtain ⟨nm, q, N, bs, bm, sn, sub, ab, col, dd, k0, k1, k2, k3, k5, newId, hC, tl⟩ := T.cls
  refine ⟨⟨nm, bs, .ref C :: bm, N, q, true, sn, sub, ab, col, false⟩, by unfold PySem.W.clsIn; rw [hC], ⟨rfl, ?_, fun self => ?_, rfl⟩⟩
  · show (Value.ref C :: bm).contains (.type "object") = true
    rw [List.contains_cons, tl.obj, Bool.or_true]
  · show refuseLoop self "__setattr__" (.ref C :: bm) = pure ()
    rw [refuseLoop_ref]
    exact tl.ps self
section
variable {X : Cx} {pins : List (Addr × Obj)} {σ : L2.St} {H : Hp} {s : Shared} {a C dx : Addr} {f : Str} {y : V} {u : Value} {fs : List (Str × V)} {Q : Unit → Shared → Prop} {E : Value → Shared → Prop} {A : Around} {initId : String}
theorem ostG_new (T : OexG X.K C initId) (I : Inv X pins σ H s) (e : H a = some (exo a C none)) (hno : PySem.W.findIn X.K (.ref C) f = some none) (ry : RelV y u)
    (k : ∀ dx s', H dx = none → dx ≠ a → Inv X pins σ (upd (upd H dx (exd dx [(f, y)])) a (exo a C (some dx))) s' → Q () s') : wpAny (model X.prog X.w) A (setAttr (.ref a) f u) Q E s := by
  obtain ⟨cd, hcd, S⟩ := T.setC
  obtain ⟨t1, at_⟩ := exo_at I.hok e
  obtain ⟨hp, g, d, t, os⟩ := s
  have at_ : hp.get? a = some ({ cls := .ref C, dict := none, data := .fields #[.ref t1, .none, .none, .none, .bool false, .none] } : Obj) := at_
  have J : PySem.W.InstAt hp a { cls := .ref C, dict := none, data := .fields #[.ref t1, .none, .none, .none, .bool false, .none] } C none := ⟨at_, rfl, rfl, trivial⟩
  apply PySem.W.set_plain I.kIn J T.sa
  apply DLX.x_set S I.kIn J hcd hno
  have old : a ≠ hp.objs.size := Nat.ne_of_lt (Heap.lt_size at_)
  have lc : PySem.W.Looks (model X.prog X.w) hp (classData C) cd := PySem.W.looks_clsIn I.kIn hcd
  obtain ⟨c1, c2, c3, c4, c5, hd, c7, c8, c9, c10, c11⟩ := cd
  have hd1 : hd = true := S.hd
  subst hd1
  unfold Builtin.ObjectAttr.storeInOwnDict Builtin.ObjectAttr.ownDictForStores
  repeat (first | with_reducible refine PySem.HandSPX.store_in_new ?_ ?_ | with_reducible refine wpAny_loadPart_at at_ ?_ | with_reducible refine lc.at ?_ | wp_step)
  · have e0 := Heap.get?_update_ne (hp.push { cls := .type "dict", data := .dict #[] }) hp.objs.size a (fun o => { o with dict := some hp.objs.size }) old.symm
    exact ⟨_, #[], _, e0.trans (Heap.get?_push_at rfl rfl), rfl, fun e he => absurd he (by simp), fun _ => rfl⟩
  · intro h' tk' hn' hs
    have up1 : (hp.push { cls := .type "dict", data := .dict #[] }).get? a = some { cls := .ref C, dict := none, data := .fields #[.ref t1, .none, .none, .none, .bool false, .none] } := Heap.get?_push_of_some _ at_
    have kk : ∀ b o, b ≠ a → hp.get? b = some o → h'.get? b = some o := fun b o hb ho =>
      (hs.2 b (Nat.ne_of_lt (Heap.lt_size ho))).trans ((Heap.get?_update_ne _ _ _ _ hb).trans (Heap.get?_push_of_some _ ho))
    have hx : h'.get? a = some { cls := .ref C, dict := some hp.objs.size, data := .fields #[.ref t1, .none, .none, .none, .bool false, .none] } := (hs.2 a old).trans (Heap.get?_update_self _ up1 rfl)
    have nd0 : H hp.objs.size = none := I.hok.fresh (Nat.le_refl _)
    have nd : ∀ {b : Addr} {o : Obj}, hp.get? b = some o → b ≠ hp.objs.size := fun {b o} q => Nat.ne_of_lt (Heap.lt_size q)
    have na : ∀ {b : Addr}, H b = none → b ≠ a := fun {b} n z => by
      rw [z, e] at n; cases n
    have U1 : Un X.fs [] H (upd (upd H hp.objs.size (exd hp.objs.size [(f, y)])) a (exo a C (some hp.objs.size))) hp h' := by
      refine { keep := fun b o q n _ _ => kk b o (na n) q, slot := fun b o q n _ _ => ⟨o.slots, kk b o (na n) q⟩, free := ?_, there := ?_, tups := ?_, frzs := ?_, tbls := ?_ }
      · intro b o q n _; rw [upd_ne (na n), upd_ne (nd q)]; exact n
      · intro b o q _
        by_cases hb : b = a
        · rw [hb]; exact ⟨_, hx⟩
        · exact ⟨o, kk b o hb q⟩
      · intro b xs q; rw [upd_ne (at_ne e q exo_tup), upd_ne (ne_of_none q nd0)]; exact q
      · intro b o v q; rw [upd_ne (at_ne e q exo_frz), upd_ne (ne_of_none q nd0)]; exact q
      · intro b ps q; refine ⟨#[], ?_⟩; rw [upd_ne (at_ne e q exo_tbl), upd_ne (ne_of_none q nd0), q]; simp
    refine k hp.objs.size _ nd0 old.symm (I.un (t' := tk') U1 fun b o q => ?_)
    by_cases hb : b = a
    · subst hb
      rw [upd_same] at q
      cases q
      exact exo_ok hx
    · rw [upd_ne hb] at q
      by_cases hd : b = hp.objs.size
      · subst hd
        rw [upd_same] at q
        cases q
        exact exd_ok hn' (relO_put (fs := []) ry fun g => True.intro)
      · rw [upd_ne hd] at q
        refine (I.hok b o q).stay (fun c v hc z => kk c v ?_ z) (fun c hc => ?_) (fun c xs hc => ?_)
        · rcases hc with hc | hc
          · rw [hc]; exact hb
          · exact at_ne e hc exo_own
        · rw [upd_ne (at_ne e hc exo_own), upd_ne (ne_of_none hc nd0)]; exact hc
        · rw [upd_ne (at_ne e hc exo_tup), upd_ne (ne_of_none hc nd0)]; exact hc
theorem ostG_old (T : OexG X.K C initId) (I : Inv X pins σ H s) (e : H a = some (exo a C (some dx))) (ed : H dx = some (exd dx fs)) (hl : fs.length ≤ 900) (hno : PySem.W.findIn X.K (.ref C) f = some none) (ry : RelV y u)
    (k : ∀ s', Inv X pins σ (upd H dx (exd dx ((f, y) :: fs))) s' → Q () s') : wpAny (model X.prog X.w) A (setAttr (.ref a) f u) Q E s := by
  obtain ⟨cd, hcd, S⟩ := T.setC
  obtain ⟨t1, at_⟩ := exo_at I.hok e
  obtain ⟨mA, hns, rel⟩ := exd_at I.hok ed
  have hw := within_of rel
  obtain ⟨hp, g, d, t, os⟩ := s
  obtain ⟨oD, _, _, hoD, _, _⟩ := hns.count hw
  have at_ : hp.get? a = some ({ cls := .ref C, dict := some dx, data := .fields #[.ref t1, .none, .none, .none, .bool false, .none] } : Obj) := at_
  have J : PySem.W.InstAt hp a { cls := .ref C, dict := some dx, data := .fields #[.ref t1, .none, .none, .none, .bool false, .none] } C (some oD) := ⟨at_, rfl, rfl, hoD⟩
  apply PySem.W.set_plain I.kIn J T.sa
  apply DLX.x_set S I.kIn J hcd hno
  have lc : PySem.W.Looks (model X.prog X.w) hp (classData C) cd := PySem.W.looks_clsIn I.kIn hcd
  obtain ⟨c1, c2, c3, c4, c5, hd, c7, c8, c9, c10, c11⟩ := cd
  have hd1 : hd = true := S.hd
  subst hd1
  have hz : (fs.map (·.1)).length ≤ 1000 := by rw [List.length_map]; omega
  unfold Builtin.ObjectAttr.storeInOwnDict Builtin.ObjectAttr.ownDictForStores
  repeat (first | with_reducible refine PySem.OEX.store_in_old hns hw hz ?_ | with_reducible refine wpAny_loadPart_at at_ ?_ | with_reducible refine lc.at ?_ | wp_step)
  intro h' tk' hn' hs
  obtain ⟨o2, _, _, there, _⟩ := id hn'
  exact k _ (I.write (t' := tk') (x := dx) (e := dx) (o := exd dx ((f, y) :: fs)) (by rw [ed]; exact True.intro) (.inl rfl) (fun b o hb ho => (hs.2 b hb).trans ho) ⟨o2, there⟩ (exd_ok hn' (relO_put ry rel)))
/-- the built-in __init__ of an exception being made: nothing of it is told -/
theorem initG_ok {us : List Value} {Q : Value → Shared → Prop} (T : OexG X.K C initId) (I : Inv X pins σ H s) (e : H a = some (exo a C none)) (hl : us.length ≤ sizeLine) (k : ∀ s', Inv X pins σ H s' → Q .none s') :
    wpAny (model X.prog X.w) A (call (.builtin initId) (.ref a :: us)) Q E s := by
  obtain ⟨nm, q, N, bs, bm, sn, sub, ab, col, dd, k0, k1, k2, k3, k5, newId, hC, tl⟩ := T.cls
  obtain ⟨t1, at_⟩ := exo_at I.hok e
  obtain ⟨hp, g, d, t, os⟩ := s
  refine wpAny_call (DLX.x_init tl (I.kIn _ _ hC) at_ hl fun h' t2 kk hx => ?_)
  have J := I.write (t' := t) (x := a) (e := a) (o := exo a C none) (by rw [e]; exact True.intro) (.inl rfl) kk ⟨_, hx⟩ (exo_ok hx)
  have same : upd H a (exo a C none) = H := funext fun b => by
    by_cases hb : b = a
    · rw [hb, upd_same, e]
    · exact upd_ne hb
  rw [same] at J
  exact k _ J
end
/-! readings -/
/-- Base.__init__(self, ..) -/
def tIniG (K : PySem.W.Frag) (initId : String) (ta : TA) : TE := fun σ H Q => ta σ H fun vs H1 => ∃ (a C : Addr) (ws : List V), vs = .ref a :: ws ∧ ws.length ≤ 1000 ∧ OexG K C initId ∧ H1 a = some (exo a C none) ∧ Q .non H1
/-- self.f = e -/
def tOstG (K : PySem.W.Frag) (f : Str) (to te : TE) : TS := fun D σ H => te σ H fun y H1 => to σ H1 fun x H2 => ∃ (a C : Addr) (initId : String), x = .ref a ∧ OexG K C initId ∧ PySem.W.findIn K (.ref C) f = some none ∧
  ((H2 a = some (exo a C none) ∧ ∀ dx, H2 dx = none → dx ≠ a → D.nx σ (upd (upd H2 dx (exd dx [(f, y)])) a (exo a C (some dx)))) ∨
    ∃ (dx : Addr) (fs : List (Str × V)), H2 a = some (exo a C (some dx)) ∧ H2 dx = some (exd dx fs) ∧ fs.length ≤ 900 ∧ D.nx σ (upd H2 dx (exd dx ((f, y) :: fs))))
/-- what an own base class must say: its __init__ is the built-in one -/
structure BsG (K : PySem.W.Frag) (C : Addr) (initId : String) : Prop where
  rd : PySem.W.readsIn K C (.type "type") = true
  ga : PySem.W.specialIn K (.ref C) "__getattribute__" = some (some (.builtin "type.__getattribute__"))
  at_ : PySem.W.findCls K (.ref C) (.type "type") "__init__" = some (.val (.builtin initId))
  hi : PySem.W.handedIn (.builtin initId) = true
section
variable {X : Cx} {o e : Expr} {es : List Expr} {to te : TE} {ta : TA} {f x : Str} {p p' p1 p2 pos : Pos} {C : Addr} {initId : String} {pl : Sem Bool}
theorem iniG_core {pins : List (Addr × Obj)} {σ : L2.St} {H : Hp} {s : Shared} {Q : VK} (I : Inv X pins σ H s) (h : tIniG X.K initId ta σ H Q) (ha : PA X (e :: es) ta)
    (he : starEach (e :: es) X.env = (false, eval e X.env) :: starEach es X.env) (hpl : (backTo pos (starEach es X.env)).any (·.1) = false) :
    wpAny (model X.prog X.w) X.A (callWith pos (Value.builtin initId) [] (backTo pos (starEach (e :: es) X.env)) []) (EP X pins σ Q) X.xe s := by
  refine PyProof.Rows.callWith_method1 (thn (ha.run pos pins _ σ H _ I h) fun us s1 ⟨vs, H1, I1, r1, a, C, ws, ev, hl, T, ea, q⟩ => ?_) he hpl
  subst ev
  cases r1 with
  | @cons _ u0 _ ur ra rw' =>
    obtain rfl : u0 = Value.ref a := ra
    have hlen : ur.length ≤ sizeLine := by
      rw [← Paired.length rw', sizeLine_eq]; omega
    exact initG_ok T I1 ea hlen fun s' J => ⟨.non, H1, J, rfl, q⟩
/-- B.__init__(self, ..), B an own class -/
theorem pe_iniG (T : BsG X.K C initId) (hg : Gl X x) (hm : X.mg x = some (.ref C)) (ha : PA X (e :: es) ta) (hdb : (x == ("__debug__" : Str)) = false := by decide)
    (hc : eval (.Call (.Attribute (.Name x p1) "__init__" p2) (e :: es) [] pos) X.env = (do
      let ov ← eval (.Name x p1) X.env
      standAt p2.atName
      let (f, first) ← holding [ov] (getMethod ov "__init__" pl)
      callWith pos f first (backTo pos (starEach (e :: es) X.env)) (backToKw pos (keywordEach [] X.env))) := by rfl)
    (he : starEach (e :: es) X.env = (false, eval e X.env) :: starEach es X.env := by rfl) (hpl : (backTo pos (starEach es X.env)).any (·.1) = false := by rfl) :
    PE X (.Call (.Attribute (.Name x p1) "__init__" p2) (e :: es) [] pos) (tIniG X.K initId ta) := by
  constructor
  intro pins s σ H Q I h
  apply PySem.W.methodCall_KW (ld_glob I hg hm ?_ hdb) hc
  apply PySem.W.method_cls I.kIn T.ga
  apply PySem.W.cls_value I.kIn T.rd T.at_ T.hi
  exact iniG_core (I.tok _) h ha he hpl
/-- B.__init__(self, ..), B a built-in class -/
theorem pe_iniB {B : String} (hg : Gl X x) (hm : X.mg x = none) (hv : bootBuiltins x = some (.type B)) (ty : typeOf (.type B) = pure (.type "type")) (stub : Manifest.isStub B = false)
    (at_ : PySem.W.findCls X.K (.type B) (.type "type") "__init__" = some (.val (.builtin initId))) (hi : PySem.W.handedIn (.builtin initId) = true) (ha : PA X (e :: es) ta) (hn : x ≠ "__name__" := by decide) (hdb : (x == ("__debug__" : Str)) = false := by decide)
    (hc : eval (.Call (.Attribute (.Name x p1) "__init__" p2) (e :: es) [] pos) X.env = (do
      let ov ← eval (.Name x p1) X.env
      standAt p2.atName
      let (f, first) ← holding [ov] (getMethod ov "__init__" pl)
      callWith pos f first (backTo pos (starEach (e :: es) X.env)) (backToKw pos (keywordEach [] X.env))) := by rfl)
    (he : starEach (e :: es) X.env = (false, eval e X.env) :: starEach es X.env := by rfl) (hpl : (backTo pos (starEach es X.env)).any (·.1) = false := by rfl) :
    PE X (.Call (.Attribute (.Name x p1) "__init__" p2) (e :: es) [] pos) (tIniG X.K initId ta) := by
  constructor
  intro pins s σ H Q I h
  apply PySem.W.methodCall_KW (ld_blt I hg hm hv ?_ hn hdb) hc
  obtain ⟨m, fr⟩ := I.fr
  apply PySem.W.method_type fr I.ok.mod.kin ty stub at_ hi
  exact iniG_core (I.tok _) h ha he hpl
theorem ps_ostG (ho : PE X o to) (he : PE X e te) (hs : swapsWith e (some (.Attribute o f p')) pos.line X.env = pure false := by rfl) : PS X (.Assign [.Attribute o f p'] e pos) (tOstG X.K f to te) := by
  constructor
  intro pins s σ H D I h
  refine plainObj_wpAny_Assign_Attribute (thn (he.run pins s σ H _ I h) fun v s1 ⟨y, H1, I1, r1, q1⟩ => thn (ho.run pins s1 σ H1 _ I1 q1) fun u s2 hh => ?_) hs
  obtain ⟨x, H2, I2, r2, a, C, initId, ex, T, hno, q⟩ := hh
  subst ex
  obtain rfl : u = Value.ref a := r2
  rcases q with ⟨ea, q⟩ | ⟨dx, fs, ea, ed, hl, q⟩
  · exact ostG_new T I2 ea hno r1 fun dx s' n ne J => ⟨σ, _, J, q dx n ne⟩
  · exact ostG_old T I2 ea ed hl hno r1 fun s' J => ⟨σ, _, J, q⟩
end
/-! promises of an own __init__ with no, one or two fields -/
def spJ0 (C : Addr) : Sp := fun vs H Q _ => ∃ a : Addr, vs = [.ref a] ∧ H a = some (exo a C none) ∧ Q .non H
def spJ2 (C : Addr) (f g : Str) : Sp := fun vs H Q _ => ∃ (a : Addr) (v w : V), vs = [.ref a, v, w] ∧ H a = some (exo a C none) ∧ ∀ dx, H dx = none → dx ≠ a → Q .non (upd (upd (upd H dx (exd dx [(f, v)])) a (exo a C (some dx))) dx (exd dx [(g, w), (f, v)]))
def tInitG0 (K : PySem.W.Frag) (initId : String) (m : Str) : TS := tDrop (tIniG K initId (tCons (tVar 0) (tCons (tC (.str m)) tNil)))
def tInitG1 (K : PySem.W.Frag) (initId : String) (m f : Str) : TS := tSeq (tInitG0 K initId m) (tOstG K f (tVar 0) (tVar 1))
def tInitG2 (K : PySem.W.Frag) (initId : String) (m f g : Str) : TS := tSeq (tInitG0 K initId m) (tSeq (tOstG K f (tVar 0) (tVar 1)) (tOstG K g (tVar 0) (tVar 2)))
section
variable {P : Program} {w : World} {K : PySem.W.Frag} {mg : Str → Option Value} {base : Heap} {x qual : Str} {st : Stmt} {fI C : Addr} {fd : FuncData} {k : Nat} {a b c m f g : Str} {dv : List V} {kv : List (Str × V)} {initId : String}
theorem ok_initG0 (T : OexG K C initId) (F : FunD K x qual (defArgs st) (defBody st) (defScope st) dv kv fI fd) (S : FnScope [a] [a] (defScope st))
    (d : ∀ (cdv : Value) (A : Around) (outer : List Env) (s : Shared) (H : Hp) (E : XK), PSs (cxOf CX0 P w K mg base [a] qual (defScope st) fI cdv A outer s H E).nox (defBody st) (tInitG0 K initId m)) :
    FnOk P w K mg base CX0 (k + 1) fI fd [a] (spJ0 C) := by
  refine F.ok S (fun vs H Q E ⟨o, e, _⟩ => by rw [e]; rfl) fun cdv A outer s H vs Q E hr ⟨o, e, ha, q⟩ => ?_
  subst e
  refine ⟨_, PSs.nox (d cdv A outer s H E), ?_⟩
  conv => whnf
  refine ⟨.ref o, rfl, ?_⟩
  conv => whnf
  exact ⟨o, C, [.str m], rfl, (show 1 ≤ 1000 by omega), T, ha, q⟩
theorem ok_initG1 (T : OexG K C initId) (hno : PySem.W.findIn K (.ref C) f = some none) (F : FunD K x qual (defArgs st) (defBody st) (defScope st) dv kv fI fd) (S : FnScope [a, b] [a, b] (defScope st))
    (d : ∀ (cdv : Value) (A : Around) (outer : List Env) (s : Shared) (H : Hp) (E : XK), PSs (cxOf CX0 P w K mg base [a, b] qual (defScope st) fI cdv A outer s H E).nox (defBody st) (tInitG1 K initId m f)) :
    FnOk P w K mg base CX0 (k + 1) fI fd [a, b] (spI C f) := by
  refine F.ok S (fun vs H Q E ⟨o, v, e, _⟩ => by rw [e]; rfl) fun cdv A outer s H vs Q E hr ⟨o, v, e, ha, q⟩ => ?_
  subst e
  refine ⟨_, PSs.nox (d cdv A outer s H E), ?_⟩
  conv => whnf
  refine ⟨.ref o, rfl, ?_⟩
  conv => whnf
  refine ⟨o, C, [.str m], rfl, (show 1 ≤ 1000 by omega), T, ha, ?_⟩
  conv => whnf
  refine ⟨v, rfl, ?_⟩
  conv => whnf
  exact ⟨.ref o, rfl, o, C, initId, rfl, T, hno, .inl ⟨ha, fun dx hn hne => q dx hn hne⟩⟩
theorem ok_initG2 (T : OexG K C initId) (hno : PySem.W.findIn K (.ref C) f = some none) (hno2 : PySem.W.findIn K (.ref C) g = some none) (F : FunD K x qual (defArgs st) (defBody st) (defScope st) dv kv fI fd) (S : FnScope [a, b, c] [a, b, c] (defScope st))
    (d : ∀ (cdv : Value) (A : Around) (outer : List Env) (s : Shared) (H : Hp) (E : XK), PSs (cxOf CX0 P w K mg base [a, b, c] qual (defScope st) fI cdv A outer s H E).nox (defBody st) (tInitG2 K initId m f g)) :
    FnOk P w K mg base CX0 (k + 1) fI fd [a, b, c] (spJ2 C f g) := by
  refine F.ok S (fun vs H Q E ⟨o, v, u, e, _⟩ => by rw [e]; rfl) fun cdv A outer s H vs Q E hr ⟨o, v, u, e, ha, q⟩ => ?_
  subst e
  refine ⟨_, PSs.nox (d cdv A outer s H E), ?_⟩
  conv => whnf
  refine ⟨.ref o, rfl, ?_⟩
  conv => whnf
  refine ⟨o, C, [.str m], rfl, (show 1 ≤ 1000 by omega), T, ha, ?_⟩
  conv => whnf
  refine ⟨v, rfl, ?_⟩
  conv => whnf
  refine ⟨.ref o, rfl, o, C, initId, rfl, T, hno, .inl ⟨ha, fun dx hn hne => ?_⟩⟩
  conv => whnf
  refine ⟨u, rfl, ?_⟩
  conv => whnf
  exact ⟨.ref o, rfl, o, C, initId, rfl, T, hno2, .inr ⟨dx, [(f, v)], by rw [upd_same], by rw [upd_ne hne, upd_same], by simp, q dx hn hne⟩⟩
end
/-! a new one: by places and names -/
section
variable {X : Cx} {e : Expr} {es : List Expr} {kws : List Keyword} {ta tk : TA} {x : Str} {C fI : Addr} {p pos : Pos} {k n : Nat} {fd : FuncData} {ps ks : List Str} {f initId : String} {g : List Value → List Value → List Value} {gV : List V → List V → List V} {sp : Sp}
theorem newG_core {pins : List (Addr × Obj)} {σ : L2.St} {H1 : Hp} {s1 : Shared} {Q : VK} {us ws : List Value} {vs zs : List V} (T : OexG X.K C initId) (iC : PySem.W.findIn X.K (.ref C) "__init__" = some (some (.ref fI))) (tI : PySem.W.typeIn X.K (.ref fI) = some (.type "function"))
    (F1 : FnOk X.prog X.w X.K X.mg X.base CX0 k fI fd ps sp) (hr : Room (k + 1) X.A) (hb : KBn X.K fd ps (n + 1) ks g gV) (I1 : Inv X pins σ H1 s1) (r1 : Vals vs us) (rz : Vals zs ws) (l1 : vs.length = n) (l2 : zs.length = ks.length) (hz : n ≤ 1000)
    (q1 : ∀ a, H1 a = none → sp (gV (.ref a :: vs) zs) (upd H1 a (exo a C none)) (fun v H2 => v = .non ∧ Q (.ref a) H2) (fun _ _ _ => False)) :
    wpAny (model X.prog X.w) X.A (call (.ref C) us (ks.zip ws)) (EP X pins σ Q) X.xe s1 := by
  obtain ⟨nm, q, N, bs, bm, sn, sub, ab, col, dd, k0, k1, k2, k3, k5, newId, hC, tl⟩ := T.cls
  obtain ⟨hp, gn, dr, tok, os⟩ := s1
  obtain ⟨A0, hA0⟩ : ∃ A0, A0 = hp.objs.size + 1 := ⟨_, rfl⟩
  have big : hp.objs.size ≤ A0 := by omega
  have none1 : H1 A0 = none := I1.hok.fresh big
  have q2 := q1 A0 none1
  have keeps : ∀ b o, hp.get? b = some o → ((hp.push (PySem.W.kdv_tup us)).push (PySem.HandSPX.excO C hp.objs.size)).get? b = some o := fun b o e => Heap.get?_push_of_some _ (Heap.get?_push_of_some _ e)
  have at_ : ((hp.push (PySem.W.kdv_tup us)).push (PySem.HandSPX.excO C hp.objs.size)).get? A0 = some (PySem.HandSPX.excO C hp.objs.size) := by rw [hA0]; heap_get
  have I2 := I1.laid (t' := tok) (a := A0) (o := exo A0 C none) (h' := (hp.push (PySem.W.kdv_tup us)).push (PySem.HandSPX.excO C hp.objs.size)) keeps big (exo_ok at_)
  have r2 : Vals (V.ref A0 :: vs) (Value.ref A0 :: us) := .cons rfl r1
  have e1 : (Value.ref A0 :: us).length = n + 1 := r2.length.symm.trans (congrArg Nat.succ l1)
  have e2 : ws.length = ks.length := rz.length.symm.trans l2
  have hus : us.length ≤ sizeLine := by rw [← Paired.length r1, l1, sizeLine_eq]; omega
  have ran := F1.run _ X.stack _ _ ⟨Value.ref A0 :: us, ks.zip ws⟩ (g (Value.ref A0 :: us) ws) _ _ (fun _ _ _ => False) (hr.make C us (ks.zip ws)) (I2.env0.make C us (ks.zip ws)) (hb.to _ (Value.ref A0 :: us) ws I2.kIn e1 e2) (hb.rel r2 rz) q2
  rw [hA0] at ran
  refine wpAny_call (DLX.x_call tl (I1.kIn _ _ hC) (PySem.W.looks_findIn I1.kIn iC) (fun self => PySem.W.bind_fn I1.kIn self tI) hus (codeAny_mono ran fun r s' hq => ?_))
  match r, hq with
  | .error er, hq => exact False.elim hq
  | .ok .next, hq => exact False.elim hq
  | .ok .brk, hq => exact False.elim hq
  | .ok .cont, hq => exact False.elim hq
  | .ok (.ret u), hq =>
    rw [← hA0] at hq
    obtain ⟨v, H2, os2, bare2, un2, hok2, rv, ev, q3⟩ := hq
    subst ev
    obtain ⟨v, H3, I3, rv3, ev3, q4⟩ := I2.after (Q := fun v H2 => v = .non ∧ Q (.ref A0) H2) ⟨.non, H2, os2, bare2, un2, hok2, rv, rfl, q3⟩
    subst ev3
    exact ⟨rv, .ref A0, H3, I3, by rw [hA0] <;> rfl, q4⟩
/-- the reading -/
def tNewG (C : Addr) (n m : Nat) (sp : Sp) (gV : List V → List V → List V) (ta tk : TA) : TE := fun σ H Q => ta σ H fun vs H1 => tk σ H1 fun zs H2 => vs.length = n ∧ zs.length = m ∧ n ≤ 1000 ∧
  ∀ a, H2 a = none → sp (gV (.ref a :: vs) zs) (upd H2 a (exo a C none)) (fun v H3 => v = .non ∧ Q (.ref a) H3) (fun _ _ _ => False)
theorem pe_newG (T : OexG X.K C initId) (iC : PySem.W.findIn X.K (.ref C) "__init__" = some (some (.ref fI))) (tI : PySem.W.typeIn X.K (.ref fI) = some (.type "function"))
    (F1 : FnOk X.prog X.w X.K X.mg X.base CX0 k fI fd ps sp) (hr : Room (k + 1) X.A) (hb : KBn X.K fd ps (n + 1) [] g gV) (hg : Gl X x) (hm : X.mg x = some (.ref C)) (ha : PA X (e :: es) ta)
    (hdb : (x == ("__debug__" : Str)) = false := by decide) (he : starEach (e :: es) X.env = (false, eval e X.env) :: starEach es X.env := by rfl) (hpl : (backTo pos (starEach es X.env)).any (·.1) = false := by rfl) :
    PE X (.Call (.Name x p) (e :: es) [] pos) (tNewG C n 0 sp gV ta tNil) := by
  constructor
  intro pins s σ H Q I h
  apply wpAny_Call_Name_kw
  apply ld_glob I hg hm ?_ hdb
  refine PySem.W.callWith_K (h₀ := X.base) I.ok.mod.kin T.kC (thn (ha.run pos pins s σ H _ I h) fun us s1 hh => ?_) he hpl
  obtain ⟨vs, H1, I1, r1, l1, l2, hz, q1⟩ := hh
  exact ⟨I1.kIn, newG_core (ws := []) (zs := []) T iC tI F1 hr hb I1 r1 .nil l1 rfl hz q1⟩
theorem pe_newG0 (T : OexG X.K C initId) (iC : PySem.W.findIn X.K (.ref C) "__init__" = some (some (.ref fI))) (tI : PySem.W.typeIn X.K (.ref fI) = some (.type "function"))
    (F1 : FnOk X.prog X.w X.K X.mg X.base CX0 k fI fd ps sp) (hr : Room (k + 1) X.A) (hb : KBn X.K fd ps (0 + 1) [] g gV) (hg : Gl X x) (hm : X.mg x = some (.ref C)) (hdb : (x == ("__debug__" : Str)) = false := by decide) :
    PE X (.Call (.Name x p) [] [] pos) (tNewG C 0 0 sp gV tNil tNil) := by
  constructor
  intro pins s σ H Q I h
  apply wpAny_Call_Name_kw
  apply ld_glob I hg hm ?_ hdb
  obtain ⟨l1, l2, hz, q1⟩ := h
  exact PySem.W.callWith_K0 I.kIn T.kC (newG_core (us := []) (ws := []) (vs := []) (zs := []) T iC tI F1 hr hb I .nil .nil rfl rfl hz q1)
theorem pe_newGK (T : OexG X.K C initId) (iC : PySem.W.findIn X.K (.ref C) "__init__" = some (some (.ref fI))) (tI : PySem.W.typeIn X.K (.ref fI) = some (.type "function"))
    (F1 : FnOk X.prog X.w X.K X.mg X.base CX0 k fI fd ps sp) (hr : Room (k + 1) X.A) (hb : KBn X.K fd ps (0 + 1) ks g gV) (hg : Gl X x) (hm : X.mg x = some (.ref C))
    (hkw : PK X kws tk) (hall : (backToKw pos (keywordEach kws X.env)).all (·.1.isSome) = true := by rfl) (hks : (backToKw pos (keywordEach kws X.env)).filterMap (·.1) = ks := by rfl)
    (hdb : (x == ("__debug__" : Str)) = false := by decide) (hpl : ((backTo pos (starEach [] X.env)).any (·.1) || (backToKw pos (keywordEach kws X.env)).any (·.1.isNone)) = false := by rfl) :
    PE X (.Call (.Name x p) [] kws pos) (tNewG C 0 ks.length sp gV tNil tk) := by
  constructor
  intro pins s σ H Q I h
  apply wpAny_Call_Name_kw
  apply ld_glob I hg hm ?_ hdb
  apply PySem.W.callWith_KW0 (h₀ := X.base) I.ok.mod.kin T.kC hall _ hpl
  refine thn (hkw.run pos pins s σ H _ I h) fun ws s2 ⟨zs, H2, I2, rz, l1, l2, hz, q2⟩ => ⟨I2.kIn, ?_⟩
  rw [hks]
  exact newG_core (us := []) (vs := []) T iC tI F1 hr hb I2 .nil rz rfl l2 hz q2
end
end DL
set_option Elab.async false
set_option linter.all false
set_option maxRecDepth 100000
set_option maxHeartbeats 4000000
/-! DL, part 39: exceptions as values: made, told apart, compared with themselves, their fields. -/
namespace DL
open PySem PySem.Spec L2 PyProof.Rows
/-! ### C(..) -/
/-- a new exception with these fields -/
def newO (C : Addr) (fl : List Str) (vs : List D) : GO := match fl with
  | [] => .exn C
  | _ => .exo C (fl.zip vs).reverse
section
variable {K : PySem.W.Frag}
theorem upd_swap {H : Hp} {a dx : Addr} {u v o : HO} (hne : dx ≠ a) : upd (upd (upd H a o) dx u) a v = upd (upd H dx u) a v := by
  funext b
  by_cases q : b = a
  · rw [q, upd_same, upd_same]
  · rw [upd_ne q, upd_ne q]
    by_cases q2 : b = dx
    · rw [q2, upd_same, upd_same]
    · rw [upd_ne q2, upd_ne q2, upd_ne q]
/-- the exception and its dict are laid: G tracks it -/
theorem laid_exo {H : Hp} {G : GHp} {Z : Addr → Bool} {a dx C : Addr} {fs : List (Str × D)} {xs : List (Str × V)} (ok : Ok K H G Z) (T : ExoF K C) (ha : H a = none) (hd : H dx = none) (hne : dx ≠ a) (hn : xs.map (·.1) = fs.map (·.1)) (r : Reps K (U H G Z) (fs.map (·.2)) (xs.map (·.2))) :
    Kp H G Z (upd (upd H dx (exd dx xs)) a (exo a C (some dx))) (gupd G a (.exo C fs)) ∧ Ok K (upd (upd H dx (exd dx xs)) a (exo a C (some dx))) (gupd G a (.exo C fs)) Z := by
  have k2 : Kp H G Z (upd H dx (exd dx xs)) G := Kp.laid hd
  have ok2 := ok.laid (o := exd dx xs) hd
  have ha2 : (upd H dx (exd dx xs)) a = none := by rw [upd_ne (Ne.symm hne)]; exact ha
  have ga : G a = none := (ok.free ha).1
  have fr := ok.free hd
  have k3 : Kp (upd H dx (exd dx xs)) G Z (upd (upd H dx (exd dx xs)) a (exo a C (some dx))) (gupd G a (.exo C fs)) := Kp.laidG ha2 ga
  exact ⟨k2.trans k3, ok2.laidG ha2 ⟨T, dx, xs, upd_same, U_of (by rw [gupd_ne hne]; exact fr.1) fr.2 (by rw [upd_ne hne, upd_same]), hn, r.mono (k2.trans k3).keep⟩⟩
end
section
variable {X : Cx} {e : Expr} {es : List Expr} {kws : List Keyword} {ta tk : DTA} {x : Str} {C fI : Addr} {p pos : Pos} {k n : Nat} {fd : FuncData} {ps ks : List Str} {f g initId : String} {ix : List Nat}
/-- what the promise of the own __init__ makes of a new one -/
structure NewP (X : Cx) (C : Addr) (fl : List Str) (sp : Sp) : Prop where
  go : ∀ (G : GHp) (Z : Addr → Bool) (H : Hp) (a : Addr) (vs : List D) (us : List V) (Q : VK), Ok X.K H G Z → H a = none → Reps X.K (U H G Z) vs us → vs.length = fl.length →
    (∀ H', Kp H G Z H' (gupd G a (newO C fl vs)) → Ok X.K H' (gupd G a (newO C fl vs)) Z → Q (.ref a) H') →
    sp (.ref a :: us) (upd H a (exo a C none)) (fun v H2 => v = .non ∧ Q (.ref a) H2) (fun _ _ _ => False)
theorem newP0 (T : ExoF X.K C) : NewP X C [] (spJ0 C) := ⟨fun G Z H a vs us Q ok ha r hl q => by
  cases r with
  | nil =>
    have ga : G a = none := (ok.free ha).1
    have kk : Kp H G Z (upd H a (exo a C none)) (gupd G a (.exn C)) := Kp.laidG ha ga
    exact ⟨a, rfl, upd_same, rfl, q _ kk (ok.laidG ha ⟨T, upd_same⟩)⟩
  | cons _ _ => simp at hl⟩
theorem newP1 {f : Str} (T : ExoF X.K C) : NewP X C [f] (spI C f) := ⟨fun G Z H a vs us Q ok ha r hl q => by
  rcases r with _ | ⟨r1, r⟩
  · simp at hl
  rcases r with _ | ⟨r2, r⟩
  · next d v =>
    refine ⟨a, v, rfl, upd_same, fun dx hdx hne => ⟨rfl, ?_⟩⟩
    have hd : H dx = none := by rw [upd_ne hne] at hdx; exact hdx
    rw [upd_swap hne]
    obtain ⟨k2, ok2⟩ := laid_exo (fs := [(f, d)]) (xs := [(f, v)]) ok T ha hd hne rfl (.cons r1 .nil)
    exact q _ k2 ok2
  · simp at hl⟩
theorem newP2 {f g : Str} (T : ExoF X.K C) : NewP X C [f, g] (spJ2 C f g) := ⟨fun G Z H a vs us Q ok ha r hl q => by
  rcases r with _ | ⟨r1, r⟩
  · simp at hl
  rcases r with _ | ⟨r2, r⟩
  · simp at hl
  rcases r with _ | ⟨r3, r⟩
  · next d v d2 v2 =>
    refine ⟨a, v, v2, rfl, upd_same, fun dx hdx hne => ⟨rfl, ?_⟩⟩
    have hd : H dx = none := by rw [upd_ne hne] at hdx; exact hdx
    rw [upd_swap hne]
    have e : upd (upd (upd H dx (exd dx [(f, v)])) a (exo a C (some dx))) dx (exd dx [(g, v2), (f, v)]) = upd (upd H dx (exd dx [(g, v2), (f, v)])) a (exo a C (some dx)) := by
      funext b
      by_cases q : b = dx
      · rw [q, upd_same, upd_ne hne, upd_same]
      · rw [upd_ne q]
        by_cases q2 : b = a
        · rw [q2, upd_same, upd_same]
        · rw [upd_ne q2, upd_ne q2, upd_ne q, upd_ne q]
    rw [e]
    obtain ⟨k2, ok2⟩ := laid_exo (fs := [(g, d2), (f, d)]) (xs := [(g, v2), (f, v)]) ok T ha hd hne rfl (.cons r2 (.cons r1 .nil))
    exact q _ k2 ok2
  · simp at hl⟩
variable {fl : List Str} {sp : Sp}
/-- the first is the new one itself -/
theorem kperm_self {α : Type} (ix : List Nat) (a : α) (us ws : List α) : kperm (0 :: ix.map (· + 1)) (a :: us) ws = a :: kperm ix us ws := by
  unfold kperm
  rw [List.filterMap_cons]
  simp [List.filterMap_map, Function.comp_def]
theorem new_split {n m : Nat} {σ : L2.St} {H : Hp} {Q : VK} (NP : NewP X C fl sp) (hn : n ≤ 1000) (h : cE X.K (fun δ G Q => ta δ G fun ds G1 => tk δ G1 fun es G2 => ds.length = n ∧ es.length = m ∧
      ∃ vs : List D, vs = kperm ix ds es ∧ vs.length = fl.length ∧ ∀ a, G2 a = none → Q (.ref a) (gupd G2 a (newO C fl vs))) σ H Q) :
    tNewG C n m sp (kperm (0 :: ix.map (· + 1))) (cA X.K ta) (cA X.K tk) σ H Q := by
  obtain ⟨δ, G, Z, Q0, ok, rs, h, k⟩ := h
  refine ⟨δ, G, Z, _, ok, rs, h, fun ds G1 us H1 h1 k1 ok1 r1 => ⟨δ, G1, Z, _, ok1, rs.mono k1.keep, h1, fun es G2 ws H2 h2 k2 ok2 r2 => ?_⟩⟩
  obtain ⟨l1, l2, vs, rfl, l3, q⟩ := h2
  refine ⟨by rw [← r1.length]; exact l1, by rw [← r2.length]; exact l2, hn, fun a ha => ?_⟩
  rw [kperm_self]
  have rr := (r1.mono k2.keep).kperm ix r2
  refine NP.go G2 Z H2 a _ _ Q ok2 ha rr l3 fun H' k3 ok3 => ?_
  exact k _ _ _ _ (q a (ok2.free ha).1) (k1.trans (k2.trans k3)) ok3 (.ref a)
end
section
variable {X : Cx} {e : Expr} {es : List Expr} {kws : List Keyword} {ta tk : DTA} {x : Str} {C fI : Addr} {p pos : Pos} {k n : Nat} {fd : FuncData} {ps ks : List Str} {initId : String} {ix : List Nat} {fl : List Str} {sp : Sp}
def dNew (C : Addr) (n m : Nat) (fl : List Str) (ix : List Nat) (ta tk : DTA) : DTE := fun δ G Q => ta δ G fun ds G1 => tk δ G1 fun es G2 => ds.length = n ∧ es.length = m ∧
  ∃ vs : List D, vs = kperm ix ds es ∧ vs.length = fl.length ∧ ∀ a, G2 a = none → Q (.ref a) (gupd G2 a (newO C fl vs))
theorem cA_mono {K : PySem.W.Frag} {t : DTA} {σ : L2.St} {H : Hp} {Q Q' : List V → Hp → Prop} (h : cA K t σ H Q) (k : ∀ vs H, Q vs H → Q' vs H) : cA K t σ H Q' := by
  obtain ⟨δ, G, Z, Q0, ok, rs, h, q⟩ := h
  exact ⟨δ, G, Z, Q0, ok, rs, h, fun ds G' vs H' a b c d => k _ _ (q ds G' vs H' a b c d)⟩
theorem cA_nil {K : PySem.W.Frag} {σ : L2.St} {H : Hp} {Q : List V → Hp → Prop} (h : cA K dNil σ H Q) : Q [] H := by
  obtain ⟨δ, G, Z, Q0, ok, rs, h, q⟩ := h
  exact q _ _ _ _ h .refl ok .nil
theorem de_newG (T : OexG X.K C initId) (NP : NewP X C fl sp) (iC : PySem.W.findIn X.K (.ref C) "__init__" = some (some (.ref fI))) (tI : PySem.W.typeIn X.K (.ref fI) = some (.type "function"))
    (F1 : FnOk X.prog X.w X.K X.mg X.base CX0 k fI fd ps sp) (hr : Room (k + 1) X.A) (hb : KBn X.K fd ps (n + 1) [] (kperm (0 :: ix.map (· + 1))) (kperm (0 :: ix.map (· + 1)))) (hg : Gl X x) (hm : X.mg x = some (.ref C)) (ha : DA X (e :: es) ta) (hn : n ≤ 1000 := by decide)
    (hdb : (x == ("__debug__" : Str)) = false := by decide) (he : starEach (e :: es) X.env = (false, eval e X.env) :: starEach es X.env := by rfl) (hpl : (backTo pos (starEach es X.env)).any (·.1) = false := by rfl) :
    DE X (.Call (.Name x p) (e :: es) [] pos) (dNew C n 0 fl ix ta dNil) :=
  PE.mono (pe_newG T iC tI F1 hr hb hg hm ha hdb he hpl) fun σ H Q h =>
    cA_mono (new_split NP hn h) fun vs H1 q => by
      have q := cA_nil q
      exact q
theorem de_newG0 (T : OexG X.K C initId) (NP : NewP X C fl sp) (iC : PySem.W.findIn X.K (.ref C) "__init__" = some (some (.ref fI))) (tI : PySem.W.typeIn X.K (.ref fI) = some (.type "function"))
    (F1 : FnOk X.prog X.w X.K X.mg X.base CX0 k fI fd ps sp) (hr : Room (k + 1) X.A) (hb : KBn X.K fd ps (0 + 1) [] (kperm (0 :: ix.map (· + 1))) (kperm (0 :: ix.map (· + 1)))) (hg : Gl X x) (hm : X.mg x = some (.ref C)) (hdb : (x == ("__debug__" : Str)) = false := by decide) :
    DE X (.Call (.Name x p) [] [] pos) (dNew C 0 0 fl ix dNil dNil) :=
  PE.mono (pe_newG0 T iC tI F1 hr hb hg hm hdb) fun σ H Q h => by
    have q := cA_nil (new_split NP (Nat.zero_le _) h)
    have q := cA_nil q
    exact q
theorem de_newGK (T : OexG X.K C initId) (NP : NewP X C fl sp) (iC : PySem.W.findIn X.K (.ref C) "__init__" = some (some (.ref fI))) (tI : PySem.W.typeIn X.K (.ref fI) = some (.type "function"))
    (F1 : FnOk X.prog X.w X.K X.mg X.base CX0 k fI fd ps sp) (hr : Room (k + 1) X.A) (hb : KBn X.K fd ps (0 + 1) ks (kperm (0 :: ix.map (· + 1))) (kperm (0 :: ix.map (· + 1)))) (hg : Gl X x) (hm : X.mg x = some (.ref C))
    (hkw : DKw X kws tk) (hall : (backToKw pos (keywordEach kws X.env)).all (·.1.isSome) = true := by rfl) (hks : (backToKw pos (keywordEach kws X.env)).filterMap (·.1) = ks := by rfl)
    (hdb : (x == ("__debug__" : Str)) = false := by decide) (hpl : ((backTo pos (starEach [] X.env)).any (·.1) || (backToKw pos (keywordEach kws X.env)).any (·.1.isNone)) = false := by rfl) :
    DE X (.Call (.Name x p) [] kws pos) (dNew C 0 ks.length fl ix dNil tk) :=
  PE.mono (pe_newGK T iC tI F1 hr hb hg hm hkw hall hks hdb hpl) fun σ H Q h => cA_nil (new_split NP (Nat.zero_le _) h)
end
/-! ### isinstance by any class -/
def IsX (K : PySem.W.Frag) (G : GHp) (x : D) (c : Value) (b : Bool) : Prop :=
  (∃ a C fs, x = .ref a ∧ G a = some (.exo C fs) ∧ PySem.W.kitOne K (.ref C) c = some b) ∨ (∃ a C, x = .ref a ∧ G a = some (.exn C) ∧ PySem.W.kitOne K (.ref C) c = some b) ∨
    ∃ t, tgOf G x = some t ∧ t ≠ .exc ∧ PySem.W.kitOne K (.type t.name) c = some b
def dIsX (K : PySem.W.Frag) (c : Value) (te : DTE) : DTE := fun δ G Q => te δ G fun x G1 => ∃ b, IsX K G1 x c b ∧ Q (.bl b) G1
theorem inst_exn {P : Program} {w : World} {H : Hp} {h : Heap} (hok : HOk P w H h) {a C : Addr} (e1 : H a = some (L2.exo a C none)) : ∃ ox, PySem.W.InstAt h a ox C none := by
  have o1 := hok a _ e1
  obtain ⟨⟨t1, h1⟩, _, _⟩ := o1
  exact ⟨_, h1, rfl, rfl, trivial⟩
section
variable {X : Cx} {e ce : Expr} {te : DTE} {c : V} {cv : Value} {p pos : Pos}
theorem call_isX (hc : ClsV c cv) : CallR X (.builtin "isinstance") (fun xs H Q => ∃ (x : D) (v : V) (G : GHp) (Z : Addr → Bool) (Q0 : DK) (b : Bool), xs = [v, c] ∧ Ok X.K H G Z ∧ Rep X.K (U H G Z) x v ∧ IsX X.K G x cv b ∧ Q0 (.bl b) G ∧
    ∀ d G' v' H', Q0 d G' → Kp H G Z H' G' → Ok X.K H' G' Z → Rep X.K (U H' G' Z) d v' → Q v' H') := by
  intro pins s σ H xs us Q I rv ⟨x, v, G, Z, Q0, b, e, ok, r, is, q, k⟩
  subst e
  have q : Q (.bl b) H := k _ _ _ _ q .refl ok (.bl _)
  rcases is with ⟨a, C, fs, rfl, hG, hk⟩ | ⟨a, C, rfl, hG, hk⟩ | ⟨t, ht, hx, hk⟩
  · cases r
    obtain ⟨_, f0, dx, xs, e1, e2, _⟩ := ok.ok _ _ hG
    obtain ⟨u1, u2, rfl, q1, q2⟩ := vals2 rv
    obtain rfl : u1 = .ref a := q1
    obtain rfl := hc.eq q2
    obtain ⟨ox, od, J⟩ := inst_exo I.hok e1 (U_le _ _ e2)
    exact PySem.W.kia_one (ExoX.kitx f0.c) I.kIn J hk (fun z => nomatch z) fun tk => ⟨.bl b, H, I.kept (t' := tk) fun _ _ z => z, rfl, q⟩
  · cases r
    obtain ⟨_, f0, e1⟩ := ok.ok _ _ hG
    obtain ⟨u1, u2, rfl, q1, q2⟩ := vals2 rv
    obtain rfl : u1 = .ref a := q1
    obtain rfl := hc.eq q2
    obtain ⟨ox, J⟩ := inst_exn I.hok e1
    exact PySem.W.kia_one (ExoX.kitx f0.c) I.kIn J hk (fun z => nomatch z) fun tk => ⟨.bl b, H, I.kept (t' := tk) fun _ _ z => z, rfl, q⟩
  · exact call_isi pins s σ H _ us Q I rv ⟨v, c, _, cv, b, rfl, hc, tg_of ok r ht hx, hk, q⟩
theorem de_isX (hc : ClsV c cv) (he : DE X e te) (ht : PE X ce (tC c)) (hg : Gl X "isinstance") (hm : X.mg "isinstance" = none)
    (hs : starEach [e, ce] X.env = (false, eval e X.env) :: starEach [ce] X.env := by rfl) (hs2 : starEach [ce] X.env = (false, eval ce X.env) :: starEach [] X.env := by rfl) (hpl : (backTo pos (starEach [ce] X.env)).any (·.1) = false := by rfl) :
    DE X (.Call (.Name "isinstance" p) [e, ce] [] pos) (dIsX X.K cv te) :=
  PE.mono (pe_callB (call_isX hc) hg hm (by decide +kernel) (pa_cons he (pa_cons ht pa_nil hs2) hs) (by decide) (by decide) hs hpl) fun σ H Q ⟨δ, G, Z, Q0, ok, rs, h, k⟩ =>
    ⟨δ, G, Z, _, ok, rs, h, fun x G1 v H1 h1 k1 ok1 r1 => by
      obtain ⟨b, is, q⟩ := h1
      exact ⟨x, v, G1, Z, Q0, b, rfl, ok1, r1, is, q, fun d G' v' H' a b c d' => k _ _ _ _ a (k1.trans b) c d'⟩⟩
end
/-! ### e.f -/
def dFld (K : PySem.W.Frag) (f : Str) (te : DTE) : DTE := fun δ G Q => te δ G fun x G1 => ∃ a C fs d, x = .ref a ∧ G1 a = some (.exo C fs) ∧ XfC K C ∧ PySem.W.findIn K (.ref C) f = some none ∧ fs.lookup f = some d ∧ Q d G1
def tFldX (K : PySem.W.Frag) (f : Str) (te : TE) : TE := fun σ H Q => te σ H fun x H1 => ∃ (a C dx : Addr) (fs : List (Str × V)) (v : V), x = .ref a ∧ H1 a = some (L2.exo a C (some dx)) ∧ H1 dx = some (L2.exd dx fs) ∧ XfC K C ∧ PySem.W.findIn K (.ref C) f = some none ∧ fs.lookup f = some v ∧ Q v H1
section
variable {X : Cx} {e : Expr} {te : DTE} {t : TE} {f : Str} {pos : Pos}
theorem pe_fldX (he : PE X e t) (hb : attributeBase e f X.env (eval e X.env) = eval e X.env := by rfl) : PE X (.Attribute e f pos) (tFldX X.K f t) := by
  constructor
  intro pins s σ H Q I h
  refine attr_of hb (thn (he.run pins s σ H _ I h) fun u s1 hh => ?_)
  obtain ⟨x, H1, I1, rx, a, C, dx, fs, v, ex, e1, e2, T, hno, l, q⟩ := hh
  subst ex
  obtain rfl : u = Value.ref a := rx
  obtain ⟨t1, h1⟩ := exo_at I1.hok e1
  obtain ⟨mA, hns, hr⟩ := exd_at I1.hok e2
  obtain ⟨od, ho, hl⟩ := lookIn_ns hns
  obtain ⟨u, hu, ru⟩ := RelO.some_of (v := v) (o := mA f) (by rw [← l]; exact hr f)
  have J : PySem.W.InstAt s1.heap a _ C (some od) := ⟨h1, rfl, rfl, ho⟩
  exact HandSPX.exc_get I1.kIn J T.ga T.gg T.exC (PySem.W.findObj_own T.hdC hno rfl (by rw [hl, hu])) (handed_of ru) ⟨v, H1, I1.tok _, ru, q⟩
theorem de_fld (he : DE X e te) (hb : attributeBase e f X.env (eval e X.env) = eval e X.env := by rfl) : DE X (.Attribute e f pos) (dFld X.K f te) :=
  PE.mono (pe_fldX he hb) fun σ H Q ⟨δ, G, Z, Q0, ok, rs, h, k⟩ => ⟨δ, G, Z, _, ok, rs, h, fun x G1 v H1 h1 k1 ok1 r1 => by
    obtain ⟨a, C, fs, d, rfl, hG, T, hno, l, q⟩ := h1
    cases r1
    obtain ⟨_, f0, dx, xs, e1, e2, en, r⟩ := ok1.ok _ _ hG
    obtain ⟨u, hu, ru⟩ := lookup_rep en r l
    exact ⟨a, C, dx, xs, u, rfl, e1, U_le _ _ e2, T, hno, hu, k _ _ _ _ q k1 ok1 ru⟩⟩
end
/-! ### x != x of things that are no data -/
structure NeC (K : PySem.W.Frag) (C : Addr) : Prop where
  ne : PySem.W.findIn K (.ref C) "__ne__" = some (some (.builtin "object.__ne__"))
  eq : PySem.W.findIn K (.ref C) "__eq__" = some (some (.builtin "object.__eq__"))
  mo : PySem.W.mroIn K C (.type "object") = some true
end DL
namespace DLX
open PySem PySem.Spec PyProof.Rows PySem.SeqAt
section
variable {M : Model} {prog : Program} {w : World} {A : Around} {E : Value → Shared → Prop} {s : Shared} {K : PySem.W.Frag} {x C : Addr} {ox : Obj} {od : Option Obj}
theorem bound_any {nm : Str} {id : String} {args : List Value} {Q : Option Value → Shared → Prop} (S : Slot "object" nm id) (KI : K.In s.heap) (I : PySem.W.InstAt s.heap x ox C od) (hs : PySem.W.findIn K (.ref C) nm = some (some (.builtin id)))
    (h : wpAny M A (call (.builtin id) (.ref x :: args)) (fun v => Q (some v)) E s) : wpAny M A (callSpecialIfBound? (.ref x) nm args) Q E s := by
  simp only [callSpecialIfBound?, bindSpecialIfBound?]
  apply wpAny_holding
  apply wpAny_bind
  apply wpAny_bind
  apply wpAny_bind
  apply I.type.here
  apply (PySem.W.looks_findIn KI hs).here
  apply wpAny_bind
  refine wpAny_askSetting (wpAny_ite ?_)
  have fin : wpAny M A (call (.builtin id) ([.ref x] ++ args) >>= fun v => pure (some v)) Q E s := wpAny_bind (wpAny_mono h (fun v s' h' => wpAny_pure h') fun _ _ h' => h')
  split
  · exact wpAny_bind (wpAny_of_eq (S.bind _) (wpAny_pure (by exact fin)))
  · exact wpAny_tryCatch (wpAny_bind (wpAny_of_eq (S.bind _) (wpAny_pure (by exact fin))))
theorem ne_self (hu : A.units + 1 < cLine) (KI : K.In s.heap) (I : PySem.W.InstAt s.heap x ox C od) (N : DL.NeC K C) {Q : Value → Shared → Prop} (h : Q (.bool false) s) :
    wpAny (model prog w) A (compareOp .NotEq (.ref x) (.ref x)) Q E s := by
  show wpAny (model prog w) A (richCompare .NotEq (.ref x) (.ref x)) Q E s
  have u0 : A.units < cLine := Nat.lt_of_succ_lt hu
  have sub : PySem.W.Looks (model prog w) s.heap (isInstance (.ref x) (.type "object")) true := I.type.andThen (PySem.W.looks_mroIn KI N.mo)
  have same : wpAny (model prog w) A.in1 (callSpecialIfBound? (.ref x) "__eq__" [.ref x]) (fun r s' => r = some (.bool true) ∧ s' = s) (fun _ _ => False) s := by
    apply bound_any F.cmp_object.eq KI I N.eq
    apply wpAny_call
    apply codeAny_call_builtin F.cmp_object.eq.plain F.cmpEntry_eq
    apply PySem.W.check_slot F.cmpKind_eq F.cmpSplit_eq sub (F.cmpArgs_eq _ _)
    exact objEq_entry_same ⟨rfl, rfl⟩
  have one : wpAny (model prog w) A (tryCompare (.ref x) "__ne__" (.ref x)) (fun r s' => r = some (.bool false) ∧ s' = s) E s := by
    unfold tryCompare
    apply wpAny_bind
    apply bound_any F.cmp_object.ne KI I N.ne
    apply wpAny_call
    apply codeAny_call_builtin F.cmp_object.ne.plain F.cmpEntry_ne
    apply PySem.W.check_slot F.cmpKind_ne F.cmpSplit_ne sub (F.cmpArgs_ne _ _)
    unfold Builtin.«object.__ne__»
    repeat (first | with_reducible refine wpAny_cRoomFor hu ?_ | (with_reducible refine wpAny_mono same (fun r s' z => ?_) (fun _ _ z => z.elim); obtain ⟨z1, z2⟩ := z; subst z1; subst z2) | wp_step)
    all_goals exact ⟨rfl, rfl⟩
  simp only [richCompare, cmpInfo_NotEq, oneThing_ref]
  refine wpAny_holding (wpAny_bind (wpAny_cRoomFor u0 ?_))
  refine wpAny_bind (I.type.here ?_)
  refine wpAny_bind (I.type.here ?_)
  rw [if_neg (by simp)]
  refine wpAny_bind (wpAny_pure ?_)
  simp only [Bool.false_eq_true, if_false]
  refine wpAny_bind (wpAny_mono one (fun r s1 z => ?_) fun _ _ e => e)
  obtain ⟨z1, z2⟩ := z
  subst z1
  subst z2
  exact wpAny_pure h
end
end DLX

namespace DL
open PySem PySem.Spec L2 PyProof.Rows
theorem hits_self {κ : Type} [DecidableEq κ] {A : Around} {s : Shared} {kvs : List (κ × V)} {vb : List (κ × Value)} (rb : KV kvs vb) {ks : List (κ × V)} {va : List (κ × Value)} (ra : KV ks va)
    (hp : ∀ p ∈ ks, valV kvs p.1 = some p.2 ∧ (flatB p.2 = true ∨ ∃ a, p.2 = .ref a)) : PySem.W.KeqHits A s vb va true := by
  unfold KV at ra
  induction ra with
  | nil => exact .nil
  | @cons p q ps qs h t ih =>
    obtain ⟨h1, h2⟩ := h
    obtain ⟨e, f⟩ := hp p List.mem_cons_self
    have rr : RelO (some p.2) (valueAt vb p.1) := by rw [← e]; exact rb.val p.1
    obtain ⟨y, hy, ry⟩ := rr.some_of
    obtain ⟨k, v⟩ := q
    obtain rfl : p.1 = k := h1
    have ev : SeqAt.EqAt A s v y true := by
      rcases f with f | ⟨a, f⟩
      · exact eqAt_same h2 ry f
      · rw [f] at h2 ry
        cases (show v = Value.ref a from h2)
        cases (show y = Value.ref a from ry)
        exact SeqAt.EqAt.same _
    exact PySem.W.KeqHits.hit (e := true) (b := true) hy ev (ih fun p' hm => hp p' (List.mem_cons_of_mem _ hm))
/-- no class -/
def noTy : D → Bool
  | .ty _ => false
  | _ => true
def dNeS (K : PySem.W.Frag) : DR2 := fun x y G Q => (∃ b, EqB G x y b ∧ Q (.bl (!b)) G) ∨
  ∃ a, x = .ref a ∧ y = .ref a ∧ ((∃ C fs, G a = some (.exo C fs) ∧ NeC K C) ∨ ∃ kvs, G a = some (.dK kvs) ∧ (kvs.map (·.1)).Nodup ∧ ∀ p ∈ kvs, noTy p.2 = true) ∧ Q (.bl false) G
theorem rep_self {K : PySem.W.Frag} {W : Hp} {d : D} {v : V} (r : Rep K W d v) (h : noTy d = true) : flatB v = true ∨ ∃ a, v = .ref a := by
  cases r <;> first | exact .inl rfl | exact .inr ⟨_, rfl⟩ | cases h
theorem reps_self {K : PySem.W.Frag} {W : Hp} : ∀ {kvs : List (Key × D)} {xs : List (Key × V)}, Reps K W (kvs.map (·.2)) (xs.map (·.2)) → (∀ p ∈ kvs, noTy p.2 = true) → ∀ p ∈ xs, flatB p.2 = true ∨ ∃ a, p.2 = .ref a
  | [], [], _, _, p, hm => by simp at hm
  | _ :: _, [], r, _, p, hm => by simp at hm
  | [], _ :: _, r, _, _, _ => by cases r
  | k :: kvs, x :: xs, r, h, p, hm => by
    cases r with
    | cons r1 r2 =>
      rcases List.mem_cons.mp hm with rfl | hm
      · exact rep_self r1 (h k (List.mem_cons_self ..))
      · exact reps_self r2 (fun q hq => h q (List.mem_cons_of_mem _ hq)) p hm
section
variable {X : Cx}
theorem dop_neS (hu : X.A.units + 64 < cLine) : DOp X (compareOp .NotEq) (dNeS X.K) := by
  rintro pins s σ H xv yv v u Q I rv ru ⟨x, y, G, Z, Q0, ok, r1, r2, h, k⟩
  rcases h with ⟨b, e, q⟩ | ⟨a, rfl, rfl, h, q⟩
  · exact dop_neB hu pins s σ H xv yv v u Q I rv ru ⟨x, y, G, Z, Q0, ok, r1, r2, ⟨b, e, q⟩, k⟩
  · have q := k _ _ _ _ q .refl ok (.bl _)
    cases r1
    cases r2
    obtain rfl : v = Value.ref a := rv
    obtain rfl : u = Value.ref a := ru
    rcases h with ⟨C, fs, hG, N⟩ | ⟨kvs, hG, nd, hv⟩
    · obtain ⟨_, f0, dx, xs, e1, e2, _⟩ := ok.ok _ _ hG
      obtain ⟨ox, od, J⟩ := inst_exo I.hok e1 (U_le _ _ e2)
      exact DLX.ne_self (by omega) I.kIn J N ⟨.bl false, H, I, rfl, q⟩
    · obtain ⟨_, xs, e1, e2, e3⟩ := ok.ok _ _ hG
      obtain ⟨_, ya, va, ra, da⟩ := (show ObjOk X.prog X.w H s.heap a (.dK xs) from I.hok a _ e1)
      have hv2 := reps_self e3 hv
      have nd2 : (xs.map (·.1)).Nodup := by rw [e2]; exact nd
      refine PySem.W.keq_ne (knd := mixKind X.prog X.w) (r := true) ya ya da da (by omega) (fun _ => hits_self ra ra fun p hp => ⟨val_nodup nd2 p hp, hv2 p hp⟩) ?_
      exact ⟨.bl false, H, I, by simp [L2.RelV], q⟩
end
end DL
set_option Elab.async false
set_option linter.all false
set_option maxRecDepth 100000
set_option maxHeartbeats 1000000
/-! DL, part 40: what is known of own exception classes over any built-in class, told by Bools. -/
namespace DL
open PySem PySem.Spec L2 PyProof.Rows He
/-- a class of one's own over the built-in order tl, made by newId -/
def oexGO (C : Addr) (tl : List Value) (newId : String) : Obj → Bool
  | ⟨oc, _, .cls cd, sl⟩ => eqO (some (some oc)) (some (some (.type "type"))) && (decide (cd.mro = .ref C :: cd.mro.tail) && (PySem.W.excTail tl cd.mro.tail && (cd.hasDict && (!cd.hasDel &&
    decide (sl = #[sl.getD 0 none, sl.getD 1 none, sl.getD 2 none, sl.getD 3 none, some (.builtin newId), sl.getD 5 none])))))
  | _ => false
theorem oexGO_ok {C : Addr} {tl : List Value} {newId : String} {o : Obj} (h : oexGO C tl newId o = true) :
    ∃ nm q N bs bm sn sub ab col dd k0 k1 k2 k3 k5, o = excClassObj nm q C N bs bm true sn sub ab col dd k0 k1 k2 k3 k5 newId ∧ PySem.W.excTail tl bm = true := by
  obtain ⟨oc, od, dt, sl⟩ := o
  cases dt with
  | cls cd =>
    obtain ⟨h1, h2⟩ := ba h
    have h1 := Option.some.inj (Option.some.inj (eqO_ok h1))
    obtain ⟨h3, h4⟩ := ba h2
    obtain ⟨h5, h6⟩ := ba h4
    obtain ⟨h7, h8⟩ := ba h6
    obtain ⟨h9, h10⟩ := ba h8
    have h3 := of_decide_eq_true h3
    have h10 := of_decide_eq_true h10
    obtain ⟨nm, bs, mro, ns, q, hd, sn, sub, ab, col, del⟩ := cd
    have h3 : mro = .ref C :: mro.tail := h3
    have h5 : PySem.W.excTail tl mro.tail = true := h5
    have h7 : hd = true := h7
    have h9 : (!del) = true := h9
    cases del with
    | true => cases h9
    | false =>
      subst h7
      subst h1
      exact ⟨nm, q, ns, bs, mro.tail, sn, sub, ab, col, od, sl.getD 0 none, sl.getD 1 none, sl.getD 2 none, sl.getD 3 none, sl.getD 5 none, by
        show (⟨_, _, .cls ⟨nm, bs, mro, ns, q, true, sn, sub, ab, col, false⟩, sl⟩ : Obj) = ⟨_, _, .cls ⟨nm, bs, .ref C :: mro.tail, ns, q, true, sn, sub, ab, col, false⟩, #[sl.getD 0 none, sl.getD 1 none, sl.getD 2 none, sl.getD 3 none, some (.builtin newId), sl.getD 5 none]⟩
        rw [← h3, ← h10], h5⟩
  | _ => cases h
def oexGB (K : PySem.W.Frag) (C : Addr) (tl : List Value) (newId : String) : Bool := (match K.lookup C with
  | some o => oexGO C tl newId o
  | none => false) && (eqO (PySem.W.findIn K (.ref C) "__setattr__") (some (some (.builtin "object.__setattr__"))) && (decide (PySem.W.subIn K (.ref C) (.type "BaseException") = some true) && (decide (PySem.W.typeIn K (.ref C) = some (.type "type")) && PySem.W.keepIn K (.ref C))))
theorem oexGB_ok {K : PySem.W.Frag} {C : Addr} {tl : List Value} {newId initId : String} (T : DLX.Tail tl newId initId) (h : oexGB K C tl newId = true) : OexG K C initId := by
  obtain ⟨h1, h2⟩ := ba h
  obtain ⟨h3, h4⟩ := ba h2
  obtain ⟨h5, h6⟩ := ba h4
  obtain ⟨h7, h8⟩ := ba h6
  cases q : K.lookup C with
  | none =>
    rw [q] at h1
    cases h1
  | some o =>
    rw [q] at h1
    obtain ⟨nm, qn, N, bs, bm, sn, sub, ab, col, dd, k0, k1, k2, k3, k5, e, r⟩ := oexGO_ok h1
    exact ⟨⟨nm, qn, N, bs, bm, sn, sub, ab, col, dd, k0, k1, k2, k3, k5, newId, by rw [q, e], T.over r⟩, eqO_ok h3, of_decide_eq_true h5, of_decide_eq_true h7, h8⟩
def bsgB (K : PySem.W.Frag) (C : Addr) (initId : String) : Bool := PySem.W.readsIn K C (.type "type") && (eqO (PySem.W.specialIn K (.ref C) "__getattribute__") (some (some (.builtin "type.__getattribute__"))) && eqO (cfV (PySem.W.findCls K (.ref C) (.type "type") "__init__")) (some (some (.builtin initId))))
theorem bsgB_ok {K : PySem.W.Frag} {C : Addr} {initId : String} (hi : PySem.W.handedIn (.builtin initId) = true) (h : bsgB K C initId = true) : BsG K C initId := by
  obtain ⟨h1, h2⟩ := ba h
  obtain ⟨h3, h4⟩ := ba h2
  exact ⟨h1, eqO_ok h3, cfV_ok (eqO_ok h4), hi⟩
/-- the module's own class x, with the fields fl -/
structure XG (K : PySem.W.Frag) (mg : Str → Option Value) (x : Str) (fl : List Str) (initId : String) : Prop where
  m : mg x = some (.ref (ga K x))
  o : OexG K (ga K x) initId
  e : ExoF K (ga K x)
  xf : XfC K (ga K x)
  ne : NeC K (ga K x)
  no : ∀ f ∈ fl, PySem.W.findIn K (.ref (ga K x)) f = some none
  ini : PySem.W.findIn K (.ref (ga K x)) "__init__" = some (some (.ref (fAd K (x, some "__init__"))))
  ti : PySem.W.typeIn K (.ref (fAd K (x, some "__init__"))) = some (.type "function")
def mB (K : PySem.W.Frag) (x : Str) : Bool := eqO (PySem.W.nsIn K mainGlobals x) (some (some (.ref (ga K x))))
def neB (K : PySem.W.Frag) (C : Addr) : Bool := eqO (PySem.W.findIn K (.ref C) "__ne__") (some (some (.builtin "object.__ne__"))) && (eqO (PySem.W.findIn K (.ref C) "__eq__") (some (some (.builtin "object.__eq__"))) && decide (PySem.W.mroIn K C (.type "object") = some true))
theorem neB_ok {K : PySem.W.Frag} {C : Addr} (h : neB K C = true) : NeC K C := by
  obtain ⟨h1, h⟩ := ba h
  obtain ⟨h2, h3⟩ := ba h
  exact ⟨eqO_ok h1, eqO_ok h2, of_decide_eq_true h3⟩
def xgB (K : PySem.W.Frag) (x : Str) (fl : List Str) (tl : List Value) (newId : String) : Bool := mB K x && (oexGB K (ga K x) tl newId && (exoB K (ga K x) && (xfB K (ga K x) && (neB K (ga K x) && (fl.all (fun f => eqO (PySem.W.findIn K (.ref (ga K x)) f) (some none)) &&
  (eqO (PySem.W.findIn K (.ref (ga K x)) "__init__") (some (some (.ref (fAd K (x, some "__init__"))))) && decide (PySem.W.typeIn K (.ref (fAd K (x, some "__init__"))) = some (.type "function"))))))))
theorem mB_ok {K : PySem.W.Frag} {mg : Str → Option Value} {h : Heap} (X : K.In h) (G : h.Ns mainGlobals mg) {x : Str} (c : mB K x = true) : mg x = some (.ref (ga K x)) := PySem.W.mg_of X G (eqO_ok c)
theorem xgB_ok {K : PySem.W.Frag} {mg : Str → Option Value} {h : Heap} (X : K.In h) (G : h.Ns mainGlobals mg) {x : Str} {fl : List Str} {tl : List Value} {newId initId : String} (T : DLX.Tail tl newId initId) (c : xgB K x fl tl newId = true) : XG K mg x fl initId := by
  obtain ⟨h1, c⟩ := ba c
  obtain ⟨h2, c⟩ := ba c
  obtain ⟨h3, c⟩ := ba c
  obtain ⟨h4, c⟩ := ba c
  obtain ⟨h5, c⟩ := ba c
  obtain ⟨h6, c⟩ := ba c
  obtain ⟨h7, h8⟩ := ba c
  exact ⟨mB_ok X G h1, oexGB_ok T h2, exoB_ok h3, xfB_ok h4, neB_ok h5, fun f hf => eqO_ok (List.all_eq_true.mp h6 f hf), eqO_ok h7, of_decide_eq_true h8⟩
/-- an own base class, or a built-in one -/
structure XBs (K : PySem.W.Frag) (mg : Str → Option Value) (x : Str) (initId : String) : Prop where
  m : mg x = some (.ref (ga K x))
  b : BsG K (ga K x) initId
theorem xbs_ok {K : PySem.W.Frag} {mg : Str → Option Value} {h : Heap} (X : K.In h) (G : h.Ns mainGlobals mg) {x : Str} {initId : String} (hi : PySem.W.handedIn (.builtin initId) = true) (c : (mB K x && bsgB K (ga K x) initId) = true) : XBs K mg x initId := by
  obtain ⟨h1, h2⟩ := ba c
  exact ⟨mB_ok X G h1, bsgB_ok hi h2⟩
def xzB (K : PySem.W.Frag) (B initId : String) : Bool := eqO (cfV (PySem.W.findCls K (.type B) (.type "type") "__init__")) (some (some (.builtin initId)))
theorem xzB_ok {K : PySem.W.Frag} {B initId : String} (c : xzB K B initId = true) : PySem.W.findCls K (.type B) (.type "type") "__init__" = some (.val (.builtin initId)) := cfV_ok (eqO_ok c)
/-- what class an instance of one of these classes is of, among them -/
def Kin (K : PySem.W.Frag) (xs : List Str) : Prop := ∀ a ∈ xs, ∀ b ∈ xs, PySem.W.kitOne K (.ref (ga K a)) (.ref (ga K b)) = some (decide (a = b))
def kinB (K : PySem.W.Frag) (xs : List Str) : Bool := xs.all fun a => xs.all fun b => decide (PySem.W.kitOne K (.ref (ga K a)) (.ref (ga K b)) = some (decide (a = b)))
theorem kinB_ok {K : PySem.W.Frag} {xs : List Str} (c : kinB K xs = true) : Kin K xs := fun a ha b hb => of_decide_eq_true (List.all_eq_true.mp (List.all_eq_true.mp c a ha) b hb)
/-- fields that no class hides -/
def Flk (K : PySem.W.Frag) (ps : List (Str × Str)) : Prop := ∀ p ∈ ps, XfC K (ga K p.1) ∧ PySem.W.findIn K (.ref (ga K p.1)) p.2 = some none
def flkB (K : PySem.W.Frag) (ps : List (Str × Str)) : Bool := ps.all fun p => xfB K (ga K p.1) && eqO (PySem.W.findIn K (.ref (ga K p.1)) p.2) (some none)
theorem flkB_ok {K : PySem.W.Frag} {ps : List (Str × Str)} (c : flkB K ps = true) : Flk K ps := fun p hp => by
  obtain ⟨h1, h2⟩ := ba (List.all_eq_true.mp c p hp)
  exact ⟨xfB_ok h1, eqO_ok h2⟩
end DL
set_option Elab.async false
set_option linter.all false
set_option maxRecDepth 100000
set_option maxHeartbeats 1000000
/-! DL, part 41: Hooks that look at what is needed alone (no list is freed of doubles: that cost the kernel gigabytes). -/
namespace DL
open PySem PySem.Spec L2 PyProof.Rows He
def ndO (o : Obj) : List Addr := match o.data with
  | .seq its _ => its.toList.flatMap refV
  | .dict es _ => es.toList.flatMap fun e => refV e.val
  | .func fd => refV fd.code ++ refV fd.defaults ++ refV fd.kwdefaults
  | .cls cd => [cd.ns]
  | _ => []
def stepN (g : Addr → Option Obj) (as : List Addr) : List Addr := as.flatMap fun a => match g a with
  | some o => ndO o
  | none => []
def asN (g : Addr → Option Obj) : Nat → List Addr → List Addr
  | 0, fr => fr
  | n + 1, fr => fr ++ asN g n (stepN g fr)
def obsEN (n : Nat) (fa : List Fa) (fn : List DefD) (ex : PySem.W.Frag → Bool) (g : Addr → Option Obj) : AlE := obsE fa fn ex (frG g (cStatics :: asN g n [mainGlobals]))
def hookEN (n : Nat) (fa : List Fa) (fn : List DefD) (ex : PySem.W.Frag → Bool) : PySem.W.Hook where
  α := AlE
  obs := fun s => obsEN n fa fn ex s.heap.get?
  val := fun _ => valE fn
  says := fun _ h => ∃ K : PySem.W.Frag, K.In h ∧ SaysE fa fn ex K
  of := fun _ _ e => ⟨_, frG_in, e⟩
  keeps := fun _ _ _ ⟨K, hK, c⟩ k => ⟨K, PySem.W.Frag.In.keeps hK k, c⟩
theorem obsEN_eq {n : Nat} {fa : List Fa} {fn : List DefD} {ex : PySem.W.Frag → Bool} {g : Addr → Option Obj} {s : Shared} (h : ∀ a, g a = s.heap.get? a) : obsEN n fa fn ex g = (hookEN n fa fn ex).obs s := by
  have e : g = s.heap.get? := funext h
  rw [e] <;> rfl
def obsFN (n : Nat) (fa : List Fa) (fn : List DefD) (ts : List Tab) (ex : PySem.W.Frag → Bool) (g : Addr → Option Obj) : AlF := obsF fa fn ts ex (frG g (cStatics :: asN g n [mainGlobals]))
def hookFN (n : Nat) (fa : List Fa) (fn : List DefD) (ts : List Tab) (ex : PySem.W.Frag → Bool) : PySem.W.Hook where
  α := AlF
  obs := fun s => obsFN n fa fn ts ex s.heap.get?
  val := fun w => valF fn ts w
  says := fun w h => ∃ K : PySem.W.Frag, K.In h ∧ SaysF fa fn ts ex w K
  of := fun _ _ e => ⟨_, frG_in, e⟩
  keeps := fun _ _ _ ⟨K, hK, c⟩ k => ⟨K, PySem.W.Frag.In.keeps hK k, c⟩
theorem obsFN_eq {n : Nat} {fa : List Fa} {fn : List DefD} {ts : List Tab} {ex : PySem.W.Frag → Bool} {g : Addr → Option Obj} {s : Shared} (h : ∀ a, g a = s.heap.get? a) : obsFN n fa fn ts ex g = (hookFN n fa fn ts ex).obs s := by
  have e : g = s.heap.get? := funext h
  rw [e] <;> rfl
end DL
set_option linter.all false
set_option maxRecDepth 100000
namespace K04
open PySem PySem.Spec L2 DL
/-! bodies, printed by gen.py -/
/-- _law_box: 0 cell -/
def t_law_box : DTS :=
  (dRet (dLstM (dCons (dCB (dR2 dMax2R) (dCons (dC (.int 0)) (dCons (dOp (dI0 fun i j => .int (i - j)) (dVar 0) (dOp (dI CPow fun i j => .int (i ^ j.toNat)) (dC (.int 10)) (dC (.int 18)))) dNil))) (dCons (dOp (dI (fun _ j => 0 < j) fun i j => .int (i % j)) (dVar 0) (dC (.int 2147483629))) (dCons (dC (.int 0)) dNil)))))
/-- _law_cell: 0 script, 1 k -/
def t_law_cell : DTS :=
  (dSeq (dIf (dTestB (dOp (dCmpR (fun i j => decide (i < j)) (fun a b => decide (a < b))) (dVar 1) (dCB (dR1 dLenR) (dCons (dVar 0) dNil)))) (dRet (dOp dIxR (dVar 0) (dVar 1))) dNext)
  (dRet (dOp dAddR (dOp (dI MulOk fun i j => .int (i * j)) (dC (.int 15486277)) (dVar 1)) (dC (.int 41)))))
/-- _law_named: 0 thing, 1 more, 2 rows -/
def t_law_named (K : PySem.W.Frag) : DTS :=
  (dSeq (dAsg (dLst (dCons (dNew (He.ga K "NoNumber") 0 1 ["found"] [0] dNil (dCons (dVar 0) dNil)) (dCons (dNew (He.ga K "NoName") 0 1 ["found"] [0] dNil (dCons (dVar 0) dNil)) (dCons (dNew (He.ga K "NoText") 0 1 ["found"] [0] dNil (dCons (dVar 0) dNil)) (dCons (dNew (He.ga K "NoPlace") 0 1 ["found"] [0] dNil (dCons (dVar 0) dNil)) (dCons (dNew (He.ga K "NoWay") 0 1 ["found"] [0] dNil (dCons (dVar 0) dNil)) dNil)))))) (.nm 2))
  (dSeq (dAsg (dOp dAddR (dVar 2) (dLst (dCons (dNew (He.ga K "NoRound") 0 1 ["found"] [0] dNil (dCons (dVar 0) dNil)) (dCons (dNew (He.ga K "NoOutline") 0 1 ["found"] [0] dNil (dCons (dVar 0) dNil)) (dCons (dNew (He.ga K "NoPoint") 0 1 ["found"] [0] dNil (dCons (dVar 0) dNil)) (dCons (dNew (He.ga K "NoProgram") 0 1 ["found"] [0] dNil (dCons (dVar 0) dNil)) dNil)))))) (.nm 2))
  (dSeq (dAsg (dOp dAddR (dVar 2) (dLst (dCons (dNew (He.ga K "NoWord") 0 1 ["found"] [0] dNil (dCons (dVar 0) dNil)) (dCons (dNew (He.ga K "NoFont") 0 1 ["found"] [0] dNil (dCons (dVar 0) dNil)) (dCons (dNew (He.ga K "NoWorths") 0 1 ["found"] [0] dNil (dCons (dVar 0) dNil)) (dCons (dNew (He.ga K "NoLetter") 0 1 ["found"] [0] dNil (dCons (dVar 0) dNil)) dNil)))))) (.nm 2))
  (dSeq (dAsg (dOp dAddR (dVar 2) (dLst (dCons (dNew (He.ga K "NoParts") 0 1 ["found"] [0] dNil (dCons (dVar 0) dNil)) (dCons (dNew (He.ga K "NoSize") 0 1 ["found"] [0] dNil (dCons (dVar 0) dNil)) (dCons (dNew (He.ga K "NoZone") 0 1 ["found"] [0] dNil (dCons (dVar 0) dNil)) (dCons (dNew (He.ga K "NoCells") 0 1 ["found"] [0] dNil (dCons (dVar 0) dNil)) dNil)))))) (.nm 2))
  (dSeq (dAsg (dOp dAddR (dVar 2) (dLst (dCons (dNew (He.ga K "NoChoices") 0 1 ["found"] [0] dNil (dCons (dVar 0) dNil)) (dCons (dNew (He.ga K "NoLine") 0 1 ["found"] [0] dNil (dCons (dVar 0) dNil)) (dCons (dNew (He.ga K "NoLimit") 0 1 ["found"] [0] dNil (dCons (dVar 0) dNil)) (dCons (dNew (He.ga K "Crossed") 0 2 ["one", "other"] [1, 0] dNil (dCons (dVar 1) (dCons (dVar 0) dNil))) dNil)))))) (.nm 2))
  (dSeq (dAsg (dOp dAddR (dVar 2) (dLst (dCons (dNew (He.ga K "TooMany") 0 1 ["many"] [0] dNil (dCons (dVar 0) dNil)) (dCons (dNew (He.ga K "Deep") 0 1 ["at"] [0] dNil (dCons (dVar 0) dNil)) (dCons (dNew (He.ga K "NoRow") 0 1 ["at"] [0] dNil (dCons (dVar 0) dNil)) (dCons (dNew (He.ga K "Fault") 0 2 ["done", "why"] [1, 0] dNil (dCons (dVar 1) (dCons (dVar 0) dNil))) dNil)))))) (.nm 2))
  (dSeq (dAsg (dOp dAddR (dVar 2) (dLst (dCons (dNew (He.ga K "NoEntry") 0 1 ["found"] [0] dNil (dCons (dVar 0) dNil)) (dCons (dNew (He.ga K "Unready") 0 0 [] [] dNil dNil) (dCons (dNew (He.ga K "NoDefinition") 0 1 ["found"] [0] dNil (dCons (dVar 0) dNil)) (dCons (dNew (He.ga K "NoSuch") 0 1 ["found"] [0] dNil (dCons (dVar 0) dNil)) dNil)))))) (.nm 2))
  (dRet (dOp dAddR (dVar 2) (dLst (dCons (dNew (He.ga K "NoBase") 0 1 ["found"] [0] dNil (dCons (dVar 0) dNil)) dNil)))))))))))
/-- _law_made: 0 thing, 1 more, 2 rows -/
def t_law_made (K : PySem.W.Frag) : DTS :=
  (dSeq (dAsg (dLst (dCons (dNew (He.ga K "NoNumber") 1 0 ["found"] [0] (dCons (dVar 0) dNil) dNil) (dCons (dNew (He.ga K "NoName") 1 0 ["found"] [0] (dCons (dVar 0) dNil) dNil) (dCons (dNew (He.ga K "NoText") 1 0 ["found"] [0] (dCons (dVar 0) dNil) dNil) (dCons (dNew (He.ga K "NoPlace") 1 0 ["found"] [0] (dCons (dVar 0) dNil) dNil) (dCons (dNew (He.ga K "NoWay") 1 0 ["found"] [0] (dCons (dVar 0) dNil) dNil) dNil)))))) (.nm 2))
  (dSeq (dAsg (dOp dAddR (dVar 2) (dLst (dCons (dNew (He.ga K "NoRound") 1 0 ["found"] [0] (dCons (dVar 0) dNil) dNil) (dCons (dNew (He.ga K "NoOutline") 1 0 ["found"] [0] (dCons (dVar 0) dNil) dNil) (dCons (dNew (He.ga K "NoPoint") 1 0 ["found"] [0] (dCons (dVar 0) dNil) dNil) (dCons (dNew (He.ga K "NoProgram") 1 0 ["found"] [0] (dCons (dVar 0) dNil) dNil) (dCons (dNew (He.ga K "NoWord") 1 0 ["found"] [0] (dCons (dVar 0) dNil) dNil) dNil))))))) (.nm 2))
  (dSeq (dAsg (dOp dAddR (dVar 2) (dLst (dCons (dNew (He.ga K "NoFont") 1 0 ["found"] [0] (dCons (dVar 0) dNil) dNil) (dCons (dNew (He.ga K "NoWorths") 1 0 ["found"] [0] (dCons (dVar 0) dNil) dNil) (dCons (dNew (He.ga K "NoLetter") 1 0 ["found"] [0] (dCons (dVar 0) dNil) dNil) (dCons (dNew (He.ga K "NoParts") 1 0 ["found"] [0] (dCons (dVar 0) dNil) dNil) (dCons (dNew (He.ga K "NoSize") 1 0 ["found"] [0] (dCons (dVar 0) dNil) dNil) dNil))))))) (.nm 2))
  (dSeq (dAsg (dOp dAddR (dVar 2) (dLst (dCons (dNew (He.ga K "NoZone") 1 0 ["found"] [0] (dCons (dVar 0) dNil) dNil) (dCons (dNew (He.ga K "NoCells") 1 0 ["found"] [0] (dCons (dVar 0) dNil) dNil) (dCons (dNew (He.ga K "NoChoices") 1 0 ["found"] [0] (dCons (dVar 0) dNil) dNil) (dCons (dNew (He.ga K "NoLine") 1 0 ["found"] [0] (dCons (dVar 0) dNil) dNil) (dCons (dNew (He.ga K "NoLimit") 1 0 ["found"] [0] (dCons (dVar 0) dNil) dNil) dNil))))))) (.nm 2))
  (dSeq (dAsg (dOp dAddR (dVar 2) (dLst (dCons (dNew (He.ga K "Crossed") 2 0 ["one", "other"] [0, 1] (dCons (dVar 0) (dCons (dVar 1) dNil)) dNil) (dCons (dNew (He.ga K "TooMany") 1 0 ["many"] [0] (dCons (dVar 0) dNil) dNil) (dCons (dNew (He.ga K "Deep") 1 0 ["at"] [0] (dCons (dVar 0) dNil) dNil) (dCons (dNew (He.ga K "NoRow") 1 0 ["at"] [0] (dCons (dVar 0) dNil) dNil) (dCons (dNew (He.ga K "Fault") 2 0 ["done", "why"] [0, 1] (dCons (dVar 0) (dCons (dVar 1) dNil)) dNil) dNil))))))) (.nm 2))
  (dSeq (dAsg (dOp dAddR (dVar 2) (dLst (dCons (dNew (He.ga K "NoEntry") 1 0 ["found"] [0] (dCons (dVar 0) dNil) dNil) (dCons (dNew (He.ga K "Unready") 0 0 [] [] dNil dNil) (dCons (dNew (He.ga K "NoDefinition") 1 0 ["found"] [0] (dCons (dVar 0) dNil) dNil) (dCons (dNew (He.ga K "NoSuch") 1 0 ["found"] [0] (dCons (dVar 0) dNil) dNil) (dCons (dNew (He.ga K "NoBase") 1 0 ["found"] [0] (dCons (dVar 0) dNil) dNil) dNil))))))) (.nm 2))
  (dRet (dVar 2))))))))
/-- _law_fields: 0 some, 1 rows, 2 few, 3 e -/
def t_law_fields (K : PySem.W.Frag) : DTS :=
  (dSeq (dAsg (dLc false (dSeqI (dSl (dSlR false) (dVar 0) dNoPart (dPart (dC (.int 20))))) (.nm 3) dYes (dFld K "found" (dVar 3)) [3]) (.nm 1))
  (dSeq (dAsg (dSl (dSlR false) (dVar 0) (dPart (dC (.int 20))) (dPart (dC (.int 25)))) (.nm 2))
  (dSeq (dAsg (dOp dAddR (dVar 1) (dLst (dCons (dFld K "one" (dOp dIxR (dVar 2) (dC (.int 0)))) (dCons (dFld K "many" (dOp dIxR (dVar 2) (dC (.int 1)))) (dCons (dFld K "at" (dOp dIxR (dVar 2) (dC (.int 2)))) (dCons (dFld K "at" (dOp dIxR (dVar 2) (dC (.int 3)))) (dCons (dFld K "done" (dOp dIxR (dVar 2) (dC (.int 4)))) dNil))))))) (.nm 1))
  (dSeq (dAsg (dSl (dSlR false) (dVar 0) (dPart (dC (.int 25))) dNoPart) (.nm 2))
  (dRet (dOp dAddR (dVar 1) (dLst (dCons (dFld K "found" (dOp dIxR (dVar 2) (dC (.int 0)))) (dCons (dFld K "found" (dOp dIxR (dVar 2) (dC (.int 2)))) (dCons (dFld K "found" (dOp dIxR (dVar 2) (dC (.int 3)))) (dCons (dFld K "found" (dOp dIxR (dVar 2) (dC (.int 4)))) dNil)))))))))))
/-- _law_grown: 0 thing -/
def t_law_grown : DTS :=
  (dSeq (dIf (dTest (dCB (dR2 dIsiR) (dCons (dVar 0) (dCons (dC (.ty .lst)) dNil)))) (dDrop (dMtL dAppend (dVar 0) (dCons (dC (.str "more")) dNil))) dNext)
  (dSeq (dIf (dAnd (dTest (dCB (dR2 dIsiR) (dCons (dVar 0) (dCons (dC (.ty .tup)) dNil)))) (dTestB (dOp dEqQ (dCB (dR1 dLenR) (dCons (dVar 0) dNil)) (dC (.int 2))))) (dDrop (dMtL dAppend (dOp dIxR (dVar 0) (dC (.int 1))) (dCons (dC (.str "more")) dNil))) dNext)
  (dIf (dTest (dCB (dR2 dIsiR) (dCons (dVar 0) (dCons (dC (.ty .dct)) dNil)))) (dSeq (dPutS (dC (.int 7)) (dVar 0) (dC (.str "more")))
  (dDrop (dMtL dAppend (dOp dGetR (dVar 0) (dC (.str "a"))) (dCons (dC (.str "more")) dNil)))) dNext)))
/-- _law_kinds: 0 e, 1 rows -/
def t_law_kinds (K : PySem.W.Frag) : DTS :=
  (dSeq (dAsg (dLst (dCons (dIsX K (.ref (He.ga K "NoNumber")) (dVar 0)) (dCons (dIsX K (.ref (He.ga K "NoName")) (dVar 0)) (dCons (dIsX K (.ref (He.ga K "NoText")) (dVar 0)) dNil)))) (.nm 1))
  (dSeq (dAsg (dOp dAddR (dVar 1) (dLst (dCons (dIsX K (.ref (He.ga K "NoPlace")) (dVar 0)) (dCons (dIsX K (.ref (He.ga K "NoWay")) (dVar 0)) (dCons (dIsX K (.ref (He.ga K "NoRound")) (dVar 0)) dNil))))) (.nm 1))
  (dSeq (dAsg (dOp dAddR (dVar 1) (dLst (dCons (dIsX K (.ref (He.ga K "NoOutline")) (dVar 0)) (dCons (dIsX K (.ref (He.ga K "NoPoint")) (dVar 0)) (dCons (dIsX K (.ref (He.ga K "NoProgram")) (dVar 0)) dNil))))) (.nm 1))
  (dSeq (dAsg (dOp dAddR (dVar 1) (dLst (dCons (dIsX K (.ref (He.ga K "NoWord")) (dVar 0)) (dCons (dIsX K (.ref (He.ga K "NoFont")) (dVar 0)) (dCons (dIsX K (.ref (He.ga K "NoWorths")) (dVar 0)) dNil))))) (.nm 1))
  (dSeq (dAsg (dOp dAddR (dVar 1) (dLst (dCons (dIsX K (.ref (He.ga K "NoLetter")) (dVar 0)) (dCons (dIsX K (.ref (He.ga K "NoParts")) (dVar 0)) (dCons (dIsX K (.ref (He.ga K "NoSize")) (dVar 0)) dNil))))) (.nm 1))
  (dSeq (dAsg (dOp dAddR (dVar 1) (dLst (dCons (dIsX K (.ref (He.ga K "NoZone")) (dVar 0)) (dCons (dIsX K (.ref (He.ga K "NoCells")) (dVar 0)) (dCons (dIsX K (.ref (He.ga K "NoChoices")) (dVar 0)) dNil))))) (.nm 1))
  (dSeq (dAsg (dOp dAddR (dVar 1) (dLst (dCons (dIsX K (.ref (He.ga K "NoLine")) (dVar 0)) (dCons (dIsX K (.ref (He.ga K "NoLimit")) (dVar 0)) (dCons (dIsX K (.ref (He.ga K "Crossed")) (dVar 0)) dNil))))) (.nm 1))
  (dSeq (dAsg (dOp dAddR (dVar 1) (dLst (dCons (dIsX K (.ref (He.ga K "TooMany")) (dVar 0)) (dCons (dIsX K (.ref (He.ga K "Deep")) (dVar 0)) (dCons (dIsX K (.ref (He.ga K "NoRow")) (dVar 0)) dNil))))) (.nm 1))
  (dSeq (dAsg (dOp dAddR (dVar 1) (dLst (dCons (dIsX K (.ref (He.ga K "Fault")) (dVar 0)) (dCons (dIsX K (.ref (He.ga K "NoEntry")) (dVar 0)) (dCons (dIsX K (.ref (He.ga K "Unready")) (dVar 0)) dNil))))) (.nm 1))
  (dSeq (dAsg (dOp dAddR (dVar 1) (dLst (dCons (dIsX K (.ref (He.ga K "NoDefinition")) (dVar 0)) (dCons (dIsX K (.ref (He.ga K "NoSuch")) (dVar 0)) (dCons (dIsX K (.ref (He.ga K "NoBase")) (dVar 0)) dNil))))) (.nm 1))
  (dRet (dVar 1))))))))))))
/-- _law_right: 0 thing, 1 more, 2 stood, 3 both, 4 rows, 5 e, 6 each -/
def t_law_right (K : PySem.W.Frag) (sp_law_named : DSp) (sp_law_made : DSp) (sp_law_fields : DSp) (sp_law_grown : DSp) (sp_law_kinds : DSp) : DTS :=
  (dSeq (dAsg (dIfE (dTest (dCB (dR2 dIsiR) (dCons (dVar 0) (dCons (dC (.ty .lst)) dNil)))) (dCB (dR1 (dListR false)) (dCons (dVar 0) dNil)) (dVar 0)) (.nm 2))
  (dSeq (dAsg (dLst (dCons (dCall sp_law_made [] (dCons (dVar 0) (dCons (dVar 1) dNil))) (dCons (dCall sp_law_named [] (dCons (dVar 0) (dCons (dVar 1) dNil))) dNil))) (.nm 3))
  (dSeq (dAsg (dCall sp_law_fields [] (dCons (dOp dIxR (dVar 3) (dC (.int 1))) dNil)) (.nm 4))
  (dSeq (dIf (dTestB (dOp (dNeS K) (dVar 0) (dVar 2))) (dRet (dC (.bl false))) dNext)
  (dSeq (dDrop (dCall sp_law_grown [] (dCons (dVar 0) dNil)))
  (dSeq (dDrop (dCall sp_law_grown [] (dCons (dVar 1) dNil)))
  (dSeq (dIf (dOr (dTestB (dOp dNeB (dLc false (dSeqI (dVar 4)) (.nm 6) (dTestB (dOp (dNeS K) (dVar 6) (dVar 0))) (dVar 6) [6]) (dLst dNil))) (dOr (dTestB (dOp (dNeS K) (dFld K "other" (dOp dIxR (dOp dIxR (dVar 3) (dC (.int 1))) (dC (.int 20)))) (dVar 1))) (dTestB (dOp (dNeS K) (dFld K "why" (dOp dIxR (dOp dIxR (dVar 3) (dC (.int 1))) (dC (.int 24)))) (dVar 1))))) (dRet (dC (.bl false))) dNext)
  (dRet (dOp dEqB (dLc false (dSeqI (dOp dIxR (dVar 3) (dC (.int 0)))) (.nm 5) dYes (dCall sp_law_kinds [] (dCons (dVar 5) dNil)) [5]) (dLc false (dSeqI (dOp dIxR (dVar 3) (dC (.int 1)))) (.nm 5) dYes (dCall sp_law_kinds [] (dCons (dVar 5) dNil)) [5]))))))))))
/-- _law_take: 0 box, 1 wide, 2 digit, 3 number -/
def t_law_take : DTS :=
  (dSeq (dIf (dTestB (dOp (dCmpR (fun i j => decide (j < i)) (fun a b => decide (b < a))) (dOp dIxR (dVar 0) (dC (.int 0))) (dC (.int 0)))) (dSeq (dAsg (dOp (dI (fun _ j => 0 < j) fun i j => .int (i % j)) (dOp dIxR (dVar 0) (dC (.int 0))) (dVar 1)) (.nm 2))
  (dSeq (dSub (dOp (dI CDivW fun i j => .int (i / j)) (dOp dIxR (dVar 0) (dC (.int 0))) (dVar 1)) (dVar 0) (dC (.int 0)))
  (dRet (dVar 2)))) dNext)
  (dSeq (dSub (dOp dAddR (dOp dIxR (dVar 0) (dC (.int 2))) (dC (.int 1))) (dVar 0) (dC (.int 2)))
  (dSeq (dAsg (dOp (dI (fun _ j => 0 < j) fun i j => .int (i % j)) (dOp (dI CPow fun i j => .int (i ^ j.toNat)) (dOp dAddR (dOp dAddR (dOp dIxR (dVar 0) (dC (.int 1))) (dOp (dI MulOk fun i j => .int (i * j)) (dC (.int 5779)) (dOp dIxR (dVar 0) (dC (.int 2))))) (dC (.int 23))) (dC (.int 5))) (dC (.int 2147483647))) (.nm 3))
  (dSeq (dAsg (dOp (dI (fun _ j => 0 < j) fun i j => .int (i % j)) (dOp (dI CPow fun i j => .int (i ^ j.toNat)) (dOp dAddR (dVar 3) (dOp (dI MulOk fun i j => .int (i * j)) (dC (.int 92800)) (dOp dIxR (dVar 0) (dC (.int 2))))) (dC (.int 3))) (dC (.int 2147483587))) (.nm 3))
  (dRet (dOp (dI (fun _ j => 0 < j) fun i j => .int (i % j)) (dOp (dI CDivW fun i j => .int (i / j)) (dVar 3) (dC (.int 16))) (dVar 1)))))))
/-- _law_text: 0 box, 1 k -/
def t_law_text (sp_law_take : DSp) : DTS :=
  (dRet (dJoin (dC (.str "")) (dLc false (dRng1 (dCall sp_law_take [] (dCons (dVar 0) (dCons (dC (.int 20)) dNil)))) (.nm 1) dYes (dOp dIxR (dC (.str "abc XYZ.'~0")) (dCall sp_law_take [] (dCons (dVar 0) (dCons (dC (.int 11)) dNil)))) [1])))
/-- _law_thing: 0 box, 1 number, 2 text, 3 things -/
def t_law_thing (K : PySem.W.Frag) (sp_law_take : DSp) (sp_law_text : DSp) : DTS :=
  (dSeq (dAsg (dCall sp_law_take [] (dCons (dVar 0) (dCons (dOp (dI CPow fun i j => .int (i ^ j.toNat)) (dC (.int 10)) (dC (.int 59))) dNil))) (.nm 1))
  (dSeq (dAsg (dCall sp_law_text [] (dCons (dVar 0) dNil)) (.nm 2))
  (dSeq (dAsg (dLst (dCons (dVar 1) (dCons (dOp (dI0 fun i j => .int (i - j)) (dC (.int 0)) (dVar 1)) (dCons (dVar 2) (dCons (dC .non) (dCons (dC (.bl true)) (dCons (dLstM (dCons (dVar 1) (dCons (dVar 2) dNil))) (dCons (dTup (dCons (dVar 2) (dCons (dLstM (dCons (dVar 1) dNil)) dNil))) (dCons (dDisp [("a", (dLstM (dCons (dVar 2) dNil)))]) (dCons (dLstM dNil) (dCons (dNew (He.ga K "NoName") 1 0 ["found"] [0] (dCons (dVar 2) dNil) dNil) dNil))))))))))) (.nm 3))
  (dRet (dOp dIxR (dVar 3) (dCall sp_law_take [] (dCons (dVar 0) (dCons (dC (.int 10)) dNil))))))))
/-- law: 0 script, 1 k, 2 box -/
def t_law (K : PySem.W.Frag) (sp_law_box : DSp) (sp_law_cell : DSp) (sp_law_right : DSp) (sp_law_thing : DSp) : DTS :=
  (dSeq (dFor (dRng1 (dCB (dR2 dMax2R) (dCons (dC (.int 2)) (dCons (dCB (dR2 dMin2R) (dCons (dC (.int 6)) (dCons (dCB (dR1 dLenR) (dCons (dVar 0) dNil)) dNil))) dNil)))) (.nm 1) (dSeq (dAsg (dCall sp_law_box [] (dCons (dCall sp_law_cell [] (dCons (dVar 0) (dCons (dVar 1) dNil))) dNil)) (.nm 2))
  (dIf (dNot (dTest (dCall sp_law_right [] (dCons (dCall sp_law_thing [] (dCons (dVar 2) dNil)) (dCons (dCall sp_law_thing [] (dCons (dVar 2) dNil)) dNil))))) (dRet (dC (.bl false))) dNext)))
  (dGhost K (dRet (dC (.bl true)))))
end K04
set_option linter.all false
set_option maxRecDepth 100000
set_option maxHeartbeats 1000000
namespace K04
open PySem PySem.Spec L2 DL
abbrev sp_law_take : DSp := spTake
abbrev sp_law_box : DSp := spBox
abbrev sp_law_cell : DSp := spCell
theorem rd_law_take : ∀ x m G Q (E : DXK), (∃ (p : Addr) (s : Bx) (k : Nat) (n : Int), x = .ref p ∧ G p = some s.go ∧ s.Ok k ∧ k < 2 ^ 30 ∧ m = .int n ∧ 0 < n ∧ n.natAbs < 2 ^ 1000 ∧
  ∀ (v : Int) (s' : Bx), 0 ≤ v → v < n → s'.Ok (k + 1) → Q (.int v) (gupd G p s'.go)) → DRun (t_law_take ) [some x, some m, none, none] G Q := by
  rintro x m G Q E ⟨p, ⟨a, b, c⟩, k, n, rfl, hp, ⟨a0, b0, b1, c0, c1⟩, hk, rfl, hn, hn2, h⟩
  change G p = some (.lst [.int a, .int b, .int c]) at hp
  change 0 ≤ a at a0
  change 0 ≤ b at b0
  change b < _ at b1
  change 0 ≤ c at c0
  change c ≤ _ at c1
  have hl : lsOf G (.ref p) = some [.int a, .int b, .int c] := lsOf_ref hp
  conv => whnf
  rw [hl]
  conv => whnf
  refine ⟨fun e => ?_, fun e => ?_⟩
  · have ha : 0 < a := of_decide_eq_true e
    conv => whnf
    rw [hl]
    conv => whnf
    refine ⟨hn, ?_⟩
    conv => whnf
    rw [hl]
    conv => whnf
    refine ⟨divw_small hn hn2, ?_⟩
    conv => whnf
    rw [hp]
    conv => whnf
    exact h _ ⟨a / n, b, c⟩ (Int.emod_nonneg _ (by omega)) (Int.emod_lt_of_pos _ hn) ⟨Int.ediv_nonneg a0 (by omega), b0, b1, c0, by show c ≤ _; omega⟩
  · have ha : a ≤ 0 := by have := of_decide_eq_false e; omega
    conv => whnf
    rw [hl]
    conv => whnf
    rw [hp]
    conv => whnf
    rw [lsOf_ref gupd_same]
    conv => whnf
    rw [lsOf_ref gupd_same]
    conv => whnf
    refine ⟨mul_small (.inl (by omega)), ?_⟩
    conv => whnf
    refine ⟨pow_small (by omega), ?_⟩
    conv => whnf
    refine ⟨by omega, ?_⟩
    generalize hN : ((b + 5779 * (c + 1) + 23) ^ (5 : Int).toNat) % 2147483647 = N
    have n0 : 0 ≤ N := by rw [← hN]; exact Int.emod_nonneg _ (by omega)
    have n1 : N < 2147483647 := by rw [← hN]; exact Int.emod_lt_of_pos _ (by omega)
    conv => whnf
    rw [lsOf_ref gupd_same]
    conv => whnf
    refine ⟨mul_small (.inl (by omega)), ?_⟩
    conv => whnf
    refine ⟨pow_small (by omega), ?_⟩
    conv => whnf
    refine ⟨by omega, ?_⟩
    conv => whnf
    refine ⟨⟨by decide, by decide⟩, ?_⟩
    conv => whnf
    refine ⟨hn, ?_⟩
    conv => whnf
    exact h _ ⟨a, b, c + 1⟩ (Int.emod_nonneg _ (by omega)) (Int.emod_lt_of_pos _ hn) ⟨a0, b0, b1, by show 0 ≤ c + 1; omega, by show c + 1 ≤ _; omega⟩
theorem rd_law_box : ∀ x G Q (E : DXK), (∃ z : Int, x = .int z ∧ ∀ (p : Addr) (s : Bx), G p = none → s.Ok 0 → Q (.ref p) (gupd G p s.go)) → DRun (t_law_box ) [some x] G Q := by
  rintro x G Q E ⟨z, rfl, h⟩
  conv => whnf
  refine ⟨pow_small (by decide), ?_⟩
  conv => whnf
  refine ⟨by omega, ?_⟩
  conv => whnf
  refine ⟨by show 3 ≤ sizeLine; decide, fun p hp => ?_⟩
  exact h p ⟨max 0 (z - 10 ^ 18), z % 2147483629, 0⟩ hp ⟨by show 0 ≤ max 0 _; omega, Int.emod_nonneg _ (by omega), by have := Int.emod_lt_of_pos z (show (0 : Int) < 2147483629 by omega); show z % _ < _; omega, by show (0 : Int) ≤ 0; decide, by show (0 : Int) ≤ 0; decide⟩
theorem rd_law_cell : ∀ x m G Q (E : DXK), (∃ (ns : List Int) (k : Int), x = .scr (ns.map .int) ∧ m = .int k ∧ 0 ≤ k ∧ k < 2 ^ 40 ∧ ∀ z : Int, Q (.int z) G) → DRun (t_law_cell ) [some x, some m] G Q := by
  rintro x m G Q E ⟨ns, k, rfl, rfl, h0, h1, h⟩
  conv => whnf
  refine ⟨fun e => ?_, fun e => ?_⟩
  · have e : k < (ns.map D.int).length := of_decide_eq_true e
    conv => whnf
    refine atD_of h0 e fun d hd => ?_
    obtain ⟨z, _, rfl⟩ := List.mem_map.mp hd
    exact h z
  · conv => whnf
    refine ⟨mul_small (.inl (by omega)), ?_⟩
    conv => whnf
    exact h _
theorem ix_str {z : Str} {i : Int} {n : Nat} (hz : z.length = n) (h0 : 0 ≤ i) (h1 : i < n) : ∃ c, atI z.cps.toList i = some c ∧ c ∈ z.cps.toList := by
  have hl : z.cps.toList.length = n := by rw [← hz]; exact Array.length_toList
  rw [atI_of_lt h0 (by rw [hl]; exact h1), List.getElem?_eq_getElem (by omega)]
  exact ⟨_, rfl, List.getElem_mem _⟩
/-- signs that there are -/
def okS (z : Str) : Prop := ∀ c ∈ z.cps.toList, c < 1114112
theorem ok1 {z : Str} {c : Nat} (h : okS z) (hc : c ∈ z.cps.toList) : okS ⟨#[c]⟩ := fun d hd => by
  have hd : d ∈ [c] := hd
  rw [List.mem_singleton] at hd
  subst hd
  exact h d hc
theorem ok_app {a b : Str} (h : okS a) (k : okS b) : okS (a ++ b) := fun c hc => by
  rw [PySem.Str.cps_append, Array.toList_append, List.mem_append] at hc
  exact hc.elim (h c) (k c)
theorem ok_cut {z : Str} (h : okS z) (lo hi : Option Int) : okS (cutS z lo hi) := fun c hc => by
  have hc : c ∈ (z.cps.toList.drop (HT.sIx z.length 0 lo)).take (HT.sIx z.length z.length hi - HT.sIx z.length 0 lo) := by
    simpa [cutS] using hc
  exact h c (List.mem_of_mem_drop (List.mem_of_mem_take hc))
theorem ok_join0 {e : Str} (he : okS e) : ∀ {ws : List Str}, (∀ w ∈ ws, okS w) → okS (PySem.Str.join e ws)
  | [], _ => fun c hc => by
    have hc : c ∈ ([] : List Nat) := hc
    cases hc
  | [w], h => h w List.mem_cons_self
  | w :: x :: r, h => by
    show okS (w ++ e ++ PySem.Str.join e (x :: r))
    exact ok_app (ok_app (h w List.mem_cons_self) he) (ok_join0 he fun y hy => h y (List.mem_cons_of_mem _ hy))
theorem ok_join {ws : List Str} (h : ∀ w ∈ ws, okS w) : okS (Txt.join ("" : Str) ws) := by
  show okS (Builtin.Str.glued ("" : Str) ws)
  rw [StrLaws.glued_eq_join]
  exact ok_join0 (by unfold okS; decide +kernel) h
theorem tkB {sp : DSp} (hsp : ∀ ds G Q E, spTake ds G Q E → sp ds G Q E) {G0 G : GHp} {p : Addr} {k : Nat} {n : Int} {Q : DK} {E : DXK} (B : Bk G0 p k G) (hk : k < 1000000) (hn : 0 < n) (hb : n.natAbs < 2 ^ 1000) (h : ∀ v G', 0 ≤ v → v < n → Bk G0 p (k + 1) G' → Q (.int v) G') : sp [.ref p, .int n] G Q E := by
  apply hsp
  obtain ⟨⟨s, h1, h2⟩, h3⟩ := B
  refine ⟨p, s, k, n, rfl, h1, h2, by omega, rfl, hn, hb, fun v s' a b c => h v _ a b ⟨⟨s', gupd_same, c⟩, fun b hb => ?_⟩⟩
  rw [gupd_ne hb]; exact h3 b hb
/-! a text -/
def chs : Str := "abc XYZ.'~0"
theorem chs_len : chs.length = 11 := by decide +kernel
theorem chs_ok : okS chs := by unfold okS; decide +kernel
theorem sum1 : ∀ {ws : List Str}, (∀ w ∈ ws, w.length = 1) → (ws.map (·.length)).sum = ws.length
  | [], _ => rfl
  | w :: r, h => by
    rw [List.map_cons, List.sum_cons, sum1 fun w hw => h w (List.mem_cons_of_mem _ hw), h w List.mem_cons_self, List.length_cons]
    omega
theorem paired_r {α β : Type} {P : β → Prop} : ∀ {xs : List α} {ds : List β}, Paired (fun _ d => P d) xs ds → ∀ d ∈ ds, P d
  | _, _, .nil => fun d h => nomatch h
  | _, _, .cons h t => fun d hd => by
    rcases List.mem_cons.mp hd with rfl | hd
    · exact h
    · exact paired_r t d hd
def prText (x : D) (G : GHp) (Q : DK) : Prop := ∃ (G0 : GHp) (p : Addr) (k : Nat), x = .ref p ∧ Bk G0 p k G ∧ k < 900000 ∧ ∀ (z : Str) G', z.length ≤ 20 → okS z → Bk G0 p (k + 21) G' → Q (.str z) G'
abbrev sp_law_text : DSp := sp1 fun x G Q _ => prText x G Q
theorem rd_textG {sp : DSp} (hsp : ∀ ds G Q E, spTake ds G Q E → sp ds G Q E) : ∀ x G Q (E : DXK), prText x G Q → DRun (t_law_text sp) [some x, none] G Q := by
  rintro x G Q E ⟨G0, p, k, rfl, B, hk, h⟩
  conv => whnf
  refine tk hsp B (by omega) (by omega) (by omega) fun u G u_0 u_1 B => ?_
  conv => whnf
  obtain ⟨n, rfl⟩ : ∃ n : Nat, u = n := ⟨u.toNat, by omega⟩
  refine ⟨by unfold RgB; omega, ?_⟩
  rw [show ((n : Int)).toNat = n by omega]
  refine lc_bk (m := false) (enc := fun (i : Nat) => D.int (0 + i)) (xs := List.range n) (fun _ d => ∃ w : Str, d = .str w ∧ (w.length = 1 ∧ okS w)) (k + 1) 1 (fun i => [some (.ref p), some (.int (0 + (i : Int)))]) (smallL (by rw [List.length_range]; omega)) (fun _ _ _ => trivial) (fun _ _ => rfl) ?_ ?_ B
  · rintro i hi j G' hj B R hR
    rw [List.length_range] at hj
    conv => whnf
    refine tk hsp B (by omega) (by omega) (by omega) fun v G v_0 v_1 B => ?_
    conv => whnf
    refine ⟨by rw [show ("abc XYZ.'~0" : Str).length = 11 from chs_len]; decide, ?_⟩
    obtain ⟨c, hc, hcm⟩ := ix_str chs_len v_0 v_1
    exact ⟨c, hc, hR _ _ ⟨_, rfl, rfl, ok1 chs_ok hcm⟩ (B.mono (by omega))⟩
  rintro ds G' hp B
  obtain ⟨ws, rfl, hw⟩ := Paired.enc hp
  have hw1 : ∀ w ∈ ws, w.length = 1 := fun w h => (paired_r hw w h).1
  have hw2 : okS (Txt.join ("" : Str) ws) := ok_join fun w h => (paired_r hw w h).2
  have hn : ws.length = n := by rw [← hw.length, List.length_range]
  rw [List.length_range] at B
  conv => whnf
  have e : (lsOf G' (D.lst (ws.map D.str))).bind strsOf = some ws := strsOf_map ws
  rw [e]
  conv => whnf
  refine ⟨by rw [sum1 hw1]; show ws.length + ws.length * 0 ≤ _; omega, ?_⟩
  have hj : (Txt.join ("" : Str) ws).length = ws.length := PySem.W.KT.join_ones ws hw1
  exact h _ _ (by omega) hw2 (B.mono (by omega))
theorem rd_law_text : ∀ x G Q (E : DXK), prText x G Q → DRun (t_law_text sp_law_take) [some x, none] G Q := rd_textG fun _ _ _ _ h => h
theorem tx {sp : DSp} (hf : ∀ ds G Q E, sp_law_text ds G Q E → sp ds G Q E) {G0 G : GHp} {p : Addr} {k : Nat} {Q : DK} {E : DXK} (B : Bk G0 p k G) (hk : k < 900000) (h : ∀ (z : Str) G', z.length ≤ 20 → okS z → Bk G0 p (k + 21) G' → Q (.str z) G') : sp [.ref p] G Q E :=
  hf _ _ _ _ ⟨G0, p, k, rfl, B, hk, h⟩
end K04
set_option linter.all false
set_option maxRecDepth 100000
set_option maxHeartbeats 1000000
namespace K04
open PySem PySem.Spec L2 DL
/-! what may become of things -/
def flI : D → Prop
  | .int _ => True
  | .str z => okS z
  | _ => False
structure flL (n : Nat) (ds : List D) : Prop where
  i : ∀ d ∈ ds, flI d
  l : ds.length ≤ n
theorem flL.mono {m n : Nat} {ds : List D} (h : flL m ds) (k : m ≤ n) : flL n ds := ⟨h.i, Nat.le_trans h.l k⟩
structure Evo (c : Nat) (G G' : GHp) : Prop where
  x : ∀ p C fs, G p = some (.exo C fs) → G' p = some (.exo C fs)
  n : ∀ p C, G p = some (.exn C) → G' p = some (.exn C)
  l : ∀ p ds n, G p = some (.lst ds) → flL n ds → ∃ ds', flL (n + c) ds' ∧ G' p = some (.lst ds')
  d : ∀ p q, G p = some (.dK [(.inr "a", .ref q)]) ∨ G p = some (.dK [(.inr "a", .ref q), (.inr "more", .int 7)]) → G' p = some (.dK [(.inr "a", .ref q)]) ∨ G' p = some (.dK [(.inr "a", .ref q), (.inr "more", .int 7)])
theorem Evo.refl {c : Nat} {G : GHp} : Evo c G G := ⟨fun _ _ _ h => h, fun _ _ h => h, fun _ ds n h f => ⟨ds, f.mono (Nat.le_add_right _ _), h⟩, fun _ _ h => h⟩
theorem Evo.trans {c e : Nat} {G G1 G2 : GHp} (a : Evo c G G1) (b : Evo e G1 G2) : Evo (c + e) G G2 := ⟨fun p C fs h => b.x _ _ _ (a.x _ _ _ h), fun p C h => b.n _ _ (a.n _ _ h), fun p ds n h f => by
  obtain ⟨ds', f', h'⟩ := a.l p ds n h f
  have := b.l p ds' (n + c) h' f'
  rwa [Nat.add_assoc] at this, fun p q h => b.d p q (a.d p q h)⟩
theorem Evo.trans0 {e : Nat} {G G1 G2 : GHp} (a : Evo 0 G G1) (b : Evo e G1 G2) : Evo e G G2 := by
  have := a.trans b
  rwa [Nat.zero_add] at this
theorem Evo.mono {c e : Nat} {G G1 : GHp} (a : Evo c G G1) (k : c ≤ e) : Evo e G G1 := ⟨a.x, a.n, fun p ds n h f => by
  obtain ⟨ds', f', h'⟩ := a.l p ds n h f
  exact ⟨ds', f'.mono (by omega), h'⟩, a.d⟩
theorem Evo.ext {c : Nat} {G G' : GHp} (h : ∀ p o, G p = some o → G' p = some o) : Evo c G G' := ⟨fun p C fs e => h _ _ e, fun p C e => h _ _ e, fun p ds n e f => ⟨ds, f.mono (Nat.le_add_right _ _), h _ _ e⟩, fun p q e => e.imp (h _ _) (h _ _)⟩
theorem Evo.new {c : Nat} {G : GHp} {a : Addr} {o : GO} (h : G a = none) : Evo c G (gupd G a o) := .ext fun p u e => by
  rw [gupd_ne (fun q => by rw [q, h] at e; cases e)]; exact e
theorem Evo.list {c : Nat} {G : GHp} {a : Addr} {ds ds' : List D} (h : G a = some (.lst ds)) (f : ∀ n, flL n ds → flL (n + c) ds') : Evo c G (gupd G a (.lst ds')) := by
  have ne : ∀ p o, G p = some o → (∀ ds, o ≠ .lst ds) → gupd G a (.lst ds') p = some o := fun p o e q => by
    rw [gupd_ne (fun z => by rw [z, h] at e; injection e with e; exact q _ e.symm)]; exact e
  refine ⟨fun p C fs e => ne _ _ e fun ds q => (nomatch q), fun p C e => ne _ _ e fun ds q => (nomatch q), fun p us n e fu => ?_, fun p q e => e.imp (fun e => ne _ _ e fun ds q => (nomatch q)) fun e => ne _ _ e fun ds q => (nomatch q)⟩
  by_cases hp : p = a
  · subst hp
    rw [h] at e; injection e with e; injection e with e; subst e
    exact ⟨ds', f n fu, gupd_same⟩
  · exact ⟨us, fu.mono (Nat.le_add_right _ _), by rw [gupd_ne hp]; exact e⟩
theorem Evo.dict {c : Nat} {G : GHp} {a q : Addr} (h : G a = some (.dK [(.inr "a", .ref q)]) ∨ G a = some (.dK [(.inr "a", .ref q), (.inr "more", .int 7)])) : Evo c G (gupd G a (.dK [(.inr "a", .ref q), (.inr "more", .int 7)])) := by
  have ne : ∀ p o, G p = some o → (∀ ds, o ≠ .dK ds) → gupd G a (.dK [(.inr "a", .ref q), (.inr "more", .int 7)]) p = some o := fun p o e hn => by
    rw [gupd_ne (fun z => by
      rw [z] at e
      rcases h with h | h <;> (rw [h] at e; injection e with e; exact hn _ e.symm))]; exact e
  refine ⟨fun p C fs e => ne _ _ e fun ds q => (nomatch q), fun p C e => ne _ _ e fun ds q => (nomatch q), fun p us n e fu => ⟨us, fu.mono (Nat.le_add_right _ _), ne _ _ e fun ds q => (nomatch q)⟩, fun p q2 e => ?_⟩
  by_cases hp : p = a
  · subst hp
    right
    rw [gupd_same]
    rcases h with h | h <;> rcases e with e | e <;> (rw [h] at e; injection e with e; injection e with e; injection e with e1 e2; injection e1 with e3 e4; rw [e4])
  · rw [gupd_ne hp]; exact e
theorem bk_evo {G0 G G' : GHp} {p : Addr} {k k' c : Nat} (B : Bk G0 p k G) (B' : Bk G0 p k' G') : Evo c G G' := by
  obtain ⟨⟨s, h1, _⟩, h2⟩ := B
  obtain ⟨⟨s', h1', _⟩, h2'⟩ := B'
  have e : G' = gupd G p s'.go := by
    funext b
    by_cases hb : b = p
    · rw [hb, gupd_same, h1']
    · rw [gupd_ne hb, h2 b hb, h2' b hb]
  rw [e]
  refine Evo.list h1 fun n hn => ⟨fun d hd => ?_, Nat.le_trans hn.l (Nat.le_add_right _ _)⟩
  simp only [List.mem_cons, List.not_mem_nil, or_false] at hd
  rcases hd with rfl | rfl | rfl <;> exact True.intro
/-- a thing -/
def Gd (n : Nat) (K : PySem.W.Frag) (G : GHp) (d : D) : Prop := d = .non ∨ d = .bl true ∨ (∃ i, d = .int i) ∨ (∃ z, d = .str z ∧ okS z) ∨ (∃ p ds, d = .ref p ∧ G p = some (.lst ds) ∧ flL n ds) ∨
  (∃ z q ds, d = .tup [.str z, .ref q] ∧ okS z ∧ G q = some (.lst ds) ∧ flL n ds) ∨
  (∃ p q ds, d = .ref p ∧ (G p = some (.dK [(.inr "a", .ref q)]) ∨ G p = some (.dK [(.inr "a", .ref q), (.inr "more", .int 7)])) ∧ G q = some (.lst ds) ∧ flL n ds) ∨
  ∃ p fs, d = .ref p ∧ G p = some (.exo (He.ga K "NoName") fs)
theorem Gd.evo {n c : Nat} {K : PySem.W.Frag} {G G' : GHp} {d : D} (h : Gd n K G d) (e : Evo c G G') : Gd (n + c) K G' d := by
  rcases h with h | h | h | h | ⟨p, ds, rfl, hp, f⟩ | ⟨z, q, ds, rfl, hz, hp, f⟩ | ⟨p, q, ds, rfl, hd, hq, f⟩ | ⟨p, fs, rfl, hp⟩
  · exact .inl h
  · exact .inr (.inl h)
  · exact .inr (.inr (.inl h))
  · exact .inr (.inr (.inr (.inl h)))
  · obtain ⟨ds', f', h'⟩ := e.l _ _ _ hp f
    exact .inr (.inr (.inr (.inr (.inl ⟨p, ds', rfl, h', f'⟩))))
  · obtain ⟨ds', f', h'⟩ := e.l _ _ _ hp f
    exact .inr (.inr (.inr (.inr (.inr (.inl ⟨z, q, ds', rfl, hz, h', f'⟩)))))
  · obtain ⟨ds', f', h'⟩ := e.l _ _ _ hq f
    exact .inr (.inr (.inr (.inr (.inr (.inr (.inl ⟨p, q, ds', rfl, e.d _ _ hd, h', f'⟩))))))
  · exact .inr (.inr (.inr (.inr (.inr (.inr (.inr ⟨p, fs, rfl, e.x _ _ _ hp⟩))))))
/-- the data of flat things -/
def pdI : D → PyData
  | .int i => .int i
  | .str z => .str z
  | _ => .none
theorem lay_str {z : Str} (h : okS z) : PyData.canLay0 (.str z) = true := by
  have h : z.cps.toList.all (· < 0x110000) = true := List.all_eq_true.mpr fun c hc => decide_eq_true (h c hc)
  rw [Array.all_toList] at h
  unfold PyData.canLay0 PyData.strOk
  exact h
theorem pd_flat {G : GHp} : ∀ {ds : List D}, (∀ d ∈ ds, flI d) → DDs G ds (ds.map pdI) ∧ Shps 1 (ds.map pdI)
  | [], _ => ⟨.nil, .nil⟩
  | d :: ds, h => by
    obtain ⟨h1, h2⟩ := pd_flat (ds := ds) fun x hx => h x (List.mem_cons_of_mem _ hx)
    have hd := h d (List.mem_cons_self ..)
    cases d with
    | int i => exact ⟨.cons (.int i) h1, .cons (.int i) h2⟩
    | str z => exact ⟨.cons (.str z) h1, .cons ⟨lay_str hd, by show PyData.depth (.str z) ≤ 1; simp [PyData.depth]⟩ h2⟩
    | _ => exact hd.elim
/-- what is equal to itself -/
theorem self_eq {G : GHp} {x y : D} {p : PyData} {n : Nat} (h : DD G x p) (h' : DD G y p) (s : Shp n p) (hn : n ≤ 64) : EqB G x y true := ⟨p, p, h, h', s.ok hn, s.ok hn, SeqAt.eqv_refl p s.1⟩
/-- x != y is False -/
def SfF (K : PySem.W.Frag) (G : GHp) (x y : D) : Prop := EqB G x y true ∨ ∃ a, x = .ref a ∧ y = .ref a ∧ ((∃ C fs, G a = some (.exo C fs) ∧ NeC K C) ∨ ∃ kvs, G a = some (.dK kvs) ∧ (kvs.map (·.1)).Nodup ∧ ∀ p ∈ kvs, noTy p.2 = true)
theorem Gd.self {n : Nat} {K : PySem.W.Frag} (N : NeC K (He.ga K "NoName")) {G : GHp} {d : D} (h : Gd n K G d) : SfF K G d d := by
  rcases h with rfl | rfl | ⟨i, rfl⟩ | ⟨z, rfl, hz⟩ | ⟨p, ds, rfl, hp, f⟩ | ⟨z, q, ds, rfl, hz, hp, f⟩ | ⟨p, q, ds, rfl, hd, hq, f⟩ | ⟨p, fs, rfl, hp⟩
  · exact .inl (self_eq .non .non (Shp.non (n := 1)) (by decide))
  · exact .inl (self_eq (.bl _) (.bl _) (Shp.bl (n := 1) _) (by decide))
  · exact .inl (self_eq (.int _) (.int _) (Shp.int (n := 1) _) (by decide))
  · exact .inl (self_eq (.str _) (.str _) (n := 1) ⟨lay_str hz, by simp [PyData.depth]⟩ (by decide))
  · obtain ⟨h1, h2⟩ := pd_flat (G := G) f.i
    exact .inl (self_eq (.ref hp h1) (.ref hp h1) h2.list (by decide))
  · obtain ⟨h1, h2⟩ := pd_flat (G := G) f.i
    have s1 : Shp 2 (.str z) := ⟨lay_str hz, by simp [PyData.depth]⟩
    have dd : DD G (.tup [.str z, .ref q]) (.tuple [.str z, .list (ds.map pdI)]) := .tup (.cons (.str z) (.cons (.ref hp h1) .nil))
    exact .inl (self_eq dd dd (Shps.tuple (Shps.cons s1 (Shps.cons h2.list .nil))) (by decide))
  · rcases hd with hd | hd
    · exact .inr ⟨p, rfl, rfl, .inr ⟨_, hd, (show ([.inr "a"] : List Key).Nodup by decide), fun x hx => by simp only [List.mem_cons, List.not_mem_nil, or_false] at hx; rw [hx]; rfl⟩⟩
    · exact .inr ⟨p, rfl, rfl, .inr ⟨_, hd, (show ([.inr "a", .inr "more"] : List Key).Nodup by decide), fun x hx => by simp only [List.mem_cons, List.not_mem_nil, or_false] at hx; rcases hx with rfl | rfl <;> rfl⟩⟩
  · exact .inr ⟨p, rfl, rfl, .inl ⟨_, _, hp, N⟩⟩
/-! growing -/
theorem flL.snoc {n : Nat} {ds : List D} {d : D} (h : flL n ds) (hd : flI d) : flL (n + 1) (ds ++ [d]) := ⟨fun x hx => by
  rcases List.mem_append.mp hx with hx | hx
  · exact h.i x hx
  · rw [List.mem_singleton] at hx; rw [hx]; exact hd, by rw [List.length_append]; exact Nat.add_le_add_right h.l 1⟩
theorem more_ok : okS "more" := by unfold okS; decide +kernel
def prGrown (K : PySem.W.Frag) (x : D) (G : GHp) (Q : DK) : Prop := ∃ n, n ≤ 1000 ∧ Gd n K G x ∧ ∀ G', Evo 1 G G' → Q .non G'
def sp_law_grown (K : PySem.W.Frag) : DSp := sp1 fun x G Q _ => prGrown K x G Q
theorem rd_law_grown {K : PySem.W.Frag} : ∀ x G Q (E : DXK), prGrown K x G Q → DRun t_law_grown [some x] G Q := by
  rintro x G Q E ⟨n, hn, hg, h⟩
  rcases hg with rfl | rfl | ⟨i, rfl⟩ | ⟨z, rfl, hz⟩ | ⟨p, ds, rfl, hp, f⟩ | ⟨z, q, ds, rfl, hz, hp, f⟩ | ⟨p, q, ds, rfl, hd, hq, f⟩ | ⟨p, fs, rfl, hp⟩
  · conv => whnf
    refine ⟨fun e => ft e, fun _ => ?_⟩
    conv => whnf
    refine ⟨fun e => ft e, fun _ => ?_⟩
    conv => whnf
    refine ⟨fun e => ft e, fun _ => ?_⟩
    conv => whnf
    refine ⟨fun e => ft e, fun _ => ?_⟩
    conv => whnf
    exact h _ .refl
  · conv => whnf
    refine ⟨fun e => ft e, fun _ => ?_⟩
    conv => whnf
    refine ⟨fun e => ft e, fun _ => ?_⟩
    conv => whnf
    refine ⟨fun e => ft e, fun _ => ?_⟩
    conv => whnf
    refine ⟨fun e => ft e, fun _ => ?_⟩
    conv => whnf
    exact h _ .refl
  · conv => whnf
    refine ⟨fun e => ft e, fun _ => ?_⟩
    conv => whnf
    refine ⟨fun e => ft e, fun _ => ?_⟩
    conv => whnf
    refine ⟨fun e => ft e, fun _ => ?_⟩
    conv => whnf
    refine ⟨fun e => ft e, fun _ => ?_⟩
    conv => whnf
    exact h _ .refl
  · conv => whnf
    refine ⟨fun e => ft e, fun _ => ?_⟩
    conv => whnf
    refine ⟨fun e => ft e, fun _ => ?_⟩
    conv => whnf
    refine ⟨fun e => ft e, fun _ => ?_⟩
    conv => whnf
    refine ⟨fun e => ft e, fun _ => ?_⟩
    conv => whnf
    exact h _ .refl
  · have ht : tgOf G (.ref p) = some .lst := by unfold tgOf; simp only [hp]
    conv => whnf
    rw [ht]
    conv => whnf
    refine ⟨fun _ => ?_, fun e => tf e⟩
    conv => whnf
    rw [lsOf_ref hp]
    conv => whnf
    rw [hp]
    conv => whnf
    have e2 : gupd G p (.lst (ds ++ [.str "more"])) p = some (.lst (ds ++ [.str "more"])) := gupd_same
    have ev := Evo.list hp fun n (f : flL n ds) => f.snoc (d := .str "more") more_ok
    generalize gupd G p (.lst (ds ++ [.str "more"])) = G2 at e2 ev ⊢
    have ht : tgOf G2 (.ref p) = some .lst := by unfold tgOf; simp only [e2]
    refine ⟨smallLt (by have := f.l; omega), ?_⟩
    conv => whnf
    rw [ht]
    conv => whnf
    refine ⟨fun e => ft e, fun _ => ?_⟩
    conv => whnf
    refine ⟨fun e => ft e, fun _ => ?_⟩
    conv => whnf
    rw [ht]
    conv => whnf
    refine ⟨fun e => ft e, fun _ => ?_⟩
    conv => whnf
    exact h _ ev
  · conv => whnf
    refine ⟨fun e => ft e, fun _ => ?_⟩
    conv => whnf
    refine ⟨fun _ => ?_, fun e => tf e⟩
    conv => whnf
    refine ⟨fun _ => ?_, fun e => tf e⟩
    conv => whnf
    rw [lsOf_ref hp]
    conv => whnf
    rw [hp]
    conv => whnf
    have e2 : gupd G q (.lst (ds ++ [.str "more"])) q = some (.lst (ds ++ [.str "more"])) := gupd_same
    have ev := Evo.list hp fun n (f : flL n ds) => f.snoc (d := .str "more") more_ok
    generalize gupd G q (.lst (ds ++ [.str "more"])) = G2 at e2 ev ⊢
    refine ⟨smallLt (by have := f.l; omega), ?_⟩
    conv => whnf
    refine ⟨fun e => ft e, fun _ => ?_⟩
    conv => whnf
    exact h _ ev
  · have ht : tgOf G (.ref p) = some .dct := by unfold tgOf; rcases hd with hd | hd <;> simp only [hd]
    conv => whnf
    rw [ht]
    conv => whnf
    refine ⟨fun e => ft e, fun _ => ?_⟩
    conv => whnf
    rw [ht]
    conv => whnf
    refine ⟨fun e => ft e, fun _ => ?_⟩
    conv => whnf
    refine ⟨fun e => ft e, fun _ => ?_⟩
    conv => whnf
    rw [ht]
    conv => whnf
    refine ⟨fun _ => ?_, fun e => tf e⟩
    conv => whnf
    obtain ⟨kvs, hk, hk2, hk3⟩ : ∃ kvs, G p = some (.dK kvs) ∧ kvs.length ≤ 2 ∧ putD kvs (.inr "more") (.int 7) = [(.inr "a", .ref q), (.inr "more", .int 7)] := by
      rcases hd with hd | hd
      · exact ⟨_, hd, by simp, by rfl⟩
      · exact ⟨_, hd, by simp, by rfl⟩
    rw [hk]
    conv => whnf
    rw [hk3]
    have ev : Evo 0 _ _ := Evo.dict hd
    have e2 : gupd G p (.dK [(.inr "a", .ref q), (.inr "more", .int 7)]) p = some (.dK [(.inr "a", .ref q), (.inr "more", .int 7)]) := gupd_same
    obtain ⟨ds2, f2, hq2⟩ := ev.l q ds n hq f
    generalize gupd G p (.dK [(.inr "a", .ref q), (.inr "more", .int 7)]) = G2 at e2 ev hq2 ⊢
    refine ⟨smallLt (by omega), ?_⟩
    conv => whnf
    rw [e2]
    conv => whnf
    rw [lsOf_ref hq2]
    conv => whnf
    rw [hq2]
    conv => whnf
    have ev2 := Evo.list hq2 fun n (f : flL n ds2) => f.snoc (d := .str "more") more_ok
    exact ⟨smallLt (by have := f2.l; omega), h _ (ev.trans0 ev2)⟩
  · have ht : tgOf G (.ref p) = some .exc := by unfold tgOf; simp only [hp]
    conv => whnf
    rw [ht]
    conv => whnf
    refine ⟨fun e => ft e, fun _ => ?_⟩
    conv => whnf
    rw [ht]
    conv => whnf
    refine ⟨fun e => ft e, fun _ => ?_⟩
    conv => whnf
    refine ⟨fun e => ft e, fun _ => ?_⟩
    conv => whnf
    rw [ht]
    conv => whnf
    refine ⟨fun e => ft e, fun _ => ?_⟩
    conv => whnf
    exact h _ .refl
end K04
set_option linter.all false
set_option maxRecDepth 100000
set_option maxHeartbeats 1000000
namespace K04
open PySem PySem.Spec L2 DL
def prThing (K : PySem.W.Frag) (x : D) (G : GHp) (Q : DK) : Prop := ∃ (p : Addr) (k : Nat), x = .ref p ∧ Bk G p k G ∧ k < 500000 ∧ ∀ d G', Gd 10 K G' d → Evo 0 G G' → Bk G' p (k + 100) G' → Q d G'
def sp_law_thing (K : PySem.W.Frag) : DSp := sp1 fun x G Q _ => prThing K x G Q
theorem bk_self {G0 G : GHp} {p : Addr} {k : Nat} (B : Bk G0 p k G) : Bk G p k G := ⟨B.1, fun _ _ => rfl⟩
theorem bk_new {G : GHp} {p q : Addr} {k : Nat} {o : GO} (B : Bk G p k G) (hq : G q = none) : Bk (gupd G q o) p k (gupd G q o) := B.new (B.ne hq)
theorem Evo.fill {c : Nat} {G : GHp} {a : Addr} {o : GO} (h : G a = some (.dK [])) : Evo c G (gupd G a o) := by
  have ne : ∀ p u, G p = some u → u ≠ .dK [] → gupd G a o p = some u := fun p u e q => by
    rw [gupd_ne (fun z => by rw [z, h] at e; injection e with e; exact q e.symm)]; exact e
  exact ⟨fun p C fs e => ne _ _ e (fun q => nomatch q), fun p C e => ne _ _ e (fun q => nomatch q), fun p us n e fu => ⟨us, fu.mono (Nat.le_add_right _ _), ne _ _ e (fun q => nomatch q)⟩,
    fun p q e => e.imp (fun e => ne _ _ e (fun q => by injection q with q; cases q)) fun e => ne _ _ e (fun q => by injection q with q; cases q)⟩
theorem rd_thingG {K : PySem.W.Frag} {sp st : DSp} (hsp : ∀ ds G Q E, spTake ds G Q E → sp ds G Q E) (ht : ∀ ds G Q E, sp_law_text ds G Q E → st ds G Q E) : ∀ x G Q (E : DXK), prThing K x G Q → DRun (t_law_thing K sp st) [some x, none, none, none] G Q := by
  rintro x G Q E ⟨p, k, rfl, B, hk, h⟩
  conv => whnf
  refine ⟨pow_small (by decide), ?_⟩
  conv => whnf
  refine tkB hsp B (by omega) (by decide) (by decide) fun i G1 i0 i1 B1 => ?_
  have e1 : Evo 0 _ _ := bk_evo B B1
  have B1 := bk_self B1
  conv => whnf
  refine tx ht B1 (by omega) fun z G2 hz oz B2 => ?_
  have e2 : Evo 0 _ _ := bk_evo B1 B2
  have e12 : Evo 0 G G2 := e1.trans0 e2
  have B2 := bk_self B2
  clear e1 e2
  conv => whnf
  have fz : flI (.str z) := oz
  have fl1 : flL 10 [.int i, .str z] := ⟨fun d hd => by simp only [List.mem_cons, List.not_mem_nil, or_false] at hd; exact hd.elim (fun e => by rw [e]; exact True.intro) (fun e => by rw [e]; exact fz), by simp⟩
  have fl2 : flL 10 [.int i] := ⟨fun d hd => by simp only [List.mem_cons, List.not_mem_nil, or_false] at hd; subst hd; exact True.intro, by simp⟩
  have fl3 : flL 10 [.str z] := ⟨fun d hd => by simp only [List.mem_cons, List.not_mem_nil, or_false] at hd; subst hd; exact fz, by simp⟩
  have fl4 : flL 10 [] := ⟨fun d hd => (by cases hd), by simp⟩
  refine ⟨smallL (by simp), ?_⟩
  conv => whnf
  intro p1 h1
  obtain ⟨G3, hG3⟩ : ∃ G3, G3 = gupd G2 p1 (.lst [.int i, .str z]) := ⟨_, rfl⟩
  rw [← hG3]
  have e3 : Evo 0 G2 G3 := hG3 ▸ Evo.new h1
  have B3 : Bk G3 p (k + 1 + 21) G3 := hG3 ▸ bk_new B2 h1
  have g1 : Gd 10 K G3 (.ref p1) := .inr (.inr (.inr (.inr (.inl ⟨p1, _, rfl, by rw [hG3, gupd_same], fl1⟩))))
  clear hG3
  conv => whnf
  refine ⟨smallL (by simp), ?_⟩
  conv => whnf
  intro p2 h2
  obtain ⟨G4, hG4⟩ : ∃ G4, G4 = gupd G3 p2 (.lst [.int i]) := ⟨_, rfl⟩
  rw [← hG4]
  have e4 : Evo 0 G3 G4 := hG4 ▸ Evo.new h2
  have B4 : Bk G4 p (k + 1 + 21) G4 := hG4 ▸ bk_new B3 h2
  have g2 : Gd 10 K G4 (.tup [.str z, .ref p2]) := .inr (.inr (.inr (.inr (.inr (.inl ⟨z, p2, _, rfl, oz, by rw [hG4, gupd_same], fl2⟩)))))
  clear hG4
  conv => whnf
  refine ⟨smallL (by simp), ?_⟩
  conv => whnf
  intro p3 h3
  obtain ⟨G5, hG5⟩ : ∃ G5, G5 = gupd G4 p3 (.dK []) := ⟨_, rfl⟩
  rw [← hG5]
  have e5 : Evo 0 G4 G5 := hG5 ▸ Evo.new h3
  have B5 : Bk G5 p (k + 1 + 21) G5 := hG5 ▸ bk_new B4 h3
  have n3 : p3 ≠ p := B4.ne h3
  have a3 : G5 p3 = some (.dK []) := by rw [hG5, gupd_same]
  clear hG5
  conv => whnf
  refine ⟨smallL (by simp), ?_⟩
  conv => whnf
  intro p4 h4
  have n43 : p3 ≠ p4 := fun q => by rw [← q, a3] at h4; cases h4
  obtain ⟨G6, hG6⟩ : ∃ G6, G6 = gupd G5 p4 (.lst [.str z]) := ⟨_, rfl⟩
  rw [← hG6]
  have e6 : Evo 0 G5 G6 := hG6 ▸ Evo.new h4
  have B6 : Bk G6 p (k + 1 + 21) G6 := hG6 ▸ bk_new B5 h4
  have a3 : G6 p3 = some (.dK []) := by rw [hG6, gupd_ne n43]; exact a3
  have a4 : G6 p4 = some (.lst [.str z]) := by rw [hG6, gupd_same]
  clear hG6
  conv => whnf
  refine ⟨a3, by simp, ?_⟩
  have em : mergeD [(.inr "a", D.ref p4)] = [(.inr "a", D.ref p4)] := by rfl
  rw [em]
  obtain ⟨G7, hG7⟩ : ∃ G7, G7 = gupd G6 p3 (.dK [(.inr "a", D.ref p4)]) := ⟨_, rfl⟩
  rw [← hG7]
  have e7 : Evo 0 G6 G7 := hG7 ▸ Evo.fill a3
  have B7 : Bk G7 p (k + 1 + 21) G7 := hG7 ▸ B6.new n3
  have g3 : Gd 10 K G7 (.ref p3) := .inr (.inr (.inr (.inr (.inr (.inr (.inl ⟨p3, p4, _, rfl, .inl (by rw [hG7, gupd_same]), by rw [hG7, gupd_ne (Ne.symm n43)]; exact a4, fl3⟩))))))
  clear hG7
  conv => whnf
  refine ⟨smallL (by simp), ?_⟩
  conv => whnf
  intro p5 h5
  obtain ⟨G8, hG8⟩ : ∃ G8, G8 = gupd G7 p5 (.lst []) := ⟨_, rfl⟩
  rw [← hG8]
  have e8 : Evo 0 G7 G8 := hG8 ▸ Evo.new h5
  have B8 : Bk G8 p (k + 1 + 21) G8 := hG8 ▸ bk_new B7 h5
  have g5 : Gd 10 K G8 (.ref p5) := .inr (.inr (.inr (.inr (.inl ⟨p5, _, rfl, by rw [hG8, gupd_same], fl4⟩))))
  clear hG8
  conv => whnf
  refine ⟨rfl, rfl, [.str z], rfl, rfl, fun p6 h6 => ?_⟩
  obtain ⟨G9, hG9⟩ : ∃ G9, G9 = gupd G8 p6 (newO (He.ga K "NoName") ["found"] [.str z]) := ⟨_, rfl⟩
  rw [← hG9]
  have e9 : Evo 0 G8 G9 := hG9 ▸ Evo.new h6
  have B9 : Bk G9 p (k + 1 + 21) G9 := hG9 ▸ bk_new B8 h6
  have g6 : Gd 10 K G9 (.ref p6) := .inr (.inr (.inr (.inr (.inr (.inr (.inr ⟨p6, [("found", .str z)], rfl, by rw [hG9, gupd_same]; rfl⟩))))))
  clear hG9
  conv => whnf
  refine ⟨smallL (by simp), ?_⟩
  conv => whnf
  refine tkB hsp B9 (by omega) (by decide) (by decide) fun j GA j0 j1 BA => ?_
  have eA : Evo 0 _ _ := bk_evo B9 BA
  have e9A := e9.trans0 eA
  have e8A := e8.trans0 e9A
  have e7A := e7.trans0 e8A
  have e4A := e4.trans0 (e5.trans0 (e6.trans0 e7A))
  have e5A := e5.trans0 (e6.trans0 e7A)
  have eall := e12.trans0 (e3.trans0 e4A)
  conv => whnf
  refine atD_of j0 (by simp; omega) fun d hd => h d GA ?_ eall ((bk_self BA).mono (by omega))
  simp only [List.mem_cons, List.not_mem_nil, or_false] at hd
  rcases hd with rfl | rfl | rfl | rfl | rfl | rfl | rfl | rfl | rfl | rfl
  · exact .inr (.inr (.inl ⟨_, rfl⟩))
  · exact .inr (.inr (.inl ⟨_, rfl⟩))
  · exact .inr (.inr (.inr (.inl ⟨_, rfl, oz⟩)))
  · exact .inl rfl
  · exact .inr (.inl rfl)
  · exact g1.evo e4A
  · exact g2.evo e5A
  · exact g3.evo e8A
  · exact g5.evo e9A
  · exact g6.evo eA
theorem rd_law_thing {K : PySem.W.Frag} : ∀ x G Q (E : DXK), prThing K x G Q → DRun (t_law_thing K sp_law_take sp_law_text) [some x, none, none, none] G Q := rd_thingG (fun _ _ _ _ h => h) fun _ _ _ _ h => h
theorem th {K : PySem.W.Frag} {sp : DSp} (hf : ∀ ds G Q E, sp_law_thing K ds G Q E → sp ds G Q E) {G : GHp} {p : Addr} {k : Nat} {Q : DK} {E : DXK} (B : Bk G p k G) (hk : k < 500000) (h : ∀ d G', Gd 10 K G' d → Evo 0 G G' → Bk G' p (k + 100) G' → Q d G') : sp [.ref p] G Q E :=
  hf _ _ _ _ ⟨p, k, rfl, B, hk, h⟩
end K04
set_option linter.all false
set_option maxRecDepth 100000
set_option maxHeartbeats 1000000
namespace K04
open PySem PySem.Spec L2 DL
/-- the names of all classes, as they are made -/
def names : List Str := ["NoNumber", "NoName", "NoText", "NoPlace", "NoWay", "NoRound", "NoOutline", "NoPoint", "NoProgram", "NoWord", "NoFont", "NoWorths", "NoLetter", "NoParts", "NoSize", "NoZone", "NoCells", "NoChoices", "NoLine", "NoLimit", "Crossed", "TooMany", "Deep", "NoRow", "Fault", "NoEntry", "Unready", "NoDefinition", "NoSuch", "NoBase"]
def objs (K : PySem.W.Frag) (t m : D) : List GO := [newO (He.ga K "NoNumber") ["found"] [t], newO (He.ga K "NoName") ["found"] [t], newO (He.ga K "NoText") ["found"] [t], newO (He.ga K "NoPlace") ["found"] [t], newO (He.ga K "NoWay") ["found"] [t], newO (He.ga K "NoRound") ["found"] [t], newO (He.ga K "NoOutline") ["found"] [t], newO (He.ga K "NoPoint") ["found"] [t], newO (He.ga K "NoProgram") ["found"] [t], newO (He.ga K "NoWord") ["found"] [t], newO (He.ga K "NoFont") ["found"] [t], newO (He.ga K "NoWorths") ["found"] [t], newO (He.ga K "NoLetter") ["found"] [t], newO (He.ga K "NoParts") ["found"] [t], newO (He.ga K "NoSize") ["found"] [t], newO (He.ga K "NoZone") ["found"] [t], newO (He.ga K "NoCells") ["found"] [t], newO (He.ga K "NoChoices") ["found"] [t], newO (He.ga K "NoLine") ["found"] [t], newO (He.ga K "NoLimit") ["found"] [t], newO (He.ga K "Crossed") ["one", "other"] [t, m], newO (He.ga K "TooMany") ["many"] [t], newO (He.ga K "Deep") ["at"] [t], newO (He.ga K "NoRow") ["at"] [t], newO (He.ga K "Fault") ["done", "why"] [t, m], newO (He.ga K "NoEntry") ["found"] [t], newO (He.ga K "Unready") [] [], newO (He.ga K "NoDefinition") ["found"] [t], newO (He.ga K "NoSuch") ["found"] [t], newO (He.ga K "NoBase") ["found"] [t]]
structure Grow (G G' : GHp) (as : List Addr) (os : List GO) : Prop where
  old : ∀ p o, G p = some o → G' p = some o
  new : Paired (fun a o => G' a = some o) as os
theorem Grow.nil {G : GHp} : Grow G G [] [] := ⟨fun _ _ h => h, .nil⟩
theorem paired_snoc {α β : Type} {P : α → β → Prop} : ∀ {as : List α} {bs : List β} {a : α} {b : β}, Paired P as bs → P a b → Paired P (as ++ [a]) (bs ++ [b])
  | _, _, _, _, .nil, h => .cons h .nil
  | _, _, _, _, .cons x r, h => .cons x (paired_snoc r h)
theorem paired_imp {α β : Type} {P Q : α → β → Prop} (k : ∀ a b, P a b → Q a b) : ∀ {as : List α} {bs : List β}, Paired P as bs → Paired Q as bs
  | _, _, .nil => .nil
  | _, _, .cons x r => .cons (k _ _ x) (paired_imp k r)
theorem Grow.step {G G1 : GHp} {as : List Addr} {os : List GO} {a : Addr} {o : GO} (W : Grow G G1 as os) (h : G1 a = none) : Grow G (gupd G1 a o) (a :: as) (o :: os) := by
  have ne : ∀ p u, G1 p = some u → gupd G1 a o p = some u := fun p u e => by rw [gupd_ne (fun z => by rw [z, h] at e; cases e)]; exact e
  exact ⟨fun p u e => ne _ _ (W.old p u e), .cons gupd_same (paired_imp (fun p u e => ne _ _ e) W.new)⟩
theorem paired_rev {α β : Type} {P : α → β → Prop} : ∀ {as : List α} {bs : List β}, Paired P as bs → Paired P as.reverse bs.reverse
  | _, _, .nil => .nil
  | _, _, .cons x r => by rw [List.reverse_cons, List.reverse_cons]; exact paired_snoc (paired_rev r) x
theorem Grow.rev {G G1 : GHp} {as : List Addr} {os : List GO} (W : Grow G G1 as os) : Grow G G1 as.reverse os.reverse := ⟨W.old, paired_rev W.new⟩
def prMade (K : PySem.W.Frag) (x y : D) (G : GHp) (Q : DK) : Prop := ∀ as G', Grow G G' as (objs K x y) → Q (.lst (as.map .ref)) G'
def sp_law_made (K : PySem.W.Frag) : DSp := sp2 fun x y G Q _ => prMade K x y G Q
def sp_law_named (K : PySem.W.Frag) : DSp := sp2 fun x y G Q _ => prMade K x y G Q
theorem rd_law_made {K : PySem.W.Frag} : ∀ x y G Q (E : DXK), prMade K x y G Q → DRun (t_law_made K) [some x, some y, none] G Q := by
  intro t m G Q E h
  have W : Grow G G [] [] := Grow.nil
  revert W
  generalize hG0 : G = G0 at h
  rw [← hG0]
  intro W
  rw [hG0] at W ⊢
  conv => whnf
  refine ⟨rfl, rfl, [t], rfl, rfl, fun a1 h => ?_⟩
  replace W := W.step (o := newO (He.ga K "NoNumber") ["found"] [t]) h
  generalize gupd G0 a1 (newO (He.ga K "NoNumber") ["found"] [t]) = G1 at W ⊢
  clear h
  conv => whnf
  refine ⟨rfl, rfl, [t], rfl, rfl, fun a2 h => ?_⟩
  replace W := W.step (o := newO (He.ga K "NoName") ["found"] [t]) h
  generalize gupd G1 a2 (newO (He.ga K "NoName") ["found"] [t]) = G2 at W ⊢
  clear h
  conv => whnf
  refine ⟨rfl, rfl, [t], rfl, rfl, fun a3 h => ?_⟩
  replace W := W.step (o := newO (He.ga K "NoText") ["found"] [t]) h
  generalize gupd G2 a3 (newO (He.ga K "NoText") ["found"] [t]) = G3 at W ⊢
  clear h
  conv => whnf
  refine ⟨rfl, rfl, [t], rfl, rfl, fun a4 h => ?_⟩
  replace W := W.step (o := newO (He.ga K "NoPlace") ["found"] [t]) h
  generalize gupd G3 a4 (newO (He.ga K "NoPlace") ["found"] [t]) = G4 at W ⊢
  clear h
  conv => whnf
  refine ⟨rfl, rfl, [t], rfl, rfl, fun a5 h => ?_⟩
  replace W := W.step (o := newO (He.ga K "NoWay") ["found"] [t]) h
  generalize gupd G4 a5 (newO (He.ga K "NoWay") ["found"] [t]) = G5 at W ⊢
  clear h
  conv => whnf
  refine ⟨smallL (by simp), ?_⟩
  conv => whnf
  refine ⟨rfl, rfl, [t], rfl, rfl, fun a6 h => ?_⟩
  replace W := W.step (o := newO (He.ga K "NoRound") ["found"] [t]) h
  generalize gupd G5 a6 (newO (He.ga K "NoRound") ["found"] [t]) = G6 at W ⊢
  clear h
  conv => whnf
  refine ⟨rfl, rfl, [t], rfl, rfl, fun a7 h => ?_⟩
  replace W := W.step (o := newO (He.ga K "NoOutline") ["found"] [t]) h
  generalize gupd G6 a7 (newO (He.ga K "NoOutline") ["found"] [t]) = G7 at W ⊢
  clear h
  conv => whnf
  refine ⟨rfl, rfl, [t], rfl, rfl, fun a8 h => ?_⟩
  replace W := W.step (o := newO (He.ga K "NoPoint") ["found"] [t]) h
  generalize gupd G7 a8 (newO (He.ga K "NoPoint") ["found"] [t]) = G8 at W ⊢
  clear h
  conv => whnf
  refine ⟨rfl, rfl, [t], rfl, rfl, fun a9 h => ?_⟩
  replace W := W.step (o := newO (He.ga K "NoProgram") ["found"] [t]) h
  generalize gupd G8 a9 (newO (He.ga K "NoProgram") ["found"] [t]) = G9 at W ⊢
  clear h
  conv => whnf
  refine ⟨rfl, rfl, [t], rfl, rfl, fun a10 h => ?_⟩
  replace W := W.step (o := newO (He.ga K "NoWord") ["found"] [t]) h
  generalize gupd G9 a10 (newO (He.ga K "NoWord") ["found"] [t]) = G10 at W ⊢
  clear h
  conv => whnf
  refine ⟨smallL (by simp), ?_⟩
  conv => whnf
  refine ⟨smallL (by simp), ?_⟩
  conv => whnf
  refine ⟨rfl, rfl, [t], rfl, rfl, fun a11 h => ?_⟩
  replace W := W.step (o := newO (He.ga K "NoFont") ["found"] [t]) h
  generalize gupd G10 a11 (newO (He.ga K "NoFont") ["found"] [t]) = G11 at W ⊢
  clear h
  conv => whnf
  refine ⟨rfl, rfl, [t], rfl, rfl, fun a12 h => ?_⟩
  replace W := W.step (o := newO (He.ga K "NoWorths") ["found"] [t]) h
  generalize gupd G11 a12 (newO (He.ga K "NoWorths") ["found"] [t]) = G12 at W ⊢
  clear h
  conv => whnf
  refine ⟨rfl, rfl, [t], rfl, rfl, fun a13 h => ?_⟩
  replace W := W.step (o := newO (He.ga K "NoLetter") ["found"] [t]) h
  generalize gupd G12 a13 (newO (He.ga K "NoLetter") ["found"] [t]) = G13 at W ⊢
  clear h
  conv => whnf
  refine ⟨rfl, rfl, [t], rfl, rfl, fun a14 h => ?_⟩
  replace W := W.step (o := newO (He.ga K "NoParts") ["found"] [t]) h
  generalize gupd G13 a14 (newO (He.ga K "NoParts") ["found"] [t]) = G14 at W ⊢
  clear h
  conv => whnf
  refine ⟨rfl, rfl, [t], rfl, rfl, fun a15 h => ?_⟩
  replace W := W.step (o := newO (He.ga K "NoSize") ["found"] [t]) h
  generalize gupd G14 a15 (newO (He.ga K "NoSize") ["found"] [t]) = G15 at W ⊢
  clear h
  conv => whnf
  refine ⟨smallL (by simp), ?_⟩
  conv => whnf
  refine ⟨smallL (by simp), ?_⟩
  conv => whnf
  refine ⟨rfl, rfl, [t], rfl, rfl, fun a16 h => ?_⟩
  replace W := W.step (o := newO (He.ga K "NoZone") ["found"] [t]) h
  generalize gupd G15 a16 (newO (He.ga K "NoZone") ["found"] [t]) = G16 at W ⊢
  clear h
  conv => whnf
  refine ⟨rfl, rfl, [t], rfl, rfl, fun a17 h => ?_⟩
  replace W := W.step (o := newO (He.ga K "NoCells") ["found"] [t]) h
  generalize gupd G16 a17 (newO (He.ga K "NoCells") ["found"] [t]) = G17 at W ⊢
  clear h
  conv => whnf
  refine ⟨rfl, rfl, [t], rfl, rfl, fun a18 h => ?_⟩
  replace W := W.step (o := newO (He.ga K "NoChoices") ["found"] [t]) h
  generalize gupd G17 a18 (newO (He.ga K "NoChoices") ["found"] [t]) = G18 at W ⊢
  clear h
  conv => whnf
  refine ⟨rfl, rfl, [t], rfl, rfl, fun a19 h => ?_⟩
  replace W := W.step (o := newO (He.ga K "NoLine") ["found"] [t]) h
  generalize gupd G18 a19 (newO (He.ga K "NoLine") ["found"] [t]) = G19 at W ⊢
  clear h
  conv => whnf
  refine ⟨rfl, rfl, [t], rfl, rfl, fun a20 h => ?_⟩
  replace W := W.step (o := newO (He.ga K "NoLimit") ["found"] [t]) h
  generalize gupd G19 a20 (newO (He.ga K "NoLimit") ["found"] [t]) = G20 at W ⊢
  clear h
  conv => whnf
  refine ⟨smallL (by simp), ?_⟩
  conv => whnf
  refine ⟨smallL (by simp), ?_⟩
  conv => whnf
  refine ⟨rfl, rfl, [t, m], rfl, rfl, fun a21 h => ?_⟩
  replace W := W.step (o := newO (He.ga K "Crossed") ["one", "other"] [t, m]) h
  generalize gupd G20 a21 (newO (He.ga K "Crossed") ["one", "other"] [t, m]) = G21 at W ⊢
  clear h
  conv => whnf
  refine ⟨rfl, rfl, [t], rfl, rfl, fun a22 h => ?_⟩
  replace W := W.step (o := newO (He.ga K "TooMany") ["many"] [t]) h
  generalize gupd G21 a22 (newO (He.ga K "TooMany") ["many"] [t]) = G22 at W ⊢
  clear h
  conv => whnf
  refine ⟨rfl, rfl, [t], rfl, rfl, fun a23 h => ?_⟩
  replace W := W.step (o := newO (He.ga K "Deep") ["at"] [t]) h
  generalize gupd G22 a23 (newO (He.ga K "Deep") ["at"] [t]) = G23 at W ⊢
  clear h
  conv => whnf
  refine ⟨rfl, rfl, [t], rfl, rfl, fun a24 h => ?_⟩
  replace W := W.step (o := newO (He.ga K "NoRow") ["at"] [t]) h
  generalize gupd G23 a24 (newO (He.ga K "NoRow") ["at"] [t]) = G24 at W ⊢
  clear h
  conv => whnf
  refine ⟨rfl, rfl, [t, m], rfl, rfl, fun a25 h => ?_⟩
  replace W := W.step (o := newO (He.ga K "Fault") ["done", "why"] [t, m]) h
  generalize gupd G24 a25 (newO (He.ga K "Fault") ["done", "why"] [t, m]) = G25 at W ⊢
  clear h
  conv => whnf
  refine ⟨smallL (by simp), ?_⟩
  conv => whnf
  refine ⟨smallL (by simp), ?_⟩
  conv => whnf
  refine ⟨rfl, rfl, [t], rfl, rfl, fun a26 h => ?_⟩
  replace W := W.step (o := newO (He.ga K "NoEntry") ["found"] [t]) h
  generalize gupd G25 a26 (newO (He.ga K "NoEntry") ["found"] [t]) = G26 at W ⊢
  clear h
  conv => whnf
  refine ⟨rfl, rfl, [], rfl, rfl, fun a27 h => ?_⟩
  replace W := W.step (o := newO (He.ga K "Unready") [] []) h
  generalize gupd G26 a27 (newO (He.ga K "Unready") [] []) = G27 at W ⊢
  clear h
  conv => whnf
  refine ⟨rfl, rfl, [t], rfl, rfl, fun a28 h => ?_⟩
  replace W := W.step (o := newO (He.ga K "NoDefinition") ["found"] [t]) h
  generalize gupd G27 a28 (newO (He.ga K "NoDefinition") ["found"] [t]) = G28 at W ⊢
  clear h
  conv => whnf
  refine ⟨rfl, rfl, [t], rfl, rfl, fun a29 h => ?_⟩
  replace W := W.step (o := newO (He.ga K "NoSuch") ["found"] [t]) h
  generalize gupd G28 a29 (newO (He.ga K "NoSuch") ["found"] [t]) = G29 at W ⊢
  clear h
  conv => whnf
  refine ⟨rfl, rfl, [t], rfl, rfl, fun a30 h => ?_⟩
  replace W := W.step (o := newO (He.ga K "NoBase") ["found"] [t]) h
  generalize gupd G29 a30 (newO (He.ga K "NoBase") ["found"] [t]) = G30 at W ⊢
  clear h
  conv => whnf
  refine ⟨smallL (by simp), ?_⟩
  conv => whnf
  refine ⟨smallL (by simp), ?_⟩
  conv => whnf
  have W := W.rev
  simp only [List.reverse_cons, List.reverse_nil, List.nil_append, List.cons_append] at W
  have h := h _ _ W
  simp only [List.map_cons, List.map_nil] at h
  simp only [List.nil_append, List.cons_append]
  exact h
theorem rd_law_named {K : PySem.W.Frag} : ∀ x y G Q (E : DXK), prMade K x y G Q → DRun (t_law_named K) [some x, some y, none] G Q := by
  intro t m G Q E h
  have W : Grow G G [] [] := Grow.nil
  revert W
  generalize hG0 : G = G0 at h
  rw [← hG0]
  intro W
  rw [hG0] at W ⊢
  conv => whnf
  refine ⟨rfl, rfl, [t], rfl, rfl, fun a1 h => ?_⟩
  replace W := W.step (o := newO (He.ga K "NoNumber") ["found"] [t]) h
  generalize gupd G0 a1 (newO (He.ga K "NoNumber") ["found"] [t]) = G1 at W ⊢
  clear h
  conv => whnf
  refine ⟨rfl, rfl, [t], rfl, rfl, fun a2 h => ?_⟩
  replace W := W.step (o := newO (He.ga K "NoName") ["found"] [t]) h
  generalize gupd G1 a2 (newO (He.ga K "NoName") ["found"] [t]) = G2 at W ⊢
  clear h
  conv => whnf
  refine ⟨rfl, rfl, [t], rfl, rfl, fun a3 h => ?_⟩
  replace W := W.step (o := newO (He.ga K "NoText") ["found"] [t]) h
  generalize gupd G2 a3 (newO (He.ga K "NoText") ["found"] [t]) = G3 at W ⊢
  clear h
  conv => whnf
  refine ⟨rfl, rfl, [t], rfl, rfl, fun a4 h => ?_⟩
  replace W := W.step (o := newO (He.ga K "NoPlace") ["found"] [t]) h
  generalize gupd G3 a4 (newO (He.ga K "NoPlace") ["found"] [t]) = G4 at W ⊢
  clear h
  conv => whnf
  refine ⟨rfl, rfl, [t], rfl, rfl, fun a5 h => ?_⟩
  replace W := W.step (o := newO (He.ga K "NoWay") ["found"] [t]) h
  generalize gupd G4 a5 (newO (He.ga K "NoWay") ["found"] [t]) = G5 at W ⊢
  clear h
  conv => whnf
  refine ⟨smallL (by simp), ?_⟩
  conv => whnf
  refine ⟨rfl, rfl, [t], rfl, rfl, fun a6 h => ?_⟩
  replace W := W.step (o := newO (He.ga K "NoRound") ["found"] [t]) h
  generalize gupd G5 a6 (newO (He.ga K "NoRound") ["found"] [t]) = G6 at W ⊢
  clear h
  conv => whnf
  refine ⟨rfl, rfl, [t], rfl, rfl, fun a7 h => ?_⟩
  replace W := W.step (o := newO (He.ga K "NoOutline") ["found"] [t]) h
  generalize gupd G6 a7 (newO (He.ga K "NoOutline") ["found"] [t]) = G7 at W ⊢
  clear h
  conv => whnf
  refine ⟨rfl, rfl, [t], rfl, rfl, fun a8 h => ?_⟩
  replace W := W.step (o := newO (He.ga K "NoPoint") ["found"] [t]) h
  generalize gupd G7 a8 (newO (He.ga K "NoPoint") ["found"] [t]) = G8 at W ⊢
  clear h
  conv => whnf
  refine ⟨rfl, rfl, [t], rfl, rfl, fun a9 h => ?_⟩
  replace W := W.step (o := newO (He.ga K "NoProgram") ["found"] [t]) h
  generalize gupd G8 a9 (newO (He.ga K "NoProgram") ["found"] [t]) = G9 at W ⊢
  clear h
  conv => whnf
  refine ⟨smallL (by simp), ?_⟩
  conv => whnf
  refine ⟨smallL (by simp), ?_⟩
  conv => whnf
  refine ⟨rfl, rfl, [t], rfl, rfl, fun a10 h => ?_⟩
  replace W := W.step (o := newO (He.ga K "NoWord") ["found"] [t]) h
  generalize gupd G9 a10 (newO (He.ga K "NoWord") ["found"] [t]) = G10 at W ⊢
  clear h
  conv => whnf
  refine ⟨rfl, rfl, [t], rfl, rfl, fun a11 h => ?_⟩
  replace W := W.step (o := newO (He.ga K "NoFont") ["found"] [t]) h
  generalize gupd G10 a11 (newO (He.ga K "NoFont") ["found"] [t]) = G11 at W ⊢
  clear h
  conv => whnf
  refine ⟨rfl, rfl, [t], rfl, rfl, fun a12 h => ?_⟩
  replace W := W.step (o := newO (He.ga K "NoWorths") ["found"] [t]) h
  generalize gupd G11 a12 (newO (He.ga K "NoWorths") ["found"] [t]) = G12 at W ⊢
  clear h
  conv => whnf
  refine ⟨rfl, rfl, [t], rfl, rfl, fun a13 h => ?_⟩
  replace W := W.step (o := newO (He.ga K "NoLetter") ["found"] [t]) h
  generalize gupd G12 a13 (newO (He.ga K "NoLetter") ["found"] [t]) = G13 at W ⊢
  clear h
  conv => whnf
  refine ⟨smallL (by simp), ?_⟩
  conv => whnf
  refine ⟨smallL (by simp), ?_⟩
  conv => whnf
  refine ⟨rfl, rfl, [t], rfl, rfl, fun a14 h => ?_⟩
  replace W := W.step (o := newO (He.ga K "NoParts") ["found"] [t]) h
  generalize gupd G13 a14 (newO (He.ga K "NoParts") ["found"] [t]) = G14 at W ⊢
  clear h
  conv => whnf
  refine ⟨rfl, rfl, [t], rfl, rfl, fun a15 h => ?_⟩
  replace W := W.step (o := newO (He.ga K "NoSize") ["found"] [t]) h
  generalize gupd G14 a15 (newO (He.ga K "NoSize") ["found"] [t]) = G15 at W ⊢
  clear h
  conv => whnf
  refine ⟨rfl, rfl, [t], rfl, rfl, fun a16 h => ?_⟩
  replace W := W.step (o := newO (He.ga K "NoZone") ["found"] [t]) h
  generalize gupd G15 a16 (newO (He.ga K "NoZone") ["found"] [t]) = G16 at W ⊢
  clear h
  conv => whnf
  refine ⟨rfl, rfl, [t], rfl, rfl, fun a17 h => ?_⟩
  replace W := W.step (o := newO (He.ga K "NoCells") ["found"] [t]) h
  generalize gupd G16 a17 (newO (He.ga K "NoCells") ["found"] [t]) = G17 at W ⊢
  clear h
  conv => whnf
  refine ⟨smallL (by simp), ?_⟩
  conv => whnf
  refine ⟨smallL (by simp), ?_⟩
  conv => whnf
  refine ⟨rfl, rfl, [t], rfl, rfl, fun a18 h => ?_⟩
  replace W := W.step (o := newO (He.ga K "NoChoices") ["found"] [t]) h
  generalize gupd G17 a18 (newO (He.ga K "NoChoices") ["found"] [t]) = G18 at W ⊢
  clear h
  conv => whnf
  refine ⟨rfl, rfl, [t], rfl, rfl, fun a19 h => ?_⟩
  replace W := W.step (o := newO (He.ga K "NoLine") ["found"] [t]) h
  generalize gupd G18 a19 (newO (He.ga K "NoLine") ["found"] [t]) = G19 at W ⊢
  clear h
  conv => whnf
  refine ⟨rfl, rfl, [t], rfl, rfl, fun a20 h => ?_⟩
  replace W := W.step (o := newO (He.ga K "NoLimit") ["found"] [t]) h
  generalize gupd G19 a20 (newO (He.ga K "NoLimit") ["found"] [t]) = G20 at W ⊢
  clear h
  conv => whnf
  refine ⟨rfl, rfl, [t, m], rfl, rfl, fun a21 h => ?_⟩
  replace W := W.step (o := newO (He.ga K "Crossed") ["one", "other"] [t, m]) h
  generalize gupd G20 a21 (newO (He.ga K "Crossed") ["one", "other"] [t, m]) = G21 at W ⊢
  clear h
  conv => whnf
  refine ⟨smallL (by simp), ?_⟩
  conv => whnf
  refine ⟨smallL (by simp), ?_⟩
  conv => whnf
  refine ⟨rfl, rfl, [t], rfl, rfl, fun a22 h => ?_⟩
  replace W := W.step (o := newO (He.ga K "TooMany") ["many"] [t]) h
  generalize gupd G21 a22 (newO (He.ga K "TooMany") ["many"] [t]) = G22 at W ⊢
  clear h
  conv => whnf
  refine ⟨rfl, rfl, [t], rfl, rfl, fun a23 h => ?_⟩
  replace W := W.step (o := newO (He.ga K "Deep") ["at"] [t]) h
  generalize gupd G22 a23 (newO (He.ga K "Deep") ["at"] [t]) = G23 at W ⊢
  clear h
  conv => whnf
  refine ⟨rfl, rfl, [t], rfl, rfl, fun a24 h => ?_⟩
  replace W := W.step (o := newO (He.ga K "NoRow") ["at"] [t]) h
  generalize gupd G23 a24 (newO (He.ga K "NoRow") ["at"] [t]) = G24 at W ⊢
  clear h
  conv => whnf
  refine ⟨rfl, rfl, [t, m], rfl, rfl, fun a25 h => ?_⟩
  replace W := W.step (o := newO (He.ga K "Fault") ["done", "why"] [t, m]) h
  generalize gupd G24 a25 (newO (He.ga K "Fault") ["done", "why"] [t, m]) = G25 at W ⊢
  clear h
  conv => whnf
  refine ⟨smallL (by simp), ?_⟩
  conv => whnf
  refine ⟨smallL (by simp), ?_⟩
  conv => whnf
  refine ⟨rfl, rfl, [t], rfl, rfl, fun a26 h => ?_⟩
  replace W := W.step (o := newO (He.ga K "NoEntry") ["found"] [t]) h
  generalize gupd G25 a26 (newO (He.ga K "NoEntry") ["found"] [t]) = G26 at W ⊢
  clear h
  conv => whnf
  refine ⟨rfl, rfl, [], rfl, rfl, fun a27 h => ?_⟩
  replace W := W.step (o := newO (He.ga K "Unready") [] []) h
  generalize gupd G26 a27 (newO (He.ga K "Unready") [] []) = G27 at W ⊢
  clear h
  conv => whnf
  refine ⟨rfl, rfl, [t], rfl, rfl, fun a28 h => ?_⟩
  replace W := W.step (o := newO (He.ga K "NoDefinition") ["found"] [t]) h
  generalize gupd G27 a28 (newO (He.ga K "NoDefinition") ["found"] [t]) = G28 at W ⊢
  clear h
  conv => whnf
  refine ⟨rfl, rfl, [t], rfl, rfl, fun a29 h => ?_⟩
  replace W := W.step (o := newO (He.ga K "NoSuch") ["found"] [t]) h
  generalize gupd G28 a29 (newO (He.ga K "NoSuch") ["found"] [t]) = G29 at W ⊢
  clear h
  conv => whnf
  refine ⟨smallL (by simp), ?_⟩
  conv => whnf
  refine ⟨smallL (by simp), ?_⟩
  conv => whnf
  refine ⟨rfl, rfl, [t], rfl, rfl, fun a30 h => ?_⟩
  replace W := W.step (o := newO (He.ga K "NoBase") ["found"] [t]) h
  generalize gupd G29 a30 (newO (He.ga K "NoBase") ["found"] [t]) = G30 at W ⊢
  clear h
  conv => whnf
  refine ⟨smallL (by simp), ?_⟩
  conv => whnf
  refine ⟨smallL (by simp), ?_⟩
  have W := W.rev
  simp only [List.reverse_cons, List.reverse_nil, List.nil_append, List.cons_append] at W
  have h := h _ _ W
  simp only [List.map_cons, List.map_nil] at h
  simp only [List.nil_append, List.cons_append]
  exact h
end K04
set_option linter.all false
set_option maxRecDepth 100000
set_option maxHeartbeats 1000000
namespace K04
open PySem PySem.Spec L2 DL
/-! of which classes an exception is -/
def isEx (K : PySem.W.Frag) (G : GHp) (n : Str) (e : D) : Prop := ∃ a, e = .ref a ∧ ((∃ fs, G a = some (.exo (He.ga K n) fs)) ∨ G a = some (.exn (He.ga K n)))
def prKinds (K : PySem.W.Frag) (e : D) (G : GHp) (Q : DK) : Prop := ∃ n ∈ names, isEx K G n e ∧ Q (.lst (names.map fun m => .bl (decide (n = m)))) G
def sp_law_kinds (K : PySem.W.Frag) : DSp := sp1 fun e G Q _ => prKinds K e G Q
theorem isx {K : PySem.W.Frag} (T : Kin K names) {G : GHp} {n m : Str} {e : D} (hn : n ∈ names) (hm : m ∈ names) (h : isEx K G n e) : IsX K G e (.ref (He.ga K m)) (decide (n = m)) := by
  obtain ⟨a, rfl, ⟨fs, h⟩ | h⟩ := h
  · exact .inl ⟨a, _, fs, rfl, h, T n hn m hm⟩
  · exact .inr (.inl ⟨a, _, rfl, h, T n hn m hm⟩)
theorem rd_law_kinds {K : PySem.W.Frag} (T : Kin K names) : ∀ e G Q (E : DXK), prKinds K e G Q → DRun (t_law_kinds K) [some e, none] G Q := by
  rintro e G Q E ⟨n, hn, he, h⟩
  have step : ∀ m, m ∈ names → IsX K G e (.ref (He.ga K m)) (decide (n = m)) := fun m hm => isx T hn hm he
  conv => whnf
  repeat (first | (refine ⟨_, step _ (by decide +kernel), ?_⟩; conv => whnf) | (refine ⟨smallL (by simp), ?_⟩; conv => whnf))
  simp only [names, List.map_cons, List.map_nil] at h
  simp only [List.nil_append, List.cons_append]
  exact h
def flds : List (Str × Str) := [("NoNumber", "found"), ("NoName", "found"), ("NoText", "found"), ("NoPlace", "found"), ("NoWay", "found"), ("NoRound", "found"), ("NoOutline", "found"), ("NoPoint", "found"), ("NoProgram", "found"), ("NoWord", "found"), ("NoFont", "found"), ("NoWorths", "found"), ("NoLetter", "found"), ("NoParts", "found"), ("NoSize", "found"), ("NoZone", "found"), ("NoCells", "found"), ("NoChoices", "found"), ("NoLine", "found"), ("NoLimit", "found"), ("NoEntry", "found"), ("NoDefinition", "found"), ("NoSuch", "found"), ("NoBase", "found"), ("Crossed", "one"), ("Crossed", "other"), ("TooMany", "many"), ("Deep", "at"), ("NoRow", "at"), ("Fault", "done"), ("Fault", "why")]
def Made (K : PySem.W.Frag) (G : GHp) (as : List Addr) (t m : D) : Prop := Paired (fun a o => G a = some o) as (objs K t m)
def prFields (K : PySem.W.Frag) (x : D) (G : GHp) (Q : DK) : Prop := ∃ as t m, x = .lst (as.map .ref) ∧ Made K G as t m ∧ Q (.lst (List.replicate 29 t)) G
def sp_law_fields (K : PySem.W.Frag) : DSp := sp1 fun x G Q _ => prFields K x G Q
theorem lk1 {f : Str} {d : D} : List.lookup f [(f, d)] = some d := by simp
theorem lk2 {f g : Str} {d e : D} (h : f ≠ g) : List.lookup f [(g, e), (f, d)] = some d := by
  have : (f == g) = false := by simpa using h
  simp [List.lookup, this]
theorem lk3 {f g : Str} {d e : D} : List.lookup f [(f, d), (g, e)] = some d := by simp
theorem rd_law_fields {K : PySem.W.Frag} (F : Flk K flds) : ∀ x G Q (E : DXK), prFields K x G Q → DRun (t_law_fields K) [some x, none, none, none] G Q := by
  rintro x G Q E ⟨as, t, m, rfl, mk, h⟩
  unfold Made objs at mk
  rcases mk with _ | ⟨h1, mk⟩
  rcases mk with _ | ⟨h2, mk⟩
  rcases mk with _ | ⟨h3, mk⟩
  rcases mk with _ | ⟨h4, mk⟩
  rcases mk with _ | ⟨h5, mk⟩
  rcases mk with _ | ⟨h6, mk⟩
  rcases mk with _ | ⟨h7, mk⟩
  rcases mk with _ | ⟨h8, mk⟩
  rcases mk with _ | ⟨h9, mk⟩
  rcases mk with _ | ⟨h10, mk⟩
  rcases mk with _ | ⟨h11, mk⟩
  rcases mk with _ | ⟨h12, mk⟩
  rcases mk with _ | ⟨h13, mk⟩
  rcases mk with _ | ⟨h14, mk⟩
  rcases mk with _ | ⟨h15, mk⟩
  rcases mk with _ | ⟨h16, mk⟩
  rcases mk with _ | ⟨h17, mk⟩
  rcases mk with _ | ⟨h18, mk⟩
  rcases mk with _ | ⟨h19, mk⟩
  rcases mk with _ | ⟨h20, mk⟩
  rcases mk with _ | ⟨h21, mk⟩
  rcases mk with _ | ⟨h22, mk⟩
  rcases mk with _ | ⟨h23, mk⟩
  rcases mk with _ | ⟨h24, mk⟩
  rcases mk with _ | ⟨h25, mk⟩
  rcases mk with _ | ⟨h26, mk⟩
  rcases mk with _ | ⟨h27, mk⟩
  rcases mk with _ | ⟨h28, mk⟩
  rcases mk with _ | ⟨h29, mk⟩
  rcases mk with _ | ⟨h30, mk⟩
  cases mk
  conv => whnf
  refine ⟨trivial, ?_⟩
  conv => whnf
  refine ⟨fun _ => ?_, fun e => tf e⟩
  conv => whnf
  refine ⟨_, He.ga K "NoNumber", [("found", t)], t, rfl, h1, (F ("NoNumber", "found") (by decide +kernel)).1, (F ("NoNumber", "found") (by decide +kernel)).2, lk1, ?_⟩
  conv => whnf
  refine ⟨smallLt (by simp), ?_⟩
  conv => whnf
  refine ⟨trivial, ?_⟩
  conv => whnf
  refine ⟨fun _ => ?_, fun e => tf e⟩
  conv => whnf
  refine ⟨_, He.ga K "NoName", [("found", t)], t, rfl, h2, (F ("NoName", "found") (by decide +kernel)).1, (F ("NoName", "found") (by decide +kernel)).2, lk1, ?_⟩
  conv => whnf
  refine ⟨smallLt (by simp), ?_⟩
  conv => whnf
  refine ⟨trivial, ?_⟩
  conv => whnf
  refine ⟨fun _ => ?_, fun e => tf e⟩
  conv => whnf
  refine ⟨_, He.ga K "NoText", [("found", t)], t, rfl, h3, (F ("NoText", "found") (by decide +kernel)).1, (F ("NoText", "found") (by decide +kernel)).2, lk1, ?_⟩
  conv => whnf
  refine ⟨smallLt (by simp), ?_⟩
  conv => whnf
  refine ⟨trivial, ?_⟩
  conv => whnf
  refine ⟨fun _ => ?_, fun e => tf e⟩
  conv => whnf
  refine ⟨_, He.ga K "NoPlace", [("found", t)], t, rfl, h4, (F ("NoPlace", "found") (by decide +kernel)).1, (F ("NoPlace", "found") (by decide +kernel)).2, lk1, ?_⟩
  conv => whnf
  refine ⟨smallLt (by simp), ?_⟩
  conv => whnf
  refine ⟨trivial, ?_⟩
  conv => whnf
  refine ⟨fun _ => ?_, fun e => tf e⟩
  conv => whnf
  refine ⟨_, He.ga K "NoWay", [("found", t)], t, rfl, h5, (F ("NoWay", "found") (by decide +kernel)).1, (F ("NoWay", "found") (by decide +kernel)).2, lk1, ?_⟩
  conv => whnf
  refine ⟨smallLt (by simp), ?_⟩
  conv => whnf
  refine ⟨trivial, ?_⟩
  conv => whnf
  refine ⟨fun _ => ?_, fun e => tf e⟩
  conv => whnf
  refine ⟨_, He.ga K "NoRound", [("found", t)], t, rfl, h6, (F ("NoRound", "found") (by decide +kernel)).1, (F ("NoRound", "found") (by decide +kernel)).2, lk1, ?_⟩
  conv => whnf
  refine ⟨smallLt (by simp), ?_⟩
  conv => whnf
  refine ⟨trivial, ?_⟩
  conv => whnf
  refine ⟨fun _ => ?_, fun e => tf e⟩
  conv => whnf
  refine ⟨_, He.ga K "NoOutline", [("found", t)], t, rfl, h7, (F ("NoOutline", "found") (by decide +kernel)).1, (F ("NoOutline", "found") (by decide +kernel)).2, lk1, ?_⟩
  conv => whnf
  refine ⟨smallLt (by simp), ?_⟩
  conv => whnf
  refine ⟨trivial, ?_⟩
  conv => whnf
  refine ⟨fun _ => ?_, fun e => tf e⟩
  conv => whnf
  refine ⟨_, He.ga K "NoPoint", [("found", t)], t, rfl, h8, (F ("NoPoint", "found") (by decide +kernel)).1, (F ("NoPoint", "found") (by decide +kernel)).2, lk1, ?_⟩
  conv => whnf
  refine ⟨smallLt (by simp), ?_⟩
  conv => whnf
  refine ⟨trivial, ?_⟩
  conv => whnf
  refine ⟨fun _ => ?_, fun e => tf e⟩
  conv => whnf
  refine ⟨_, He.ga K "NoProgram", [("found", t)], t, rfl, h9, (F ("NoProgram", "found") (by decide +kernel)).1, (F ("NoProgram", "found") (by decide +kernel)).2, lk1, ?_⟩
  conv => whnf
  refine ⟨smallLt (by simp), ?_⟩
  conv => whnf
  refine ⟨trivial, ?_⟩
  conv => whnf
  refine ⟨fun _ => ?_, fun e => tf e⟩
  conv => whnf
  refine ⟨_, He.ga K "NoWord", [("found", t)], t, rfl, h10, (F ("NoWord", "found") (by decide +kernel)).1, (F ("NoWord", "found") (by decide +kernel)).2, lk1, ?_⟩
  conv => whnf
  refine ⟨smallLt (by simp), ?_⟩
  conv => whnf
  refine ⟨trivial, ?_⟩
  conv => whnf
  refine ⟨fun _ => ?_, fun e => tf e⟩
  conv => whnf
  refine ⟨_, He.ga K "NoFont", [("found", t)], t, rfl, h11, (F ("NoFont", "found") (by decide +kernel)).1, (F ("NoFont", "found") (by decide +kernel)).2, lk1, ?_⟩
  conv => whnf
  refine ⟨smallLt (by simp), ?_⟩
  conv => whnf
  refine ⟨trivial, ?_⟩
  conv => whnf
  refine ⟨fun _ => ?_, fun e => tf e⟩
  conv => whnf
  refine ⟨_, He.ga K "NoWorths", [("found", t)], t, rfl, h12, (F ("NoWorths", "found") (by decide +kernel)).1, (F ("NoWorths", "found") (by decide +kernel)).2, lk1, ?_⟩
  conv => whnf
  refine ⟨smallLt (by simp), ?_⟩
  conv => whnf
  refine ⟨trivial, ?_⟩
  conv => whnf
  refine ⟨fun _ => ?_, fun e => tf e⟩
  conv => whnf
  refine ⟨_, He.ga K "NoLetter", [("found", t)], t, rfl, h13, (F ("NoLetter", "found") (by decide +kernel)).1, (F ("NoLetter", "found") (by decide +kernel)).2, lk1, ?_⟩
  conv => whnf
  refine ⟨smallLt (by simp), ?_⟩
  conv => whnf
  refine ⟨trivial, ?_⟩
  conv => whnf
  refine ⟨fun _ => ?_, fun e => tf e⟩
  conv => whnf
  refine ⟨_, He.ga K "NoParts", [("found", t)], t, rfl, h14, (F ("NoParts", "found") (by decide +kernel)).1, (F ("NoParts", "found") (by decide +kernel)).2, lk1, ?_⟩
  conv => whnf
  refine ⟨smallLt (by simp), ?_⟩
  conv => whnf
  refine ⟨trivial, ?_⟩
  conv => whnf
  refine ⟨fun _ => ?_, fun e => tf e⟩
  conv => whnf
  refine ⟨_, He.ga K "NoSize", [("found", t)], t, rfl, h15, (F ("NoSize", "found") (by decide +kernel)).1, (F ("NoSize", "found") (by decide +kernel)).2, lk1, ?_⟩
  conv => whnf
  refine ⟨smallLt (by simp), ?_⟩
  conv => whnf
  refine ⟨trivial, ?_⟩
  conv => whnf
  refine ⟨fun _ => ?_, fun e => tf e⟩
  conv => whnf
  refine ⟨_, He.ga K "NoZone", [("found", t)], t, rfl, h16, (F ("NoZone", "found") (by decide +kernel)).1, (F ("NoZone", "found") (by decide +kernel)).2, lk1, ?_⟩
  conv => whnf
  refine ⟨smallLt (by simp), ?_⟩
  conv => whnf
  refine ⟨trivial, ?_⟩
  conv => whnf
  refine ⟨fun _ => ?_, fun e => tf e⟩
  conv => whnf
  refine ⟨_, He.ga K "NoCells", [("found", t)], t, rfl, h17, (F ("NoCells", "found") (by decide +kernel)).1, (F ("NoCells", "found") (by decide +kernel)).2, lk1, ?_⟩
  conv => whnf
  refine ⟨smallLt (by simp), ?_⟩
  conv => whnf
  refine ⟨trivial, ?_⟩
  conv => whnf
  refine ⟨fun _ => ?_, fun e => tf e⟩
  conv => whnf
  refine ⟨_, He.ga K "NoChoices", [("found", t)], t, rfl, h18, (F ("NoChoices", "found") (by decide +kernel)).1, (F ("NoChoices", "found") (by decide +kernel)).2, lk1, ?_⟩
  conv => whnf
  refine ⟨smallLt (by simp), ?_⟩
  conv => whnf
  refine ⟨trivial, ?_⟩
  conv => whnf
  refine ⟨fun _ => ?_, fun e => tf e⟩
  conv => whnf
  refine ⟨_, He.ga K "NoLine", [("found", t)], t, rfl, h19, (F ("NoLine", "found") (by decide +kernel)).1, (F ("NoLine", "found") (by decide +kernel)).2, lk1, ?_⟩
  conv => whnf
  refine ⟨smallLt (by simp), ?_⟩
  conv => whnf
  refine ⟨trivial, ?_⟩
  conv => whnf
  refine ⟨fun _ => ?_, fun e => tf e⟩
  conv => whnf
  refine ⟨_, He.ga K "NoLimit", [("found", t)], t, rfl, h20, (F ("NoLimit", "found") (by decide +kernel)).1, (F ("NoLimit", "found") (by decide +kernel)).2, lk1, ?_⟩
  conv => whnf
  refine ⟨smallLt (by simp), ?_⟩
  conv => whnf
  refine ⟨trivial, ?_⟩
  conv => whnf
  refine ⟨_, He.ga K "Crossed", [("other", m), ("one", t)], t, rfl, h21, (F ("Crossed", "one") (by decide +kernel)).1, (F ("Crossed", "one") (by decide +kernel)).2, lk2 (by decide +kernel), ?_⟩
  conv => whnf
  refine ⟨_, He.ga K "TooMany", [("many", t)], t, rfl, h22, (F ("TooMany", "many") (by decide +kernel)).1, (F ("TooMany", "many") (by decide +kernel)).2, lk1, ?_⟩
  conv => whnf
  refine ⟨_, He.ga K "Deep", [("at", t)], t, rfl, h23, (F ("Deep", "at") (by decide +kernel)).1, (F ("Deep", "at") (by decide +kernel)).2, lk1, ?_⟩
  conv => whnf
  refine ⟨_, He.ga K "NoRow", [("at", t)], t, rfl, h24, (F ("NoRow", "at") (by decide +kernel)).1, (F ("NoRow", "at") (by decide +kernel)).2, lk1, ?_⟩
  conv => whnf
  refine ⟨_, He.ga K "Fault", [("why", m), ("done", t)], t, rfl, h25, (F ("Fault", "done") (by decide +kernel)).1, (F ("Fault", "done") (by decide +kernel)).2, lk2 (by decide +kernel), ?_⟩
  conv => whnf
  refine ⟨smallL (by simp), ?_⟩
  conv => whnf
  refine ⟨smallL (by simp), ?_⟩
  conv => whnf
  refine ⟨_, He.ga K "NoEntry", [("found", t)], t, rfl, h26, (F ("NoEntry", "found") (by decide +kernel)).1, (F ("NoEntry", "found") (by decide +kernel)).2, lk1, ?_⟩
  conv => whnf
  refine ⟨_, He.ga K "NoDefinition", [("found", t)], t, rfl, h28, (F ("NoDefinition", "found") (by decide +kernel)).1, (F ("NoDefinition", "found") (by decide +kernel)).2, lk1, ?_⟩
  conv => whnf
  refine ⟨_, He.ga K "NoSuch", [("found", t)], t, rfl, h29, (F ("NoSuch", "found") (by decide +kernel)).1, (F ("NoSuch", "found") (by decide +kernel)).2, lk1, ?_⟩
  conv => whnf
  refine ⟨_, He.ga K "NoBase", [("found", t)], t, rfl, h30, (F ("NoBase", "found") (by decide +kernel)).1, (F ("NoBase", "found") (by decide +kernel)).2, lk1, ?_⟩
  conv => whnf
  refine ⟨smallL (by simp), ?_⟩
  conv => whnf
  refine ⟨smallL (by simp), ?_⟩
  have h : Q (.lst [t, t, t, t, t, t, t, t, t, t, t, t, t, t, t, t, t, t, t, t, t, t, t, t, t, t, t, t, t]) G := h
  simp only [List.nil_append, List.cons_append]
  exact h
end K04
set_option linter.all false
set_option maxRecDepth 100000
set_option maxHeartbeats 1000000
namespace K04
open PySem PySem.Spec L2 DL
theorem dd_map {α : Type} {G : GHp} {f : α → D} {g : α → PyData} : ∀ {l : List α}, (∀ x ∈ l, DD G (f x) (g x)) → DDs G (l.map f) (l.map g)
  | [], _ => .nil
  | x :: l, h => .cons (h x (List.mem_cons_self ..)) (dd_map fun y hy => h y (List.mem_cons_of_mem _ hy))
def row (n : Str) : D := .lst (names.map fun m => .bl (decide (n = m)))
def rowP (n : Str) : PyData := .list (names.map fun m => .bool (decide (n = m)))
theorem rows_eq {G : GHp} (ns : List Str) : EqB G (.lst (ns.map row)) (.lst (ns.map row)) true := by
  have d : DD G (.lst (ns.map row)) (.list (ns.map rowP)) := .lst (dd_map fun n _ => .lst (dd_map fun m _ => .bl _))
  refine self_eq (n := 3) d d (Shps.list (Shps.of fun p hp => ?_)) (by decide)
  obtain ⟨n, _, rfl⟩ := List.mem_map.mp hp
  refine Shps.list (Shps.of fun p hp => ?_)
  obtain ⟨m, _, rfl⟩ := List.mem_map.mp hp
  exact Shp.bl _
theorem nil_eq {G : GHp} : EqB G (.lst []) (.lst []) true := self_eq (n := 1) (.lst .nil) (.lst .nil) (Shps.list (n := 0) .nil) (by decide)
theorem paired_zip {α β : Type} {P : α → β → Prop} : ∀ {as : List α} {bs : List β}, Paired P as bs → ∀ x ∈ as.zip bs, P x.1 x.2
  | _, _, .nil, x, h => by cases h
  | _, _, .cons q r, x, h => by
    rw [List.zip_cons_cons] at h
    rcases List.mem_cons.mp h with rfl | h
    · exact q
    · exact paired_zip r x h
/-- the kinds of a row of exceptions -/
theorem kinds_row {K : PySem.W.Frag} {sk : DSp} (hk : ∀ ds G Q E, sp_law_kinds K ds G Q E → sk ds G Q E) {G : GHp} {as : List Addr} {ns : List Str} {δ : DSt} {Q : DK} (hp : Paired (fun a n => n ∈ names ∧ isEx K G n (.ref a)) as ns) (hz : as.length ≤ 1000) (h5 : δ.length = 7)
    (h : Q (.lst (ns.map row)) G) : dLcL false none (.nm 5) dYes (dCall sk [] (dCons (dVar 5) dNil)) δ (as.map .ref) [] G Q := by
  have hl : as.length = ns.length := DL.Paired.len hp
  have em : as.map D.ref = (as.zip ns).map fun p => D.ref p.1 := by
    rw [show (fun p : Addr × Str => D.ref p.1) = D.ref ∘ Prod.fst from rfl, ← List.map_map, List.map_fst_zip (by omega)]
  have en : (as.zip ns).map (fun p => row p.2) = ns.map row := by
    rw [show (fun p : Addr × Str => row p.2) = row ∘ Prod.snd from rfl, ← List.map_map, List.map_snd_zip (by omega)]
  rw [em]
  refine lc_mapG (keep := fun _ => true) (f := fun p : Addr × Str => row p.2) (fun p => δ.set 5 (some (.ref p.1))) (smallL (by rw [List.length_zip]; omega)) trivial (fun x hx => rfl) (fun x hx => evT_yes) (fun x hx _ => ?_) ?_
  · intro R hR
    have hx5 : (δ.set 5 (some (D.ref x.1)))[5]? = some (some (.ref x.1)) := by rw [List.getElem?_set_self (by omega)]
    show dVar 5 _ G _
    unfold dVar
    rw [hx5]
    refine hk _ _ _ _ ⟨x.2, ?_⟩
    have hm := paired_zip hp x hx
    exact ⟨hm.1, hm.2, hR⟩
  · rw [filter_yes, en]
    exact h
def prRight (K : PySem.W.Frag) (x y : D) (G : GHp) (Q : DK) : Prop := Gd 10 K G x ∧ Gd 10 K G y ∧ ∀ G', Q (.bl true) G'
def sp_law_right (K : PySem.W.Frag) : DSp := sp2 fun x y G Q _ => prRight K x y G Q
theorem Gd.tag {n : Nat} {K : PySem.W.Frag} {G : GHp} {d : D} (h : Gd n K G d) : ∃ t, tgOf G d = some t ∧ (t = .lst → ∃ p ds, d = .ref p ∧ G p = some (.lst ds) ∧ flL n ds) := by
  rcases h with rfl | rfl | ⟨i, rfl⟩ | ⟨z, rfl, hz⟩ | ⟨p, ds, rfl, hp, f⟩ | ⟨z, q, ds, rfl, hz, hp, f⟩ | ⟨p, q, ds, rfl, hd, hq, f⟩ | ⟨p, fs, rfl, hp⟩
  · exact ⟨_, rfl, nofun⟩
  · exact ⟨_, rfl, nofun⟩
  · exact ⟨_, rfl, nofun⟩
  · exact ⟨_, rfl, nofun⟩
  · exact ⟨.lst, by unfold tgOf; simp only [hp], fun _ => ⟨p, ds, rfl, hp, f⟩⟩
  · exact ⟨_, rfl, nofun⟩
  · exact ⟨.dct, by unfold tgOf; rcases hd with hd | hd <;> simp only [hd], nofun⟩
  · exact ⟨.exc, by unfold tgOf; simp only [hp], nofun⟩
theorem made_ex {K : PySem.W.Frag} {G : GHp} {as : List Addr} {t m : D} (h : Made K G as t m) : Paired (fun a n => n ∈ names ∧ isEx K G n (.ref a)) as names := by
  unfold Made objs at h
  unfold names
  rcases h with _ | ⟨h1, h⟩
  rcases h with _ | ⟨h2, h⟩
  rcases h with _ | ⟨h3, h⟩
  rcases h with _ | ⟨h4, h⟩
  rcases h with _ | ⟨h5, h⟩
  rcases h with _ | ⟨h6, h⟩
  rcases h with _ | ⟨h7, h⟩
  rcases h with _ | ⟨h8, h⟩
  rcases h with _ | ⟨h9, h⟩
  rcases h with _ | ⟨h10, h⟩
  rcases h with _ | ⟨h11, h⟩
  rcases h with _ | ⟨h12, h⟩
  rcases h with _ | ⟨h13, h⟩
  rcases h with _ | ⟨h14, h⟩
  rcases h with _ | ⟨h15, h⟩
  rcases h with _ | ⟨h16, h⟩
  rcases h with _ | ⟨h17, h⟩
  rcases h with _ | ⟨h18, h⟩
  rcases h with _ | ⟨h19, h⟩
  rcases h with _ | ⟨h20, h⟩
  rcases h with _ | ⟨h21, h⟩
  rcases h with _ | ⟨h22, h⟩
  rcases h with _ | ⟨h23, h⟩
  rcases h with _ | ⟨h24, h⟩
  rcases h with _ | ⟨h25, h⟩
  rcases h with _ | ⟨h26, h⟩
  rcases h with _ | ⟨h27, h⟩
  rcases h with _ | ⟨h28, h⟩
  rcases h with _ | ⟨h29, h⟩
  rcases h with _ | ⟨h30, h⟩
  cases h
  exact .cons ⟨by decide +kernel, ⟨_, rfl, .inl ⟨_, h1⟩⟩⟩ (.cons ⟨by decide +kernel, ⟨_, rfl, .inl ⟨_, h2⟩⟩⟩ (.cons ⟨by decide +kernel, ⟨_, rfl, .inl ⟨_, h3⟩⟩⟩ (.cons ⟨by decide +kernel, ⟨_, rfl, .inl ⟨_, h4⟩⟩⟩ (.cons ⟨by decide +kernel, ⟨_, rfl, .inl ⟨_, h5⟩⟩⟩ (.cons ⟨by decide +kernel, ⟨_, rfl, .inl ⟨_, h6⟩⟩⟩ (.cons ⟨by decide +kernel, ⟨_, rfl, .inl ⟨_, h7⟩⟩⟩ (.cons ⟨by decide +kernel, ⟨_, rfl, .inl ⟨_, h8⟩⟩⟩ (.cons ⟨by decide +kernel, ⟨_, rfl, .inl ⟨_, h9⟩⟩⟩ (.cons ⟨by decide +kernel, ⟨_, rfl, .inl ⟨_, h10⟩⟩⟩ (.cons ⟨by decide +kernel, ⟨_, rfl, .inl ⟨_, h11⟩⟩⟩ (.cons ⟨by decide +kernel, ⟨_, rfl, .inl ⟨_, h12⟩⟩⟩ (.cons ⟨by decide +kernel, ⟨_, rfl, .inl ⟨_, h13⟩⟩⟩ (.cons ⟨by decide +kernel, ⟨_, rfl, .inl ⟨_, h14⟩⟩⟩ (.cons ⟨by decide +kernel, ⟨_, rfl, .inl ⟨_, h15⟩⟩⟩ (.cons ⟨by decide +kernel, ⟨_, rfl, .inl ⟨_, h16⟩⟩⟩ (.cons ⟨by decide +kernel, ⟨_, rfl, .inl ⟨_, h17⟩⟩⟩ (.cons ⟨by decide +kernel, ⟨_, rfl, .inl ⟨_, h18⟩⟩⟩ (.cons ⟨by decide +kernel, ⟨_, rfl, .inl ⟨_, h19⟩⟩⟩ (.cons ⟨by decide +kernel, ⟨_, rfl, .inl ⟨_, h20⟩⟩⟩ (.cons ⟨by decide +kernel, ⟨_, rfl, .inl ⟨_, h21⟩⟩⟩ (.cons ⟨by decide +kernel, ⟨_, rfl, .inl ⟨_, h22⟩⟩⟩ (.cons ⟨by decide +kernel, ⟨_, rfl, .inl ⟨_, h23⟩⟩⟩ (.cons ⟨by decide +kernel, ⟨_, rfl, .inl ⟨_, h24⟩⟩⟩ (.cons ⟨by decide +kernel, ⟨_, rfl, .inl ⟨_, h25⟩⟩⟩ (.cons ⟨by decide +kernel, ⟨_, rfl, .inl ⟨_, h26⟩⟩⟩ (.cons ⟨by decide +kernel, ⟨_, rfl, .inr h27⟩⟩ (.cons ⟨by decide +kernel, ⟨_, rfl, .inl ⟨_, h28⟩⟩⟩ (.cons ⟨by decide +kernel, ⟨_, rfl, .inl ⟨_, h29⟩⟩⟩ (.cons ⟨by decide +kernel, ⟨_, rfl, .inl ⟨_, h30⟩⟩⟩ (.nil))))))))))))))))))))))))))))))
theorem made_20 {K : PySem.W.Frag} {G : GHp} {as : List Addr} {t m : D} (h : Made K G as t m) : ∃ a, (as.map D.ref)[20]? = some (.ref a) ∧ G a = some (.exo (He.ga K "Crossed") [("other", m), ("one", t)]) := by
  unfold Made objs at h
  rcases h with _ | ⟨h1, h⟩
  rcases h with _ | ⟨h2, h⟩
  rcases h with _ | ⟨h3, h⟩
  rcases h with _ | ⟨h4, h⟩
  rcases h with _ | ⟨h5, h⟩
  rcases h with _ | ⟨h6, h⟩
  rcases h with _ | ⟨h7, h⟩
  rcases h with _ | ⟨h8, h⟩
  rcases h with _ | ⟨h9, h⟩
  rcases h with _ | ⟨h10, h⟩
  rcases h with _ | ⟨h11, h⟩
  rcases h with _ | ⟨h12, h⟩
  rcases h with _ | ⟨h13, h⟩
  rcases h with _ | ⟨h14, h⟩
  rcases h with _ | ⟨h15, h⟩
  rcases h with _ | ⟨h16, h⟩
  rcases h with _ | ⟨h17, h⟩
  rcases h with _ | ⟨h18, h⟩
  rcases h with _ | ⟨h19, h⟩
  rcases h with _ | ⟨h20, h⟩
  rcases h with _ | ⟨h21, h⟩
  rcases h with _ | ⟨h22, h⟩
  rcases h with _ | ⟨h23, h⟩
  rcases h with _ | ⟨h24, h⟩
  rcases h with _ | ⟨h25, h⟩
  rcases h with _ | ⟨h26, h⟩
  rcases h with _ | ⟨h27, h⟩
  rcases h with _ | ⟨h28, h⟩
  rcases h with _ | ⟨h29, h⟩
  rcases h with _ | ⟨h30, h⟩
  cases h
  exact ⟨_, rfl, h21⟩
theorem made_24 {K : PySem.W.Frag} {G : GHp} {as : List Addr} {t m : D} (h : Made K G as t m) : ∃ a, (as.map D.ref)[24]? = some (.ref a) ∧ G a = some (.exo (He.ga K "Fault") [("why", m), ("done", t)]) := by
  unfold Made objs at h
  rcases h with _ | ⟨h1, h⟩
  rcases h with _ | ⟨h2, h⟩
  rcases h with _ | ⟨h3, h⟩
  rcases h with _ | ⟨h4, h⟩
  rcases h with _ | ⟨h5, h⟩
  rcases h with _ | ⟨h6, h⟩
  rcases h with _ | ⟨h7, h⟩
  rcases h with _ | ⟨h8, h⟩
  rcases h with _ | ⟨h9, h⟩
  rcases h with _ | ⟨h10, h⟩
  rcases h with _ | ⟨h11, h⟩
  rcases h with _ | ⟨h12, h⟩
  rcases h with _ | ⟨h13, h⟩
  rcases h with _ | ⟨h14, h⟩
  rcases h with _ | ⟨h15, h⟩
  rcases h with _ | ⟨h16, h⟩
  rcases h with _ | ⟨h17, h⟩
  rcases h with _ | ⟨h18, h⟩
  rcases h with _ | ⟨h19, h⟩
  rcases h with _ | ⟨h20, h⟩
  rcases h with _ | ⟨h21, h⟩
  rcases h with _ | ⟨h22, h⟩
  rcases h with _ | ⟨h23, h⟩
  rcases h with _ | ⟨h24, h⟩
  rcases h with _ | ⟨h25, h⟩
  rcases h with _ | ⟨h26, h⟩
  rcases h with _ | ⟨h27, h⟩
  rcases h with _ | ⟨h28, h⟩
  rcases h with _ | ⟨h29, h⟩
  rcases h with _ | ⟨h30, h⟩
  cases h
  exact ⟨_, rfl, h25⟩
theorem Made.evo {c : Nat} {K : PySem.W.Frag} {G G' : GHp} {as : List Addr} {t m : D} (h : Made K G as t m) (e : Evo c G G') : Made K G' as t m := by
  unfold Made objs at h ⊢
  rcases h with _ | ⟨h1, h⟩
  rcases h with _ | ⟨h2, h⟩
  rcases h with _ | ⟨h3, h⟩
  rcases h with _ | ⟨h4, h⟩
  rcases h with _ | ⟨h5, h⟩
  rcases h with _ | ⟨h6, h⟩
  rcases h with _ | ⟨h7, h⟩
  rcases h with _ | ⟨h8, h⟩
  rcases h with _ | ⟨h9, h⟩
  rcases h with _ | ⟨h10, h⟩
  rcases h with _ | ⟨h11, h⟩
  rcases h with _ | ⟨h12, h⟩
  rcases h with _ | ⟨h13, h⟩
  rcases h with _ | ⟨h14, h⟩
  rcases h with _ | ⟨h15, h⟩
  rcases h with _ | ⟨h16, h⟩
  rcases h with _ | ⟨h17, h⟩
  rcases h with _ | ⟨h18, h⟩
  rcases h with _ | ⟨h19, h⟩
  rcases h with _ | ⟨h20, h⟩
  rcases h with _ | ⟨h21, h⟩
  rcases h with _ | ⟨h22, h⟩
  rcases h with _ | ⟨h23, h⟩
  rcases h with _ | ⟨h24, h⟩
  rcases h with _ | ⟨h25, h⟩
  rcases h with _ | ⟨h26, h⟩
  rcases h with _ | ⟨h27, h⟩
  rcases h with _ | ⟨h28, h⟩
  rcases h with _ | ⟨h29, h⟩
  rcases h with _ | ⟨h30, h⟩
  cases h
  exact .cons (e.x _ _ _ h1) (.cons (e.x _ _ _ h2) (.cons (e.x _ _ _ h3) (.cons (e.x _ _ _ h4) (.cons (e.x _ _ _ h5) (.cons (e.x _ _ _ h6) (.cons (e.x _ _ _ h7) (.cons (e.x _ _ _ h8) (.cons (e.x _ _ _ h9) (.cons (e.x _ _ _ h10) (.cons (e.x _ _ _ h11) (.cons (e.x _ _ _ h12) (.cons (e.x _ _ _ h13) (.cons (e.x _ _ _ h14) (.cons (e.x _ _ _ h15) (.cons (e.x _ _ _ h16) (.cons (e.x _ _ _ h17) (.cons (e.x _ _ _ h18) (.cons (e.x _ _ _ h19) (.cons (e.x _ _ _ h20) (.cons (e.x _ _ _ h21) (.cons (e.x _ _ _ h22) (.cons (e.x _ _ _ h23) (.cons (e.x _ _ _ h24) (.cons (e.x _ _ _ h25) (.cons (e.x _ _ _ h26) (.cons (e.n _ _ h27) (.cons (e.x _ _ _ h28) (.cons (e.x _ _ _ h29) (.cons (e.x _ _ _ h30) (.nil))))))))))))))))))))))))))))))
def t_tail (K : PySem.W.Frag) (sp_law_named sp_law_made sp_law_fields sp_law_grown sp_law_kinds : DSp) : DTS :=
  (dSeq (dAsg (dLst (dCons (dCall sp_law_made [] (dCons (dVar 0) (dCons (dVar 1) dNil))) (dCons (dCall sp_law_named [] (dCons (dVar 0) (dCons (dVar 1) dNil))) dNil))) (.nm 3))
  (dSeq (dAsg (dCall sp_law_fields [] (dCons (dOp dIxR (dVar 3) (dC (.int 1))) dNil)) (.nm 4))
  (dSeq (dIf (dTestB (dOp (dNeS K) (dVar 0) (dVar 2))) (dRet (dC (.bl false))) dNext)
  (dSeq (dDrop (dCall sp_law_grown [] (dCons (dVar 0) dNil)))
  (dSeq (dDrop (dCall sp_law_grown [] (dCons (dVar 1) dNil)))
  (dSeq (dIf (dOr (dTestB (dOp dNeB (dLc false (dSeqI (dVar 4)) (.nm 6) (dTestB (dOp (dNeS K) (dVar 6) (dVar 0))) (dVar 6) [6]) (dLst dNil))) (dOr (dTestB (dOp (dNeS K) (dFld K "other" (dOp dIxR (dOp dIxR (dVar 3) (dC (.int 1))) (dC (.int 20)))) (dVar 1))) (dTestB (dOp (dNeS K) (dFld K "why" (dOp dIxR (dOp dIxR (dVar 3) (dC (.int 1))) (dC (.int 24)))) (dVar 1))))) (dRet (dC (.bl false))) dNext)
  (dRet (dOp dEqB (dLc false (dSeqI (dOp dIxR (dVar 3) (dC (.int 0)))) (.nm 5) dYes (dCall sp_law_kinds [] (dCons (dVar 5) dNil)) [5]) (dLc false (dSeqI (dOp dIxR (dVar 3) (dC (.int 1)))) (.nm 5) dYes (dCall sp_law_kinds [] (dCons (dVar 5) dNil)) [5])))))))))
def t_tail2 (K : PySem.W.Frag) (sp_law_grown sp_law_kinds : DSp) : DTS :=
  (dSeq (dDrop (dCall sp_law_grown [] (dCons (dVar 0) dNil)))
  (dSeq (dDrop (dCall sp_law_grown [] (dCons (dVar 1) dNil)))
  (dSeq (dIf (dOr (dTestB (dOp dNeB (dLc false (dSeqI (dVar 4)) (.nm 6) (dTestB (dOp (dNeS K) (dVar 6) (dVar 0))) (dVar 6) [6]) (dLst dNil))) (dOr (dTestB (dOp (dNeS K) (dFld K "other" (dOp dIxR (dOp dIxR (dVar 3) (dC (.int 1))) (dC (.int 20)))) (dVar 1))) (dTestB (dOp (dNeS K) (dFld K "why" (dOp dIxR (dOp dIxR (dVar 3) (dC (.int 1))) (dC (.int 24)))) (dVar 1))))) (dRet (dC (.bl false))) dNext)
  (dRet (dOp dEqB (dLc false (dSeqI (dOp dIxR (dVar 3) (dC (.int 0)))) (.nm 5) dYes (dCall sp_law_kinds [] (dCons (dVar 5) dNil)) [5]) (dLc false (dSeqI (dOp dIxR (dVar 3) (dC (.int 1)))) (.nm 5) dYes (dCall sp_law_kinds [] (dCons (dVar 5) dNil)) [5]))))))
def t_tail3 (K : PySem.W.Frag) (sp_law_kinds : DSp) : DTS :=
  (dSeq (dIf (dOr (dTestB (dOp dNeB (dLc false (dSeqI (dVar 4)) (.nm 6) (dTestB (dOp (dNeS K) (dVar 6) (dVar 0))) (dVar 6) [6]) (dLst dNil))) (dOr (dTestB (dOp (dNeS K) (dFld K "other" (dOp dIxR (dOp dIxR (dVar 3) (dC (.int 1))) (dC (.int 20)))) (dVar 1))) (dTestB (dOp (dNeS K) (dFld K "why" (dOp dIxR (dOp dIxR (dVar 3) (dC (.int 1))) (dC (.int 24)))) (dVar 1))))) (dRet (dC (.bl false))) dNext)
  (dRet (dOp dEqB (dLc false (dSeqI (dOp dIxR (dVar 3) (dC (.int 0)))) (.nm 5) dYes (dCall sp_law_kinds [] (dCons (dVar 5) dNil)) [5]) (dLc false (dSeqI (dOp dIxR (dVar 3) (dC (.int 1)))) (.nm 5) dYes (dCall sp_law_kinds [] (dCons (dVar 5) dNil)) [5]))))
theorem SfF.run {K : PySem.W.Frag} {G : GHp} {x y : D} (h : SfF K G x y) {Q : DK} (q : Q (.bl false) G) : dNeS K x y G Q := by
  rcases h with h | ⟨a, e1, e2, h⟩
  · exact .inl ⟨true, h, q⟩
  · exact .inr ⟨a, e1, e2, h, q⟩
theorem evt_ne {K : PySem.W.Frag} {G : GHp} {δ : DSt} {ta tb : DTE} {x y : D} (h : SfF K G x y) (ha : Ev ta δ G x) (hb : Ev tb δ G y) : EvT (dTestB (dOp (dNeS K) ta tb)) δ G false := fun R q =>
  ha _ (hb _ (h.run (by exact q)))
theorem evt_or {G : GHp} {δ : DSt} {t u : DTT} (h : EvT t δ G false) (k : EvT u δ G false) : EvT (dOr t u) δ G false := fun R q => h _ (dIte_false (k _ q))
theorem lc_none {i n : Nat} {tt : DTT} {te : DTE} {δw : DSt} {t : D} {G : GHp} {Q : DK} (h : EvT tt (δw.set i (some t)) G false) (q : Q (.lst []) G) : dLcL false none (.nm i) tt te δw (List.replicate n t) [] G Q := by
  induction n with
  | zero => exact ⟨trivial, q⟩
  | succ n ih => exact ⟨trivial, h _ (dIte_false ih)⟩
theorem if_no {G : GHp} {δ : DSt} {c : DTT} {t u : DTS} {D0 : DEnds} (h : EvT c δ G false) (k : u D0 δ G) : dSeq (dIf c t dNext) u D0 δ G := h _ (dIte_false k)
theorem rd_rightG {K : PySem.W.Frag} (F : Flk K flds) (N : NeC K (He.ga K "NoName")) {sn sm sf sg sk : DSp} (hn : ∀ ds G Q E, sp_law_named K ds G Q E → sn ds G Q E) (hm : ∀ ds G Q E, sp_law_made K ds G Q E → sm ds G Q E)
    (hf : ∀ ds G Q E, sp_law_fields K ds G Q E → sf ds G Q E) (hg : ∀ ds G Q E, sp_law_grown K ds G Q E → sg ds G Q E) (hk : ∀ ds G Q E, sp_law_kinds K ds G Q E → sk ds G Q E) :
    ∀ x y G Q (E : DXK), prRight K x y G Q → DRun (t_law_right K sn sm sf sg sk) [some x, some y, none, none, none, none, none] G Q := by
  rintro t m G Q E ⟨gt, gm, h⟩
  obtain ⟨tg, ht, hl⟩ := gt.tag
  conv => whnf
  rw [ht]
  conv => whnf
  have key : ∀ s : D, (∀ G', (∀ p o, G p = some o → G' p = some o) → SfF K G' t s) → t_tail K sn sm sf sg sk { nx := fun _ G' => Q .non G', rt := Q } [some t, some m, some s, none, none, none, none] G := by
    intro s hS
    conv => whnf
    refine hm _ _ _ _ fun as1 G1 W1 => ?_
    conv => whnf
    refine hn _ _ _ _ fun as2 G2 W2 => ?_
    have o2 : ∀ p o, G p = some o → G2 p = some o := fun p o e => W2.old _ _ (W1.old _ _ e)
    have m1 : Made K G2 as1 t m := paired_imp (fun a o e => W2.old _ _ e) W1.new
    have m2 : Made K G2 as2 t m := W2.new
    conv => whnf
    refine ⟨smallL (by simp), ?_⟩
    conv => whnf
    refine hf _ _ _ _ ⟨as2, t, m, rfl, m2, ?_⟩
    conv => whnf
    have e2 : Evo 0 G G2 := .ext o2
    have rest : t_tail2 K sg sk { nx := fun _ G' => Q .non G', rt := Q } [some t, some m, some s, some (.lst [.lst (as1.map .ref), .lst (as2.map .ref)]), some (.lst (List.replicate 29 t)), none, none] G2 := by
      conv => whnf
      refine hg _ _ _ _ ⟨10, by decide, gt.evo e2, fun G3 e3 => ?_⟩
      conv => whnf
      refine hg _ _ _ _ ⟨11, by decide, gm.evo (e2.trans0 e3), fun G4 e4 => ?_⟩
      have ea : Evo 2 G G4 := e2.trans0 (e3.trans e4)
      have eb : Evo 2 G2 G4 := e3.trans e4
      have m1 := m1.evo eb
      have m2 := m2.evo eb
      have st := (gt.evo ea).self N
      have sm := (gm.evo ea).self N
      clear hS W1 W2 o2 e2 e3 e4 ea eb
      have r3 : t_tail3 K sk { nx := fun _ G' => Q .non G', rt := Q } [some t, some m, some s, some (.lst [.lst (as1.map .ref), .lst (as2.map .ref)]), some (.lst (List.replicate 29 t)), none, none] G4 := by
        unfold t_tail3
        refine if_no (evt_or ?_ (evt_or ?_ ?_)) ?_
        · intro R hR
          change dLcL false none (.nm 6) _ _ _ (List.replicate 29 t) [] G4 _
          refine lc_none (evt_ne st (fun R h => h) (fun R h => h)) ?_
          conv => whnf
          refine ⟨smallL (by simp), ?_⟩
          conv => whnf
          exact ⟨true, nil_eq, hR⟩
        · refine evt_ne sm (fun R hR => ?_) (fun R h => h)
          obtain ⟨a, ha, hc⟩ := made_20 m2
          conv => whnf
          refine atD_get (by decide) ?_ ha ?_
          · have := (List.getElem?_eq_some_iff.mp ha).1
            omega
          conv => whnf
          exact ⟨a, _, _, m, rfl, hc, (F ("Crossed", "other") (by decide +kernel)).1, (F ("Crossed", "other") (by decide +kernel)).2, lk3, hR⟩
        · refine evt_ne sm (fun R hR => ?_) (fun R h => h)
          obtain ⟨a, ha, hc⟩ := made_24 m2
          conv => whnf
          refine atD_get (by decide) ?_ ha ?_
          · have := (List.getElem?_eq_some_iff.mp ha).1
            omega
          conv => whnf
          exact ⟨a, _, _, m, rfl, hc, (F ("Fault", "why") (by decide +kernel)).1, (F ("Fault", "why") (by decide +kernel)).2, lk3, hR⟩
        · conv => whnf
          have z1 : as1.length ≤ 1000 := by rw [DL.Paired.len m1]; unfold objs; simp
          have z2 : as2.length ≤ 1000 := by rw [DL.Paired.len m2]; unfold objs; simp
          refine kinds_row hk (made_ex m1) z1 rfl ?_
          conv => whnf
          refine kinds_row hk (made_ex m2) z2 rfl ?_
          conv => whnf
          exact ⟨true, rows_eq names, h _⟩
      exact r3
    rcases hS G2 o2 with q | ⟨a, e1, e2, hh⟩
    · refine .inl ⟨true, q, ?_⟩
      conv => whnf
      refine ⟨fun e => ft e, fun _ => ?_⟩
      exact rest
    · refine .inr ⟨a, e1, e2, hh, ?_⟩
      conv => whnf
      refine ⟨fun e => ft e, fun _ => ?_⟩
      exact rest
  refine ⟨fun e => ?_, fun e => ?_⟩
  · have e : tg = .lst := by cases tg <;> first | rfl | exact (nomatch e)
    obtain ⟨p, ds, rfl, hp, f⟩ := hl e
    conv => whnf
    have es : sqOf G (.ref p) = some ds := lsOf_ref hp
    rw [es]
    conv => whnf
    refine key (.lst ds) fun G' o => .inl ?_
    obtain ⟨h1, h2⟩ := pd_flat (G := G') f.i
    exact self_eq (.ref (o _ _ hp) h1) (.lst h1) h2.list (by decide)
  · exact key t fun G' o => (gt.evo (.ext o : Evo 0 G G')).self N
theorem rd_law_right {K : PySem.W.Frag} (F : Flk K flds) (N : NeC K (He.ga K "NoName")) : ∀ x y G Q (E : DXK), prRight K x y G Q → DRun (t_law_right K (sp_law_named K) (sp_law_made K) (sp_law_fields K) (sp_law_grown K) (sp_law_kinds K)) [some x, some y, none, none, none, none, none] G Q :=
  rd_rightG F N (fun _ _ _ _ h => h) (fun _ _ _ _ h => h) (fun _ _ _ _ h => h) (fun _ _ _ _ h => h) fun _ _ _ _ h => h
abbrev sp_law : DSp := spLaw 63
theorem rd_lawG {K : PySem.W.Frag} {st sr : DSp} (ht : ∀ ds G Q E, sp_law_thing K ds G Q E → st ds G Q E) (hr : ∀ ds G Q E, sp_law_right K ds G Q E → sr ds G Q E) :
    ∀ a G Q (E : DXK), (∃ ns : List Int, a = D.scr (ns.map .int) ∧ ns.length ≤ 63 ∧ (∀ z ∈ ns, Builtin.Int.intBits z ≤ 1048576) ∧ (∀ a, G a = none) ∧ Q (.bl true) G) → DRun (t_law K sp_law_box sp_law_cell sr st) [some a, none, none] G Q := by
  rintro x G Q E ⟨ns, rfl, hsl, _, hG, h⟩
  have hml : (ns.map D.int).length = ns.length := List.length_map ..
  conv => whnf
  refine ⟨by unfold RgB; omega, ?_⟩
  refine for_ind (enc := fun (i : Nat) => D.int (0 + i)) (fun r δ G' => (∀ j ∈ r, j ≤ 100) ∧ ∃ o1 o2, δ = [some (.scr (ns.map .int)), o1, o2]) ?_ ?_ (List.range _) _ _
    ⟨fun j hj => by have := List.mem_range.mp hj; omega, _, _, rfl⟩
  · rintro δ G' ⟨_, o1, o2, rfl⟩
    refine ⟨trivial, ?_⟩
    conv => whnf
    refine ⟨_, G, View.tree (fun _ => True) (fun a _ => hG a) (fun a o e => by rw [hG] at e; cases e) (TreeSt.same _), ?_⟩
    exact h
  · rintro j r δ G' ⟨hj, o1, o2, rfl⟩
    have hj0 := hj j List.mem_cons_self
    refine ⟨trivial, _, rfl, fun N hN => ?_⟩
    conv => whnf
    refine ⟨ns, 0 + j, rfl, rfl, by omega, by omega, fun z => ?_⟩
    conv => whnf
    refine ⟨z, rfl, fun p s hp hs => ?_⟩
    have B : Bk (gupd G' p s.go) p 0 (gupd G' p s.go) := ⟨⟨s, gupd_same, hs⟩, fun b hb => rfl⟩
    conv => whnf
    generalize gupd G' p s.go = G1 at B ⊢
    refine th ht B (by omega) fun d1 G2 g1 e1 B2 => ?_
    conv => whnf
    refine th ht B2 (by omega) fun d2 G3 g2 e2 B3 => ?_
    conv => whnf
    refine hr _ _ _ _ ⟨g1.evo e2, g2, fun G4 => ?_⟩
    conv => whnf
    refine ⟨fun e => ft e, fun _ => ?_⟩
    conv => whnf
    exact hN _ _ ⟨fun j hj2 => hj j (List.mem_cons_of_mem _ hj2), _, _, rfl⟩
theorem rd_law {K : PySem.W.Frag} : ∀ a G Q (E : DXK), (∃ ns : List Int, a = D.scr (ns.map .int) ∧ ns.length ≤ 63 ∧ (∀ z ∈ ns, Builtin.Int.intBits z ≤ 1048576) ∧ (∀ a, G a = none) ∧ Q (.bl true) G) → DRun (t_law K sp_law_box sp_law_cell (sp_law_right K) (sp_law_thing K)) [some a, none, none] G Q := rd_lawG (fun _ _ _ _ h => h) fun _ _ _ _ h => h
end K04
set_option Elab.async false
set_option linter.all false
set_option maxRecDepth 100000
set_option maxHeartbeats 4000000
namespace K04
open PySem PySem.Spec L2 DL
def topS (i : Nat) : Stmt := PySem.Challenge.pw_hintscribe_k04_refusals_by_names.main.body.getD i (.Pass ⟨0, 0, 0, 0⟩)
abbrev s_law_box : Stmt := topS 36
abbrev N_law_box : List Str := ["cell"]
abbrev P_law_box : List Str := ["cell"]
theorem sc_law_box : FnScope N_law_box P_law_box (defScope s_law_box) := ⟨rfl, rfl, rfl, by decide +kernel, rfl, by decide +kernel, by decide +kernel⟩
abbrev s_law_cell : Stmt := topS 35
abbrev N_law_cell : List Str := ["script", "k"]
abbrev P_law_cell : List Str := ["script", "k"]
theorem sc_law_cell : FnScope N_law_cell P_law_cell (defScope s_law_cell) := ⟨rfl, rfl, rfl, by decide +kernel, rfl, by decide +kernel, by decide +kernel⟩
abbrev s_law_named : Stmt := topS 40
abbrev N_law_named : List Str := ["thing", "more", "rows"]
abbrev P_law_named : List Str := ["thing", "more"]
theorem sc_law_named : FnScope N_law_named P_law_named (defScope s_law_named) := ⟨rfl, rfl, rfl, by decide +kernel, rfl, by decide +kernel, by decide +kernel⟩
abbrev s_law_made : Stmt := topS 39
abbrev N_law_made : List Str := ["thing", "more", "rows"]
abbrev P_law_made : List Str := ["thing", "more"]
theorem sc_law_made : FnScope N_law_made P_law_made (defScope s_law_made) := ⟨rfl, rfl, rfl, by decide +kernel, rfl, by decide +kernel, by decide +kernel⟩
abbrev s_law_fields : Stmt := topS 41
abbrev N_law_fields : List Str := ["some", "rows", "few", "e"]
abbrev P_law_fields : List Str := ["some"]
theorem sc_law_fields : FnScope N_law_fields P_law_fields (defScope s_law_fields) := ⟨rfl, rfl, rfl, by decide +kernel, rfl, by decide +kernel, by decide +kernel⟩
abbrev s_law_grown : Stmt := topS 42
abbrev N_law_grown : List Str := ["thing"]
abbrev P_law_grown : List Str := ["thing"]
theorem sc_law_grown : FnScope N_law_grown P_law_grown (defScope s_law_grown) := ⟨rfl, rfl, rfl, by decide +kernel, rfl, by decide +kernel, by decide +kernel⟩
abbrev s_law_kinds : Stmt := topS 38
abbrev N_law_kinds : List Str := ["e", "rows"]
abbrev P_law_kinds : List Str := ["e"]
theorem sc_law_kinds : FnScope N_law_kinds P_law_kinds (defScope s_law_kinds) := ⟨rfl, rfl, rfl, by decide +kernel, rfl, by decide +kernel, by decide +kernel⟩
abbrev s_law_right : Stmt := topS 45
abbrev N_law_right : List Str := ["thing", "more", "stood", "both", "rows", "e", "each"]
abbrev P_law_right : List Str := ["thing", "more"]
theorem sc_law_right : FnScope N_law_right P_law_right (defScope s_law_right) := ⟨rfl, rfl, rfl, by decide +kernel, rfl, by decide +kernel, by decide +kernel⟩
abbrev s_law_take : Stmt := topS 37
abbrev N_law_take : List Str := ["box", "wide", "digit", "number"]
abbrev P_law_take : List Str := ["box", "wide"]
theorem sc_law_take : FnScope N_law_take P_law_take (defScope s_law_take) := ⟨rfl, rfl, rfl, by decide +kernel, rfl, by decide +kernel, by decide +kernel⟩
abbrev s_law_text : Stmt := topS 43
abbrev N_law_text : List Str := ["box", "k"]
abbrev P_law_text : List Str := ["box"]
theorem sc_law_text : FnScope N_law_text P_law_text (defScope s_law_text) := ⟨rfl, rfl, rfl, by decide +kernel, rfl, by decide +kernel, by decide +kernel⟩
abbrev s_law_thing : Stmt := topS 44
abbrev N_law_thing : List Str := ["box", "number", "text", "things"]
abbrev P_law_thing : List Str := ["box"]
theorem sc_law_thing : FnScope N_law_thing P_law_thing (defScope s_law_thing) := ⟨rfl, rfl, rfl, by decide +kernel, rfl, by decide +kernel, by decide +kernel⟩
abbrev s_law : Stmt := topS 46
abbrev N_law : List Str := ["script", "k", "box"]
abbrev P_law : List Str := ["script"]
theorem sc_law : FnScope N_law P_law (defScope s_law) := ⟨rfl, rfl, rfl, by decide +kernel, rfl, by decide +kernel, by decide +kernel⟩
def clsS (st : Stmt) (j : Nat) : Stmt := match st with
  | .ClassDef _ _ _ body _ _ _ _ _ _ _ => body.getD j (.Pass ⟨0, 0, 0, 0⟩)
  | s => s
abbrev si_NoWay : Stmt := clsS (topS 8) 0
abbrev Pi_NoWay : List Str := ["self", "found"]
theorem sci_NoWay : FnScope Pi_NoWay Pi_NoWay (defScope si_NoWay) := ⟨rfl, rfl, rfl, by decide +kernel, rfl, by decide +kernel, by decide +kernel⟩
abbrev si_NoPlace : Stmt := clsS (topS 7) 0
abbrev Pi_NoPlace : List Str := ["self", "found"]
theorem sci_NoPlace : FnScope Pi_NoPlace Pi_NoPlace (defScope si_NoPlace) := ⟨rfl, rfl, rfl, by decide +kernel, rfl, by decide +kernel, by decide +kernel⟩
abbrev si_NoText : Stmt := clsS (topS 6) 0
abbrev Pi_NoText : List Str := ["self", "found"]
theorem sci_NoText : FnScope Pi_NoText Pi_NoText (defScope si_NoText) := ⟨rfl, rfl, rfl, by decide +kernel, rfl, by decide +kernel, by decide +kernel⟩
abbrev si_NoName : Stmt := clsS (topS 5) 0
abbrev Pi_NoName : List Str := ["self", "found"]
theorem sci_NoName : FnScope Pi_NoName Pi_NoName (defScope si_NoName) := ⟨rfl, rfl, rfl, by decide +kernel, rfl, by decide +kernel, by decide +kernel⟩
abbrev si_NoNumber : Stmt := clsS (topS 4) 0
abbrev Pi_NoNumber : List Str := ["self", "found"]
theorem sci_NoNumber : FnScope Pi_NoNumber Pi_NoNumber (defScope si_NoNumber) := ⟨rfl, rfl, rfl, by decide +kernel, rfl, by decide +kernel, by decide +kernel⟩
abbrev si_NoProgram : Stmt := clsS (topS 12) 0
abbrev Pi_NoProgram : List Str := ["self", "found"]
theorem sci_NoProgram : FnScope Pi_NoProgram Pi_NoProgram (defScope si_NoProgram) := ⟨rfl, rfl, rfl, by decide +kernel, rfl, by decide +kernel, by decide +kernel⟩
abbrev si_NoPoint : Stmt := clsS (topS 11) 0
abbrev Pi_NoPoint : List Str := ["self", "found"]
theorem sci_NoPoint : FnScope Pi_NoPoint Pi_NoPoint (defScope si_NoPoint) := ⟨rfl, rfl, rfl, by decide +kernel, rfl, by decide +kernel, by decide +kernel⟩
abbrev si_NoOutline : Stmt := clsS (topS 10) 0
abbrev Pi_NoOutline : List Str := ["self", "found"]
theorem sci_NoOutline : FnScope Pi_NoOutline Pi_NoOutline (defScope si_NoOutline) := ⟨rfl, rfl, rfl, by decide +kernel, rfl, by decide +kernel, by decide +kernel⟩
abbrev si_NoRound : Stmt := clsS (topS 9) 0
abbrev Pi_NoRound : List Str := ["self", "found"]
theorem sci_NoRound : FnScope Pi_NoRound Pi_NoRound (defScope si_NoRound) := ⟨rfl, rfl, rfl, by decide +kernel, rfl, by decide +kernel, by decide +kernel⟩
abbrev si_NoLetter : Stmt := clsS (topS 16) 0
abbrev Pi_NoLetter : List Str := ["self", "found"]
theorem sci_NoLetter : FnScope Pi_NoLetter Pi_NoLetter (defScope si_NoLetter) := ⟨rfl, rfl, rfl, by decide +kernel, rfl, by decide +kernel, by decide +kernel⟩
abbrev si_NoWorths : Stmt := clsS (topS 15) 0
abbrev Pi_NoWorths : List Str := ["self", "found"]
theorem sci_NoWorths : FnScope Pi_NoWorths Pi_NoWorths (defScope si_NoWorths) := ⟨rfl, rfl, rfl, by decide +kernel, rfl, by decide +kernel, by decide +kernel⟩
abbrev si_NoFont : Stmt := clsS (topS 14) 0
abbrev Pi_NoFont : List Str := ["self", "found"]
theorem sci_NoFont : FnScope Pi_NoFont Pi_NoFont (defScope si_NoFont) := ⟨rfl, rfl, rfl, by decide +kernel, rfl, by decide +kernel, by decide +kernel⟩
abbrev si_NoWord : Stmt := clsS (topS 13) 0
abbrev Pi_NoWord : List Str := ["self", "found"]
theorem sci_NoWord : FnScope Pi_NoWord Pi_NoWord (defScope si_NoWord) := ⟨rfl, rfl, rfl, by decide +kernel, rfl, by decide +kernel, by decide +kernel⟩
abbrev si_NoCells : Stmt := clsS (topS 20) 0
abbrev Pi_NoCells : List Str := ["self", "found"]
theorem sci_NoCells : FnScope Pi_NoCells Pi_NoCells (defScope si_NoCells) := ⟨rfl, rfl, rfl, by decide +kernel, rfl, by decide +kernel, by decide +kernel⟩
abbrev si_NoZone : Stmt := clsS (topS 19) 0
abbrev Pi_NoZone : List Str := ["self", "found"]
theorem sci_NoZone : FnScope Pi_NoZone Pi_NoZone (defScope si_NoZone) := ⟨rfl, rfl, rfl, by decide +kernel, rfl, by decide +kernel, by decide +kernel⟩
abbrev si_NoSize : Stmt := clsS (topS 18) 0
abbrev Pi_NoSize : List Str := ["self", "found"]
theorem sci_NoSize : FnScope Pi_NoSize Pi_NoSize (defScope si_NoSize) := ⟨rfl, rfl, rfl, by decide +kernel, rfl, by decide +kernel, by decide +kernel⟩
abbrev si_NoParts : Stmt := clsS (topS 17) 0
abbrev Pi_NoParts : List Str := ["self", "found"]
theorem sci_NoParts : FnScope Pi_NoParts Pi_NoParts (defScope si_NoParts) := ⟨rfl, rfl, rfl, by decide +kernel, rfl, by decide +kernel, by decide +kernel⟩
abbrev si_Crossed : Stmt := clsS (topS 24) 0
abbrev Pi_Crossed : List Str := ["self", "one", "other"]
theorem sci_Crossed : FnScope Pi_Crossed Pi_Crossed (defScope si_Crossed) := ⟨rfl, rfl, rfl, by decide +kernel, rfl, by decide +kernel, by decide +kernel⟩
abbrev si_NoLimit : Stmt := clsS (topS 23) 0
abbrev Pi_NoLimit : List Str := ["self", "found"]
theorem sci_NoLimit : FnScope Pi_NoLimit Pi_NoLimit (defScope si_NoLimit) := ⟨rfl, rfl, rfl, by decide +kernel, rfl, by decide +kernel, by decide +kernel⟩
abbrev si_NoLine : Stmt := clsS (topS 22) 0
abbrev Pi_NoLine : List Str := ["self", "found"]
theorem sci_NoLine : FnScope Pi_NoLine Pi_NoLine (defScope si_NoLine) := ⟨rfl, rfl, rfl, by decide +kernel, rfl, by decide +kernel, by decide +kernel⟩
abbrev si_NoChoices : Stmt := clsS (topS 21) 0
abbrev Pi_NoChoices : List Str := ["self", "found"]
theorem sci_NoChoices : FnScope Pi_NoChoices Pi_NoChoices (defScope si_NoChoices) := ⟨rfl, rfl, rfl, by decide +kernel, rfl, by decide +kernel, by decide +kernel⟩
abbrev si_Fault : Stmt := clsS (topS 28) 0
abbrev Pi_Fault : List Str := ["self", "done", "why"]
theorem sci_Fault : FnScope Pi_Fault Pi_Fault (defScope si_Fault) := ⟨rfl, rfl, rfl, by decide +kernel, rfl, by decide +kernel, by decide +kernel⟩
abbrev si_NoRow : Stmt := clsS (topS 27) 0
abbrev Pi_NoRow : List Str := ["self", "at"]
theorem sci_NoRow : FnScope Pi_NoRow Pi_NoRow (defScope si_NoRow) := ⟨rfl, rfl, rfl, by decide +kernel, rfl, by decide +kernel, by decide +kernel⟩
abbrev si_Deep : Stmt := clsS (topS 26) 0
abbrev Pi_Deep : List Str := ["self", "at"]
theorem sci_Deep : FnScope Pi_Deep Pi_Deep (defScope si_Deep) := ⟨rfl, rfl, rfl, by decide +kernel, rfl, by decide +kernel, by decide +kernel⟩
abbrev si_TooMany : Stmt := clsS (topS 25) 0
abbrev Pi_TooMany : List Str := ["self", "many"]
theorem sci_TooMany : FnScope Pi_TooMany Pi_TooMany (defScope si_TooMany) := ⟨rfl, rfl, rfl, by decide +kernel, rfl, by decide +kernel, by decide +kernel⟩
abbrev si_NoSuch : Stmt := clsS (topS 32) 0
abbrev Pi_NoSuch : List Str := ["self", "found"]
theorem sci_NoSuch : FnScope Pi_NoSuch Pi_NoSuch (defScope si_NoSuch) := ⟨rfl, rfl, rfl, by decide +kernel, rfl, by decide +kernel, by decide +kernel⟩
abbrev si_NoDefinition : Stmt := clsS (topS 31) 0
abbrev Pi_NoDefinition : List Str := ["self", "found"]
theorem sci_NoDefinition : FnScope Pi_NoDefinition Pi_NoDefinition (defScope si_NoDefinition) := ⟨rfl, rfl, rfl, by decide +kernel, rfl, by decide +kernel, by decide +kernel⟩
abbrev si_Unready : Stmt := clsS (topS 30) 0
abbrev Pi_Unready : List Str := ["self"]
theorem sci_Unready : FnScope Pi_Unready Pi_Unready (defScope si_Unready) := ⟨rfl, rfl, rfl, by decide +kernel, rfl, by decide +kernel, by decide +kernel⟩
abbrev si_NoEntry : Stmt := clsS (topS 29) 0
abbrev Pi_NoEntry : List Str := ["self", "found"]
theorem sci_NoEntry : FnScope Pi_NoEntry Pi_NoEntry (defScope si_NoEntry) := ⟨rfl, rfl, rfl, by decide +kernel, rfl, by decide +kernel, by decide +kernel⟩
abbrev si_NoBase : Stmt := clsS (topS 33) 0
abbrev Pi_NoBase : List Str := ["self", "found"]
theorem sci_NoBase : FnScope Pi_NoBase Pi_NoBase (defScope si_NoBase) := ⟨rfl, rfl, rfl, by decide +kernel, rfl, by decide +kernel, by decide +kernel⟩
/-- what the top has left -/
structure Tx (K : PySem.W.Frag) (mg : Str → Option Value) where
  law_box : FnT K mg "_law_box" s_law_box P_law_box
  law_cell : FnT K mg "_law_cell" s_law_cell P_law_cell
  law_named : FnT K mg "_law_named" s_law_named P_law_named
  law_made : FnT K mg "_law_made" s_law_made P_law_made
  law_fields : FnT K mg "_law_fields" s_law_fields P_law_fields
  law_grown : FnT K mg "_law_grown" s_law_grown P_law_grown
  law_kinds : FnT K mg "_law_kinds" s_law_kinds P_law_kinds
  law_right : FnT K mg "_law_right" s_law_right P_law_right
  law_take : FnT K mg "_law_take" s_law_take P_law_take
  law_text : FnT K mg "_law_text" s_law_text P_law_text
  law_thing : FnT K mg "_law_thing" s_law_thing P_law_thing
  n_dict : mg "dict" = none
  n_isinstance : mg "isinstance" = none
  n_len : mg "len" = none
  n_list : mg "list" = none
  n_max : mg "max" = none
  n_min : mg "min" = none
  n_range : mg "range" = none
  n_tuple : mg "tuple" = none
  xb_FontError : XBs K mg "FontError" "ValueError.__init__"
  xb_Unknown : XBs K mg "Unknown" "KeyError.__init__"
  xb_Missing : XBs K mg "Missing" "LookupError.__init__"
  n_ZeroDivisionError : mg "ZeroDivisionError" = none
  xz_ZeroDivisionError : PySem.W.findCls K (.type "ZeroDivisionError") (.type "type") "__init__" = some (.val (.builtin "ZeroDivisionError.__init__"))
  x_NoWay : XG K mg "NoWay" ["found"] "ValueError.__init__"
  i_NoWay_fd : FuncData
  i_NoWay_F : FunD K "__init__" "NoWay.__init__" (defArgs si_NoWay) (defBody si_NoWay) (defScope si_NoWay) [] [] (He.fAd K ("NoWay", some "__init__")) i_NoWay_fd
  i_NoWay_kb0 : KBn K i_NoWay_fd Pi_NoWay (0 + 1) ["found"] (kperm (0 :: [0].map (· + 1))) (kperm (0 :: [0].map (· + 1)))
  i_NoWay_kb1 : KBn K i_NoWay_fd Pi_NoWay (1 + 1) [] (kperm (0 :: [0].map (· + 1))) (kperm (0 :: [0].map (· + 1)))
  x_NoPlace : XG K mg "NoPlace" ["found"] "ValueError.__init__"
  i_NoPlace_fd : FuncData
  i_NoPlace_F : FunD K "__init__" "NoPlace.__init__" (defArgs si_NoPlace) (defBody si_NoPlace) (defScope si_NoPlace) [] [] (He.fAd K ("NoPlace", some "__init__")) i_NoPlace_fd
  i_NoPlace_kb0 : KBn K i_NoPlace_fd Pi_NoPlace (0 + 1) ["found"] (kperm (0 :: [0].map (· + 1))) (kperm (0 :: [0].map (· + 1)))
  i_NoPlace_kb1 : KBn K i_NoPlace_fd Pi_NoPlace (1 + 1) [] (kperm (0 :: [0].map (· + 1))) (kperm (0 :: [0].map (· + 1)))
  x_NoText : XG K mg "NoText" ["found"] "ValueError.__init__"
  i_NoText_fd : FuncData
  i_NoText_F : FunD K "__init__" "NoText.__init__" (defArgs si_NoText) (defBody si_NoText) (defScope si_NoText) [] [] (He.fAd K ("NoText", some "__init__")) i_NoText_fd
  i_NoText_kb0 : KBn K i_NoText_fd Pi_NoText (0 + 1) ["found"] (kperm (0 :: [0].map (· + 1))) (kperm (0 :: [0].map (· + 1)))
  i_NoText_kb1 : KBn K i_NoText_fd Pi_NoText (1 + 1) [] (kperm (0 :: [0].map (· + 1))) (kperm (0 :: [0].map (· + 1)))
  x_NoName : XG K mg "NoName" ["found"] "ValueError.__init__"
  i_NoName_fd : FuncData
  i_NoName_F : FunD K "__init__" "NoName.__init__" (defArgs si_NoName) (defBody si_NoName) (defScope si_NoName) [] [] (He.fAd K ("NoName", some "__init__")) i_NoName_fd
  i_NoName_kb0 : KBn K i_NoName_fd Pi_NoName (0 + 1) ["found"] (kperm (0 :: [0].map (· + 1))) (kperm (0 :: [0].map (· + 1)))
  i_NoName_kb1 : KBn K i_NoName_fd Pi_NoName (1 + 1) [] (kperm (0 :: [0].map (· + 1))) (kperm (0 :: [0].map (· + 1)))
  x_NoNumber : XG K mg "NoNumber" ["found"] "ValueError.__init__"
  i_NoNumber_fd : FuncData
  i_NoNumber_F : FunD K "__init__" "NoNumber.__init__" (defArgs si_NoNumber) (defBody si_NoNumber) (defScope si_NoNumber) [] [] (He.fAd K ("NoNumber", some "__init__")) i_NoNumber_fd
  i_NoNumber_kb0 : KBn K i_NoNumber_fd Pi_NoNumber (0 + 1) ["found"] (kperm (0 :: [0].map (· + 1))) (kperm (0 :: [0].map (· + 1)))
  i_NoNumber_kb1 : KBn K i_NoNumber_fd Pi_NoNumber (1 + 1) [] (kperm (0 :: [0].map (· + 1))) (kperm (0 :: [0].map (· + 1)))
  x_NoProgram : XG K mg "NoProgram" ["found"] "ValueError.__init__"
  i_NoProgram_fd : FuncData
  i_NoProgram_F : FunD K "__init__" "NoProgram.__init__" (defArgs si_NoProgram) (defBody si_NoProgram) (defScope si_NoProgram) [] [] (He.fAd K ("NoProgram", some "__init__")) i_NoProgram_fd
  i_NoProgram_kb0 : KBn K i_NoProgram_fd Pi_NoProgram (0 + 1) ["found"] (kperm (0 :: [0].map (· + 1))) (kperm (0 :: [0].map (· + 1)))
  i_NoProgram_kb1 : KBn K i_NoProgram_fd Pi_NoProgram (1 + 1) [] (kperm (0 :: [0].map (· + 1))) (kperm (0 :: [0].map (· + 1)))
  x_NoPoint : XG K mg "NoPoint" ["found"] "ValueError.__init__"
  i_NoPoint_fd : FuncData
  i_NoPoint_F : FunD K "__init__" "NoPoint.__init__" (defArgs si_NoPoint) (defBody si_NoPoint) (defScope si_NoPoint) [] [] (He.fAd K ("NoPoint", some "__init__")) i_NoPoint_fd
  i_NoPoint_kb0 : KBn K i_NoPoint_fd Pi_NoPoint (0 + 1) ["found"] (kperm (0 :: [0].map (· + 1))) (kperm (0 :: [0].map (· + 1)))
  i_NoPoint_kb1 : KBn K i_NoPoint_fd Pi_NoPoint (1 + 1) [] (kperm (0 :: [0].map (· + 1))) (kperm (0 :: [0].map (· + 1)))
  x_NoOutline : XG K mg "NoOutline" ["found"] "ValueError.__init__"
  i_NoOutline_fd : FuncData
  i_NoOutline_F : FunD K "__init__" "NoOutline.__init__" (defArgs si_NoOutline) (defBody si_NoOutline) (defScope si_NoOutline) [] [] (He.fAd K ("NoOutline", some "__init__")) i_NoOutline_fd
  i_NoOutline_kb0 : KBn K i_NoOutline_fd Pi_NoOutline (0 + 1) ["found"] (kperm (0 :: [0].map (· + 1))) (kperm (0 :: [0].map (· + 1)))
  i_NoOutline_kb1 : KBn K i_NoOutline_fd Pi_NoOutline (1 + 1) [] (kperm (0 :: [0].map (· + 1))) (kperm (0 :: [0].map (· + 1)))
  x_NoRound : XG K mg "NoRound" ["found"] "ValueError.__init__"
  i_NoRound_fd : FuncData
  i_NoRound_F : FunD K "__init__" "NoRound.__init__" (defArgs si_NoRound) (defBody si_NoRound) (defScope si_NoRound) [] [] (He.fAd K ("NoRound", some "__init__")) i_NoRound_fd
  i_NoRound_kb0 : KBn K i_NoRound_fd Pi_NoRound (0 + 1) ["found"] (kperm (0 :: [0].map (· + 1))) (kperm (0 :: [0].map (· + 1)))
  i_NoRound_kb1 : KBn K i_NoRound_fd Pi_NoRound (1 + 1) [] (kperm (0 :: [0].map (· + 1))) (kperm (0 :: [0].map (· + 1)))
  x_NoLetter : XG K mg "NoLetter" ["found"] "ValueError.__init__"
  i_NoLetter_fd : FuncData
  i_NoLetter_F : FunD K "__init__" "NoLetter.__init__" (defArgs si_NoLetter) (defBody si_NoLetter) (defScope si_NoLetter) [] [] (He.fAd K ("NoLetter", some "__init__")) i_NoLetter_fd
  i_NoLetter_kb0 : KBn K i_NoLetter_fd Pi_NoLetter (0 + 1) ["found"] (kperm (0 :: [0].map (· + 1))) (kperm (0 :: [0].map (· + 1)))
  i_NoLetter_kb1 : KBn K i_NoLetter_fd Pi_NoLetter (1 + 1) [] (kperm (0 :: [0].map (· + 1))) (kperm (0 :: [0].map (· + 1)))
  x_NoWorths : XG K mg "NoWorths" ["found"] "ValueError.__init__"
  i_NoWorths_fd : FuncData
  i_NoWorths_F : FunD K "__init__" "NoWorths.__init__" (defArgs si_NoWorths) (defBody si_NoWorths) (defScope si_NoWorths) [] [] (He.fAd K ("NoWorths", some "__init__")) i_NoWorths_fd
  i_NoWorths_kb0 : KBn K i_NoWorths_fd Pi_NoWorths (0 + 1) ["found"] (kperm (0 :: [0].map (· + 1))) (kperm (0 :: [0].map (· + 1)))
  i_NoWorths_kb1 : KBn K i_NoWorths_fd Pi_NoWorths (1 + 1) [] (kperm (0 :: [0].map (· + 1))) (kperm (0 :: [0].map (· + 1)))
  x_NoFont : XG K mg "NoFont" ["found"] "ValueError.__init__"
  i_NoFont_fd : FuncData
  i_NoFont_F : FunD K "__init__" "NoFont.__init__" (defArgs si_NoFont) (defBody si_NoFont) (defScope si_NoFont) [] [] (He.fAd K ("NoFont", some "__init__")) i_NoFont_fd
  i_NoFont_kb0 : KBn K i_NoFont_fd Pi_NoFont (0 + 1) ["found"] (kperm (0 :: [0].map (· + 1))) (kperm (0 :: [0].map (· + 1)))
  i_NoFont_kb1 : KBn K i_NoFont_fd Pi_NoFont (1 + 1) [] (kperm (0 :: [0].map (· + 1))) (kperm (0 :: [0].map (· + 1)))
  x_NoWord : XG K mg "NoWord" ["found"] "ValueError.__init__"
  i_NoWord_fd : FuncData
  i_NoWord_F : FunD K "__init__" "NoWord.__init__" (defArgs si_NoWord) (defBody si_NoWord) (defScope si_NoWord) [] [] (He.fAd K ("NoWord", some "__init__")) i_NoWord_fd
  i_NoWord_kb0 : KBn K i_NoWord_fd Pi_NoWord (0 + 1) ["found"] (kperm (0 :: [0].map (· + 1))) (kperm (0 :: [0].map (· + 1)))
  i_NoWord_kb1 : KBn K i_NoWord_fd Pi_NoWord (1 + 1) [] (kperm (0 :: [0].map (· + 1))) (kperm (0 :: [0].map (· + 1)))
  x_NoCells : XG K mg "NoCells" ["found"] "ValueError.__init__"
  i_NoCells_fd : FuncData
  i_NoCells_F : FunD K "__init__" "NoCells.__init__" (defArgs si_NoCells) (defBody si_NoCells) (defScope si_NoCells) [] [] (He.fAd K ("NoCells", some "__init__")) i_NoCells_fd
  i_NoCells_kb0 : KBn K i_NoCells_fd Pi_NoCells (0 + 1) ["found"] (kperm (0 :: [0].map (· + 1))) (kperm (0 :: [0].map (· + 1)))
  i_NoCells_kb1 : KBn K i_NoCells_fd Pi_NoCells (1 + 1) [] (kperm (0 :: [0].map (· + 1))) (kperm (0 :: [0].map (· + 1)))
  x_NoZone : XG K mg "NoZone" ["found"] "ValueError.__init__"
  i_NoZone_fd : FuncData
  i_NoZone_F : FunD K "__init__" "NoZone.__init__" (defArgs si_NoZone) (defBody si_NoZone) (defScope si_NoZone) [] [] (He.fAd K ("NoZone", some "__init__")) i_NoZone_fd
  i_NoZone_kb0 : KBn K i_NoZone_fd Pi_NoZone (0 + 1) ["found"] (kperm (0 :: [0].map (· + 1))) (kperm (0 :: [0].map (· + 1)))
  i_NoZone_kb1 : KBn K i_NoZone_fd Pi_NoZone (1 + 1) [] (kperm (0 :: [0].map (· + 1))) (kperm (0 :: [0].map (· + 1)))
  x_NoSize : XG K mg "NoSize" ["found"] "ValueError.__init__"
  i_NoSize_fd : FuncData
  i_NoSize_F : FunD K "__init__" "NoSize.__init__" (defArgs si_NoSize) (defBody si_NoSize) (defScope si_NoSize) [] [] (He.fAd K ("NoSize", some "__init__")) i_NoSize_fd
  i_NoSize_kb0 : KBn K i_NoSize_fd Pi_NoSize (0 + 1) ["found"] (kperm (0 :: [0].map (· + 1))) (kperm (0 :: [0].map (· + 1)))
  i_NoSize_kb1 : KBn K i_NoSize_fd Pi_NoSize (1 + 1) [] (kperm (0 :: [0].map (· + 1))) (kperm (0 :: [0].map (· + 1)))
  x_NoParts : XG K mg "NoParts" ["found"] "ValueError.__init__"
  i_NoParts_fd : FuncData
  i_NoParts_F : FunD K "__init__" "NoParts.__init__" (defArgs si_NoParts) (defBody si_NoParts) (defScope si_NoParts) [] [] (He.fAd K ("NoParts", some "__init__")) i_NoParts_fd
  i_NoParts_kb0 : KBn K i_NoParts_fd Pi_NoParts (0 + 1) ["found"] (kperm (0 :: [0].map (· + 1))) (kperm (0 :: [0].map (· + 1)))
  i_NoParts_kb1 : KBn K i_NoParts_fd Pi_NoParts (1 + 1) [] (kperm (0 :: [0].map (· + 1))) (kperm (0 :: [0].map (· + 1)))
  x_Crossed : XG K mg "Crossed" ["one", "other"] "ValueError.__init__"
  i_Crossed_fd : FuncData
  i_Crossed_F : FunD K "__init__" "Crossed.__init__" (defArgs si_Crossed) (defBody si_Crossed) (defScope si_Crossed) [] [] (He.fAd K ("Crossed", some "__init__")) i_Crossed_fd
  i_Crossed_kb0 : KBn K i_Crossed_fd Pi_Crossed (0 + 1) ["other", "one"] (kperm (0 :: [1, 0].map (· + 1))) (kperm (0 :: [1, 0].map (· + 1)))
  i_Crossed_kb1 : KBn K i_Crossed_fd Pi_Crossed (2 + 1) [] (kperm (0 :: [0, 1].map (· + 1))) (kperm (0 :: [0, 1].map (· + 1)))
  x_NoLimit : XG K mg "NoLimit" ["found"] "ValueError.__init__"
  i_NoLimit_fd : FuncData
  i_NoLimit_F : FunD K "__init__" "NoLimit.__init__" (defArgs si_NoLimit) (defBody si_NoLimit) (defScope si_NoLimit) [] [] (He.fAd K ("NoLimit", some "__init__")) i_NoLimit_fd
  i_NoLimit_kb0 : KBn K i_NoLimit_fd Pi_NoLimit (0 + 1) ["found"] (kperm (0 :: [0].map (· + 1))) (kperm (0 :: [0].map (· + 1)))
  i_NoLimit_kb1 : KBn K i_NoLimit_fd Pi_NoLimit (1 + 1) [] (kperm (0 :: [0].map (· + 1))) (kperm (0 :: [0].map (· + 1)))
  x_NoLine : XG K mg "NoLine" ["found"] "ValueError.__init__"
  i_NoLine_fd : FuncData
  i_NoLine_F : FunD K "__init__" "NoLine.__init__" (defArgs si_NoLine) (defBody si_NoLine) (defScope si_NoLine) [] [] (He.fAd K ("NoLine", some "__init__")) i_NoLine_fd
  i_NoLine_kb0 : KBn K i_NoLine_fd Pi_NoLine (0 + 1) ["found"] (kperm (0 :: [0].map (· + 1))) (kperm (0 :: [0].map (· + 1)))
  i_NoLine_kb1 : KBn K i_NoLine_fd Pi_NoLine (1 + 1) [] (kperm (0 :: [0].map (· + 1))) (kperm (0 :: [0].map (· + 1)))
  x_NoChoices : XG K mg "NoChoices" ["found"] "ValueError.__init__"
  i_NoChoices_fd : FuncData
  i_NoChoices_F : FunD K "__init__" "NoChoices.__init__" (defArgs si_NoChoices) (defBody si_NoChoices) (defScope si_NoChoices) [] [] (He.fAd K ("NoChoices", some "__init__")) i_NoChoices_fd
  i_NoChoices_kb0 : KBn K i_NoChoices_fd Pi_NoChoices (0 + 1) ["found"] (kperm (0 :: [0].map (· + 1))) (kperm (0 :: [0].map (· + 1)))
  i_NoChoices_kb1 : KBn K i_NoChoices_fd Pi_NoChoices (1 + 1) [] (kperm (0 :: [0].map (· + 1))) (kperm (0 :: [0].map (· + 1)))
  x_Fault : XG K mg "Fault" ["done", "why"] "ValueError.__init__"
  i_Fault_fd : FuncData
  i_Fault_F : FunD K "__init__" "Fault.__init__" (defArgs si_Fault) (defBody si_Fault) (defScope si_Fault) [] [] (He.fAd K ("Fault", some "__init__")) i_Fault_fd
  i_Fault_kb0 : KBn K i_Fault_fd Pi_Fault (0 + 1) ["why", "done"] (kperm (0 :: [1, 0].map (· + 1))) (kperm (0 :: [1, 0].map (· + 1)))
  i_Fault_kb1 : KBn K i_Fault_fd Pi_Fault (2 + 1) [] (kperm (0 :: [0, 1].map (· + 1))) (kperm (0 :: [0, 1].map (· + 1)))
  x_NoRow : XG K mg "NoRow" ["at"] "ValueError.__init__"
  i_NoRow_fd : FuncData
  i_NoRow_F : FunD K "__init__" "NoRow.__init__" (defArgs si_NoRow) (defBody si_NoRow) (defScope si_NoRow) [] [] (He.fAd K ("NoRow", some "__init__")) i_NoRow_fd
  i_NoRow_kb0 : KBn K i_NoRow_fd Pi_NoRow (0 + 1) ["at"] (kperm (0 :: [0].map (· + 1))) (kperm (0 :: [0].map (· + 1)))
  i_NoRow_kb1 : KBn K i_NoRow_fd Pi_NoRow (1 + 1) [] (kperm (0 :: [0].map (· + 1))) (kperm (0 :: [0].map (· + 1)))
  x_Deep : XG K mg "Deep" ["at"] "ValueError.__init__"
  i_Deep_fd : FuncData
  i_Deep_F : FunD K "__init__" "Deep.__init__" (defArgs si_Deep) (defBody si_Deep) (defScope si_Deep) [] [] (He.fAd K ("Deep", some "__init__")) i_Deep_fd
  i_Deep_kb0 : KBn K i_Deep_fd Pi_Deep (0 + 1) ["at"] (kperm (0 :: [0].map (· + 1))) (kperm (0 :: [0].map (· + 1)))
  i_Deep_kb1 : KBn K i_Deep_fd Pi_Deep (1 + 1) [] (kperm (0 :: [0].map (· + 1))) (kperm (0 :: [0].map (· + 1)))
  x_TooMany : XG K mg "TooMany" ["many"] "ValueError.__init__"
  i_TooMany_fd : FuncData
  i_TooMany_F : FunD K "__init__" "TooMany.__init__" (defArgs si_TooMany) (defBody si_TooMany) (defScope si_TooMany) [] [] (He.fAd K ("TooMany", some "__init__")) i_TooMany_fd
  i_TooMany_kb0 : KBn K i_TooMany_fd Pi_TooMany (0 + 1) ["many"] (kperm (0 :: [0].map (· + 1))) (kperm (0 :: [0].map (· + 1)))
  i_TooMany_kb1 : KBn K i_TooMany_fd Pi_TooMany (1 + 1) [] (kperm (0 :: [0].map (· + 1))) (kperm (0 :: [0].map (· + 1)))
  x_NoSuch : XG K mg "NoSuch" ["found"] "KeyError.__init__"
  i_NoSuch_fd : FuncData
  i_NoSuch_F : FunD K "__init__" "NoSuch.__init__" (defArgs si_NoSuch) (defBody si_NoSuch) (defScope si_NoSuch) [] [] (He.fAd K ("NoSuch", some "__init__")) i_NoSuch_fd
  i_NoSuch_kb0 : KBn K i_NoSuch_fd Pi_NoSuch (0 + 1) ["found"] (kperm (0 :: [0].map (· + 1))) (kperm (0 :: [0].map (· + 1)))
  i_NoSuch_kb1 : KBn K i_NoSuch_fd Pi_NoSuch (1 + 1) [] (kperm (0 :: [0].map (· + 1))) (kperm (0 :: [0].map (· + 1)))
  x_NoDefinition : XG K mg "NoDefinition" ["found"] "KeyError.__init__"
  i_NoDefinition_fd : FuncData
  i_NoDefinition_F : FunD K "__init__" "NoDefinition.__init__" (defArgs si_NoDefinition) (defBody si_NoDefinition) (defScope si_NoDefinition) [] [] (He.fAd K ("NoDefinition", some "__init__")) i_NoDefinition_fd
  i_NoDefinition_kb0 : KBn K i_NoDefinition_fd Pi_NoDefinition (0 + 1) ["found"] (kperm (0 :: [0].map (· + 1))) (kperm (0 :: [0].map (· + 1)))
  i_NoDefinition_kb1 : KBn K i_NoDefinition_fd Pi_NoDefinition (1 + 1) [] (kperm (0 :: [0].map (· + 1))) (kperm (0 :: [0].map (· + 1)))
  x_Unready : XG K mg "Unready" [] "LookupError.__init__"
  i_Unready_fd : FuncData
  i_Unready_F : FunD K "__init__" "Unready.__init__" (defArgs si_Unready) (defBody si_Unready) (defScope si_Unready) [] [] (He.fAd K ("Unready", some "__init__")) i_Unready_fd
  i_Unready_kb0 : KBn K i_Unready_fd Pi_Unready (0 + 1) [] (kperm (0 :: [].map (· + 1))) (kperm (0 :: [].map (· + 1)))
  x_NoEntry : XG K mg "NoEntry" ["found"] "LookupError.__init__"
  i_NoEntry_fd : FuncData
  i_NoEntry_F : FunD K "__init__" "NoEntry.__init__" (defArgs si_NoEntry) (defBody si_NoEntry) (defScope si_NoEntry) [] [] (He.fAd K ("NoEntry", some "__init__")) i_NoEntry_fd
  i_NoEntry_kb0 : KBn K i_NoEntry_fd Pi_NoEntry (0 + 1) ["found"] (kperm (0 :: [0].map (· + 1))) (kperm (0 :: [0].map (· + 1)))
  i_NoEntry_kb1 : KBn K i_NoEntry_fd Pi_NoEntry (1 + 1) [] (kperm (0 :: [0].map (· + 1))) (kperm (0 :: [0].map (· + 1)))
  x_NoBase : XG K mg "NoBase" ["found"] "ZeroDivisionError.__init__"
  i_NoBase_fd : FuncData
  i_NoBase_F : FunD K "__init__" "NoBase.__init__" (defArgs si_NoBase) (defBody si_NoBase) (defScope si_NoBase) [] [] (He.fAd K ("NoBase", some "__init__")) i_NoBase_fd
  i_NoBase_kb0 : KBn K i_NoBase_fd Pi_NoBase (0 + 1) ["found"] (kperm (0 :: [0].map (· + 1))) (kperm (0 :: [0].map (· + 1)))
  i_NoBase_kb1 : KBn K i_NoBase_fd Pi_NoBase (1 + 1) [] (kperm (0 :: [0].map (· + 1))) (kperm (0 :: [0].map (· + 1)))
  m_NoText : mg "NoText" = some (.ref (He.ga K "NoText"))
  m_NoName : mg "NoName" = some (.ref (He.ga K "NoName"))
  m_NoNumber : mg "NoNumber" = some (.ref (He.ga K "NoNumber"))
  m_NoRound : mg "NoRound" = some (.ref (He.ga K "NoRound"))
  m_NoWay : mg "NoWay" = some (.ref (He.ga K "NoWay"))
  m_NoPlace : mg "NoPlace" = some (.ref (He.ga K "NoPlace"))
  m_NoProgram : mg "NoProgram" = some (.ref (He.ga K "NoProgram"))
  m_NoPoint : mg "NoPoint" = some (.ref (He.ga K "NoPoint"))
  m_NoOutline : mg "NoOutline" = some (.ref (He.ga K "NoOutline"))
  m_NoWorths : mg "NoWorths" = some (.ref (He.ga K "NoWorths"))
  m_NoFont : mg "NoFont" = some (.ref (He.ga K "NoFont"))
  m_NoWord : mg "NoWord" = some (.ref (He.ga K "NoWord"))
  m_NoSize : mg "NoSize" = some (.ref (He.ga K "NoSize"))
  m_NoParts : mg "NoParts" = some (.ref (He.ga K "NoParts"))
  m_NoLetter : mg "NoLetter" = some (.ref (He.ga K "NoLetter"))
  m_NoChoices : mg "NoChoices" = some (.ref (He.ga K "NoChoices"))
  m_NoCells : mg "NoCells" = some (.ref (He.ga K "NoCells"))
  m_NoZone : mg "NoZone" = some (.ref (He.ga K "NoZone"))
  m_Crossed : mg "Crossed" = some (.ref (He.ga K "Crossed"))
  m_NoLimit : mg "NoLimit" = some (.ref (He.ga K "NoLimit"))
  m_NoLine : mg "NoLine" = some (.ref (He.ga K "NoLine"))
  m_NoRow : mg "NoRow" = some (.ref (He.ga K "NoRow"))
  m_Deep : mg "Deep" = some (.ref (He.ga K "Deep"))
  m_TooMany : mg "TooMany" = some (.ref (He.ga K "TooMany"))
  m_Unready : mg "Unready" = some (.ref (He.ga K "Unready"))
  m_NoEntry : mg "NoEntry" = some (.ref (He.ga K "NoEntry"))
  m_Fault : mg "Fault" = some (.ref (He.ga K "Fault"))
  m_NoBase : mg "NoBase" = some (.ref (He.ga K "NoBase"))
  m_NoSuch : mg "NoSuch" = some (.ref (He.ga K "NoSuch"))
  m_NoDefinition : mg "NoDefinition" = some (.ref (He.ga K "NoDefinition"))
  kin : Kin K ["NoNumber", "NoName", "NoText", "NoPlace", "NoWay", "NoRound", "NoOutline", "NoPoint", "NoProgram", "NoWord", "NoFont", "NoWorths", "NoLetter", "NoParts", "NoSize", "NoZone", "NoCells", "NoChoices", "NoLine", "NoLimit", "Crossed", "TooMany", "Deep", "NoRow", "Fault", "NoEntry", "Unready", "NoDefinition", "NoSuch", "NoBase"]
  flk : Flk K [("NoNumber", "found"), ("NoName", "found"), ("NoText", "found"), ("NoPlace", "found"), ("NoWay", "found"), ("NoRound", "found"), ("NoOutline", "found"), ("NoPoint", "found"), ("NoProgram", "found"), ("NoWord", "found"), ("NoFont", "found"), ("NoWorths", "found"), ("NoLetter", "found"), ("NoParts", "found"), ("NoSize", "found"), ("NoZone", "found"), ("NoCells", "found"), ("NoChoices", "found"), ("NoLine", "found"), ("NoLimit", "found"), ("NoEntry", "found"), ("NoDefinition", "found"), ("NoSuch", "found"), ("NoBase", "found"), ("Crossed", "one"), ("Crossed", "other"), ("TooMany", "many"), ("Deep", "at"), ("NoRow", "at"), ("Fault", "done"), ("Fault", "why")]
section
variable {P : Program} {w : World} {K : PySem.W.Frag} {mg : Str → Option Value} {base : Heap}
theorem ok_i_NoWay (T : Tx K mg) : FnOk P w K mg base CX0 1 (He.fAd K ("NoWay", some "__init__")) T.i_NoWay_fd Pi_NoWay (spI (He.ga K "NoWay") "found") :=
  ok_initG1 (k := 0) (m := "no way") (initId := "ValueError.__init__") T.x_NoWay.o (T.x_NoWay.no _ (by simp)) T.i_NoWay_F sci_NoWay fun cdv A outer s H E => (pss_cons (ps_expr (pe_iniG T.xb_FontError.b rfl T.xb_FontError.m (pa_cons (pe_var rfl (.inl rfl)) (pa_cons pe_str pa_nil)))) (pss_one (ps_ostG (pe_var rfl (.inl rfl)) (pe_var rfl (.inl rfl)))))
theorem ok_i_NoPlace (T : Tx K mg) : FnOk P w K mg base CX0 1 (He.fAd K ("NoPlace", some "__init__")) T.i_NoPlace_fd Pi_NoPlace (spI (He.ga K "NoPlace") "found") :=
  ok_initG1 (k := 0) (m := "no place") (initId := "ValueError.__init__") T.x_NoPlace.o (T.x_NoPlace.no _ (by simp)) T.i_NoPlace_F sci_NoPlace fun cdv A outer s H E => (pss_cons (ps_expr (pe_iniG T.xb_FontError.b rfl T.xb_FontError.m (pa_cons (pe_var rfl (.inl rfl)) (pa_cons pe_str pa_nil)))) (pss_one (ps_ostG (pe_var rfl (.inl rfl)) (pe_var rfl (.inl rfl)))))
theorem ok_i_NoText (T : Tx K mg) : FnOk P w K mg base CX0 1 (He.fAd K ("NoText", some "__init__")) T.i_NoText_fd Pi_NoText (spI (He.ga K "NoText") "found") :=
  ok_initG1 (k := 0) (m := "no text") (initId := "ValueError.__init__") T.x_NoText.o (T.x_NoText.no _ (by simp)) T.i_NoText_F sci_NoText fun cdv A outer s H E => (pss_cons (ps_expr (pe_iniG T.xb_FontError.b rfl T.xb_FontError.m (pa_cons (pe_var rfl (.inl rfl)) (pa_cons pe_str pa_nil)))) (pss_one (ps_ostG (pe_var rfl (.inl rfl)) (pe_var rfl (.inl rfl)))))
theorem ok_i_NoName (T : Tx K mg) : FnOk P w K mg base CX0 1 (He.fAd K ("NoName", some "__init__")) T.i_NoName_fd Pi_NoName (spI (He.ga K "NoName") "found") :=
  ok_initG1 (k := 0) (m := "no name") (initId := "ValueError.__init__") T.x_NoName.o (T.x_NoName.no _ (by simp)) T.i_NoName_F sci_NoName fun cdv A outer s H E => (pss_cons (ps_expr (pe_iniG T.xb_FontError.b rfl T.xb_FontError.m (pa_cons (pe_var rfl (.inl rfl)) (pa_cons pe_str pa_nil)))) (pss_one (ps_ostG (pe_var rfl (.inl rfl)) (pe_var rfl (.inl rfl)))))
theorem ok_i_NoNumber (T : Tx K mg) : FnOk P w K mg base CX0 1 (He.fAd K ("NoNumber", some "__init__")) T.i_NoNumber_fd Pi_NoNumber (spI (He.ga K "NoNumber") "found") :=
  ok_initG1 (k := 0) (m := "no number") (initId := "ValueError.__init__") T.x_NoNumber.o (T.x_NoNumber.no _ (by simp)) T.i_NoNumber_F sci_NoNumber fun cdv A outer s H E => (pss_cons (ps_expr (pe_iniG T.xb_FontError.b rfl T.xb_FontError.m (pa_cons (pe_var rfl (.inl rfl)) (pa_cons pe_str pa_nil)))) (pss_one (ps_ostG (pe_var rfl (.inl rfl)) (pe_var rfl (.inl rfl)))))
theorem ok_i_NoProgram (T : Tx K mg) : FnOk P w K mg base CX0 1 (He.fAd K ("NoProgram", some "__init__")) T.i_NoProgram_fd Pi_NoProgram (spI (He.ga K "NoProgram") "found") :=
  ok_initG1 (k := 0) (m := "no program") (initId := "ValueError.__init__") T.x_NoProgram.o (T.x_NoProgram.no _ (by simp)) T.i_NoProgram_F sci_NoProgram fun cdv A outer s H E => (pss_cons (ps_expr (pe_iniG T.xb_FontError.b rfl T.xb_FontError.m (pa_cons (pe_var rfl (.inl rfl)) (pa_cons pe_str pa_nil)))) (pss_one (ps_ostG (pe_var rfl (.inl rfl)) (pe_var rfl (.inl rfl)))))
theorem ok_i_NoPoint (T : Tx K mg) : FnOk P w K mg base CX0 1 (He.fAd K ("NoPoint", some "__init__")) T.i_NoPoint_fd Pi_NoPoint (spI (He.ga K "NoPoint") "found") :=
  ok_initG1 (k := 0) (m := "no point") (initId := "ValueError.__init__") T.x_NoPoint.o (T.x_NoPoint.no _ (by simp)) T.i_NoPoint_F sci_NoPoint fun cdv A outer s H E => (pss_cons (ps_expr (pe_iniG T.xb_FontError.b rfl T.xb_FontError.m (pa_cons (pe_var rfl (.inl rfl)) (pa_cons pe_str pa_nil)))) (pss_one (ps_ostG (pe_var rfl (.inl rfl)) (pe_var rfl (.inl rfl)))))
theorem ok_i_NoOutline (T : Tx K mg) : FnOk P w K mg base CX0 1 (He.fAd K ("NoOutline", some "__init__")) T.i_NoOutline_fd Pi_NoOutline (spI (He.ga K "NoOutline") "found") :=
  ok_initG1 (k := 0) (m := "no outline") (initId := "ValueError.__init__") T.x_NoOutline.o (T.x_NoOutline.no _ (by simp)) T.i_NoOutline_F sci_NoOutline fun cdv A outer s H E => (pss_cons (ps_expr (pe_iniG T.xb_FontError.b rfl T.xb_FontError.m (pa_cons (pe_var rfl (.inl rfl)) (pa_cons pe_str pa_nil)))) (pss_one (ps_ostG (pe_var rfl (.inl rfl)) (pe_var rfl (.inl rfl)))))
theorem ok_i_NoRound (T : Tx K mg) : FnOk P w K mg base CX0 1 (He.fAd K ("NoRound", some "__init__")) T.i_NoRound_fd Pi_NoRound (spI (He.ga K "NoRound") "found") :=
  ok_initG1 (k := 0) (m := "no kind of rounding") (initId := "ValueError.__init__") T.x_NoRound.o (T.x_NoRound.no _ (by simp)) T.i_NoRound_F sci_NoRound fun cdv A outer s H E => (pss_cons (ps_expr (pe_iniG T.xb_FontError.b rfl T.xb_FontError.m (pa_cons (pe_var rfl (.inl rfl)) (pa_cons pe_str pa_nil)))) (pss_one (ps_ostG (pe_var rfl (.inl rfl)) (pe_var rfl (.inl rfl)))))
theorem ok_i_NoLetter (T : Tx K mg) : FnOk P w K mg base CX0 1 (He.fAd K ("NoLetter", some "__init__")) T.i_NoLetter_fd Pi_NoLetter (spI (He.ga K "NoLetter") "found") :=
  ok_initG1 (k := 0) (m := "no letter") (initId := "ValueError.__init__") T.x_NoLetter.o (T.x_NoLetter.no _ (by simp)) T.i_NoLetter_F sci_NoLetter fun cdv A outer s H E => (pss_cons (ps_expr (pe_iniG T.xb_FontError.b rfl T.xb_FontError.m (pa_cons (pe_var rfl (.inl rfl)) (pa_cons pe_str pa_nil)))) (pss_one (ps_ostG (pe_var rfl (.inl rfl)) (pe_var rfl (.inl rfl)))))
theorem ok_i_NoWorths (T : Tx K mg) : FnOk P w K mg base CX0 1 (He.fAd K ("NoWorths", some "__init__")) T.i_NoWorths_fd Pi_NoWorths (spI (He.ga K "NoWorths") "found") :=
  ok_initG1 (k := 0) (m := "no worths") (initId := "ValueError.__init__") T.x_NoWorths.o (T.x_NoWorths.no _ (by simp)) T.i_NoWorths_F sci_NoWorths fun cdv A outer s H E => (pss_cons (ps_expr (pe_iniG T.xb_FontError.b rfl T.xb_FontError.m (pa_cons (pe_var rfl (.inl rfl)) (pa_cons pe_str pa_nil)))) (pss_one (ps_ostG (pe_var rfl (.inl rfl)) (pe_var rfl (.inl rfl)))))
theorem ok_i_NoFont (T : Tx K mg) : FnOk P w K mg base CX0 1 (He.fAd K ("NoFont", some "__init__")) T.i_NoFont_fd Pi_NoFont (spI (He.ga K "NoFont") "found") :=
  ok_initG1 (k := 0) (m := "no font") (initId := "ValueError.__init__") T.x_NoFont.o (T.x_NoFont.no _ (by simp)) T.i_NoFont_F sci_NoFont fun cdv A outer s H E => (pss_cons (ps_expr (pe_iniG T.xb_FontError.b rfl T.xb_FontError.m (pa_cons (pe_var rfl (.inl rfl)) (pa_cons pe_str pa_nil)))) (pss_one (ps_ostG (pe_var rfl (.inl rfl)) (pe_var rfl (.inl rfl)))))
theorem ok_i_NoWord (T : Tx K mg) : FnOk P w K mg base CX0 1 (He.fAd K ("NoWord", some "__init__")) T.i_NoWord_fd Pi_NoWord (spI (He.ga K "NoWord") "found") :=
  ok_initG1 (k := 0) (m := "no word") (initId := "ValueError.__init__") T.x_NoWord.o (T.x_NoWord.no _ (by simp)) T.i_NoWord_F sci_NoWord fun cdv A outer s H E => (pss_cons (ps_expr (pe_iniG T.xb_FontError.b rfl T.xb_FontError.m (pa_cons (pe_var rfl (.inl rfl)) (pa_cons pe_str pa_nil)))) (pss_one (ps_ostG (pe_var rfl (.inl rfl)) (pe_var rfl (.inl rfl)))))
theorem ok_i_NoCells (T : Tx K mg) : FnOk P w K mg base CX0 1 (He.fAd K ("NoCells", some "__init__")) T.i_NoCells_fd Pi_NoCells (spI (He.ga K "NoCells") "found") :=
  ok_initG1 (k := 0) (m := "no cells") (initId := "ValueError.__init__") T.x_NoCells.o (T.x_NoCells.no _ (by simp)) T.i_NoCells_F sci_NoCells fun cdv A outer s H E => (pss_cons (ps_expr (pe_iniG T.xb_FontError.b rfl T.xb_FontError.m (pa_cons (pe_var rfl (.inl rfl)) (pa_cons pe_str pa_nil)))) (pss_one (ps_ostG (pe_var rfl (.inl rfl)) (pe_var rfl (.inl rfl)))))
theorem ok_i_NoZone (T : Tx K mg) : FnOk P w K mg base CX0 1 (He.fAd K ("NoZone", some "__init__")) T.i_NoZone_fd Pi_NoZone (spI (He.ga K "NoZone") "found") :=
  ok_initG1 (k := 0) (m := "no zone") (initId := "ValueError.__init__") T.x_NoZone.o (T.x_NoZone.no _ (by simp)) T.i_NoZone_F sci_NoZone fun cdv A outer s H E => (pss_cons (ps_expr (pe_iniG T.xb_FontError.b rfl T.xb_FontError.m (pa_cons (pe_var rfl (.inl rfl)) (pa_cons pe_str pa_nil)))) (pss_one (ps_ostG (pe_var rfl (.inl rfl)) (pe_var rfl (.inl rfl)))))
theorem ok_i_NoSize (T : Tx K mg) : FnOk P w K mg base CX0 1 (He.fAd K ("NoSize", some "__init__")) T.i_NoSize_fd Pi_NoSize (spI (He.ga K "NoSize") "found") :=
  ok_initG1 (k := 0) (m := "no size") (initId := "ValueError.__init__") T.x_NoSize.o (T.x_NoSize.no _ (by simp)) T.i_NoSize_F sci_NoSize fun cdv A outer s H E => (pss_cons (ps_expr (pe_iniG T.xb_FontError.b rfl T.xb_FontError.m (pa_cons (pe_var rfl (.inl rfl)) (pa_cons pe_str pa_nil)))) (pss_one (ps_ostG (pe_var rfl (.inl rfl)) (pe_var rfl (.inl rfl)))))
theorem ok_i_NoParts (T : Tx K mg) : FnOk P w K mg base CX0 1 (He.fAd K ("NoParts", some "__init__")) T.i_NoParts_fd Pi_NoParts (spI (He.ga K "NoParts") "found") :=
  ok_initG1 (k := 0) (m := "no parts") (initId := "ValueError.__init__") T.x_NoParts.o (T.x_NoParts.no _ (by simp)) T.i_NoParts_F sci_NoParts fun cdv A outer s H E => (pss_cons (ps_expr (pe_iniG T.xb_FontError.b rfl T.xb_FontError.m (pa_cons (pe_var rfl (.inl rfl)) (pa_cons pe_str pa_nil)))) (pss_one (ps_ostG (pe_var rfl (.inl rfl)) (pe_var rfl (.inl rfl)))))
theorem ok_i_Crossed (T : Tx K mg) : FnOk P w K mg base CX0 1 (He.fAd K ("Crossed", some "__init__")) T.i_Crossed_fd Pi_Crossed (spJ2 (He.ga K "Crossed") "one" "other") :=
  ok_initG2 (k := 0) (m := "two edges that cross") (initId := "ValueError.__init__") T.x_Crossed.o (T.x_Crossed.no _ (by simp)) (T.x_Crossed.no _ (by simp)) T.i_Crossed_F sci_Crossed fun cdv A outer s H E => (pss_cons (ps_expr (pe_iniG T.xb_FontError.b rfl T.xb_FontError.m (pa_cons (pe_var rfl (.inl rfl)) (pa_cons pe_str pa_nil)))) (pss_cons (ps_ostG (pe_var rfl (.inl rfl)) (pe_var rfl (.inl rfl))) (pss_one (ps_ostG (pe_var rfl (.inl rfl)) (pe_var rfl (.inl rfl))))))
theorem ok_i_NoLimit (T : Tx K mg) : FnOk P w K mg base CX0 1 (He.fAd K ("NoLimit", some "__init__")) T.i_NoLimit_fd Pi_NoLimit (spI (He.ga K "NoLimit") "found") :=
  ok_initG1 (k := 0) (m := "no limit") (initId := "ValueError.__init__") T.x_NoLimit.o (T.x_NoLimit.no _ (by simp)) T.i_NoLimit_F sci_NoLimit fun cdv A outer s H E => (pss_cons (ps_expr (pe_iniG T.xb_FontError.b rfl T.xb_FontError.m (pa_cons (pe_var rfl (.inl rfl)) (pa_cons pe_str pa_nil)))) (pss_one (ps_ostG (pe_var rfl (.inl rfl)) (pe_var rfl (.inl rfl)))))
theorem ok_i_NoLine (T : Tx K mg) : FnOk P w K mg base CX0 1 (He.fAd K ("NoLine", some "__init__")) T.i_NoLine_fd Pi_NoLine (spI (He.ga K "NoLine") "found") :=
  ok_initG1 (k := 0) (m := "no line") (initId := "ValueError.__init__") T.x_NoLine.o (T.x_NoLine.no _ (by simp)) T.i_NoLine_F sci_NoLine fun cdv A outer s H E => (pss_cons (ps_expr (pe_iniG T.xb_FontError.b rfl T.xb_FontError.m (pa_cons (pe_var rfl (.inl rfl)) (pa_cons pe_str pa_nil)))) (pss_one (ps_ostG (pe_var rfl (.inl rfl)) (pe_var rfl (.inl rfl)))))
theorem ok_i_NoChoices (T : Tx K mg) : FnOk P w K mg base CX0 1 (He.fAd K ("NoChoices", some "__init__")) T.i_NoChoices_fd Pi_NoChoices (spI (He.ga K "NoChoices") "found") :=
  ok_initG1 (k := 0) (m := "no choices") (initId := "ValueError.__init__") T.x_NoChoices.o (T.x_NoChoices.no _ (by simp)) T.i_NoChoices_F sci_NoChoices fun cdv A outer s H E => (pss_cons (ps_expr (pe_iniG T.xb_FontError.b rfl T.xb_FontError.m (pa_cons (pe_var rfl (.inl rfl)) (pa_cons pe_str pa_nil)))) (pss_one (ps_ostG (pe_var rfl (.inl rfl)) (pe_var rfl (.inl rfl)))))
theorem ok_i_Fault (T : Tx K mg) : FnOk P w K mg base CX0 1 (He.fAd K ("Fault", some "__init__")) T.i_Fault_fd Pi_Fault (spJ2 (He.ga K "Fault") "done" "why") :=
  ok_initG2 (k := 0) (m := "a word that can't be done") (initId := "ValueError.__init__") T.x_Fault.o (T.x_Fault.no _ (by simp)) (T.x_Fault.no _ (by simp)) T.i_Fault_F sci_Fault fun cdv A outer s H E => (pss_cons (ps_expr (pe_iniG T.xb_FontError.b rfl T.xb_FontError.m (pa_cons (pe_var rfl (.inl rfl)) (pa_cons pe_str pa_nil)))) (pss_cons (ps_ostG (pe_var rfl (.inl rfl)) (pe_var rfl (.inl rfl))) (pss_one (ps_ostG (pe_var rfl (.inl rfl)) (pe_var rfl (.inl rfl))))))
theorem ok_i_NoRow (T : Tx K mg) : FnOk P w K mg base CX0 1 (He.fAd K ("NoRow", some "__init__")) T.i_NoRow_fd Pi_NoRow (spI (He.ga K "NoRow") "at") :=
  ok_initG1 (k := 0) (m := "no such row") (initId := "ValueError.__init__") T.x_NoRow.o (T.x_NoRow.no _ (by simp)) T.i_NoRow_F sci_NoRow fun cdv A outer s H E => (pss_cons (ps_expr (pe_iniG T.xb_FontError.b rfl T.xb_FontError.m (pa_cons (pe_var rfl (.inl rfl)) (pa_cons pe_str pa_nil)))) (pss_one (ps_ostG (pe_var rfl (.inl rfl)) (pe_var rfl (.inl rfl)))))
theorem ok_i_Deep (T : Tx K mg) : FnOk P w K mg base CX0 1 (He.fAd K ("Deep", some "__init__")) T.i_Deep_fd Pi_Deep (spI (He.ga K "Deep") "at") :=
  ok_initG1 (k := 0) (m := "blocks too deep") (initId := "ValueError.__init__") T.x_Deep.o (T.x_Deep.no _ (by simp)) T.i_Deep_F sci_Deep fun cdv A outer s H E => (pss_cons (ps_expr (pe_iniG T.xb_FontError.b rfl T.xb_FontError.m (pa_cons (pe_var rfl (.inl rfl)) (pa_cons pe_str pa_nil)))) (pss_one (ps_ostG (pe_var rfl (.inl rfl)) (pe_var rfl (.inl rfl)))))
theorem ok_i_TooMany (T : Tx K mg) : FnOk P w K mg base CX0 1 (He.fAd K ("TooMany", some "__init__")) T.i_TooMany_fd Pi_TooMany (spI (He.ga K "TooMany") "many") :=
  ok_initG1 (k := 0) (m := "too many") (initId := "ValueError.__init__") T.x_TooMany.o (T.x_TooMany.no _ (by simp)) T.i_TooMany_F sci_TooMany fun cdv A outer s H E => (pss_cons (ps_expr (pe_iniG T.xb_FontError.b rfl T.xb_FontError.m (pa_cons (pe_var rfl (.inl rfl)) (pa_cons pe_str pa_nil)))) (pss_one (ps_ostG (pe_var rfl (.inl rfl)) (pe_var rfl (.inl rfl)))))
theorem ok_i_NoSuch (T : Tx K mg) : FnOk P w K mg base CX0 1 (He.fAd K ("NoSuch", some "__init__")) T.i_NoSuch_fd Pi_NoSuch (spI (He.ga K "NoSuch") "found") :=
  ok_initG1 (k := 0) (m := "nothing of this name") (initId := "KeyError.__init__") T.x_NoSuch.o (T.x_NoSuch.no _ (by simp)) T.i_NoSuch_F sci_NoSuch fun cdv A outer s H E => (pss_cons (ps_expr (pe_iniG T.xb_Unknown.b rfl T.xb_Unknown.m (pa_cons (pe_var rfl (.inl rfl)) (pa_cons pe_str pa_nil)))) (pss_one (ps_ostG (pe_var rfl (.inl rfl)) (pe_var rfl (.inl rfl)))))
theorem ok_i_NoDefinition (T : Tx K mg) : FnOk P w K mg base CX0 1 (He.fAd K ("NoDefinition", some "__init__")) T.i_NoDefinition_fd Pi_NoDefinition (spI (He.ga K "NoDefinition") "found") :=
  ok_initG1 (k := 0) (m := "no such definition") (initId := "KeyError.__init__") T.x_NoDefinition.o (T.x_NoDefinition.no _ (by simp)) T.i_NoDefinition_F sci_NoDefinition fun cdv A outer s H E => (pss_cons (ps_expr (pe_iniG T.xb_Unknown.b rfl T.xb_Unknown.m (pa_cons (pe_var rfl (.inl rfl)) (pa_cons pe_str pa_nil)))) (pss_one (ps_ostG (pe_var rfl (.inl rfl)) (pe_var rfl (.inl rfl)))))
theorem ok_i_Unready (T : Tx K mg) : FnOk P w K mg base CX0 1 (He.fAd K ("Unready", some "__init__")) T.i_Unready_fd Pi_Unready (spJ0 (He.ga K "Unready")) :=
  ok_initG0 (k := 0) (m := "nothing there yet") (initId := "LookupError.__init__") T.x_Unready.o  T.i_Unready_F sci_Unready fun cdv A outer s H E => (pss_one (ps_expr (pe_iniG T.xb_Missing.b rfl T.xb_Missing.m (pa_cons (pe_var rfl (.inl rfl)) (pa_cons pe_str pa_nil)))))
theorem ok_i_NoEntry (T : Tx K mg) : FnOk P w K mg base CX0 1 (He.fAd K ("NoEntry", some "__init__")) T.i_NoEntry_fd Pi_NoEntry (spI (He.ga K "NoEntry") "found") :=
  ok_initG1 (k := 0) (m := "no such entry") (initId := "LookupError.__init__") T.x_NoEntry.o (T.x_NoEntry.no _ (by simp)) T.i_NoEntry_F sci_NoEntry fun cdv A outer s H E => (pss_cons (ps_expr (pe_iniG T.xb_Missing.b rfl T.xb_Missing.m (pa_cons (pe_var rfl (.inl rfl)) (pa_cons pe_str pa_nil)))) (pss_one (ps_ostG (pe_var rfl (.inl rfl)) (pe_var rfl (.inl rfl)))))
theorem ok_i_NoBase (T : Tx K mg) : FnOk P w K mg base CX0 1 (He.fAd K ("NoBase", some "__init__")) T.i_NoBase_fd Pi_NoBase (spI (He.ga K "NoBase") "found") :=
  ok_initG1 (k := 0) (m := "a base of nought") (initId := "ZeroDivisionError.__init__") T.x_NoBase.o (T.x_NoBase.no _ (by simp)) T.i_NoBase_F sci_NoBase fun cdv A outer s H E => (pss_cons (ps_expr (pe_iniB (B := "ZeroDivisionError") rfl T.n_ZeroDivisionError (by decide +kernel) (by kernel_rfl) (by decide +kernel) T.xz_ZeroDivisionError (by decide +kernel) (pa_cons (pe_var rfl (.inl rfl)) (pa_cons pe_str pa_nil)))) (pss_one (ps_ostG (pe_var rfl (.inl rfl)) (pe_var rfl (.inl rfl)))))
theorem ok_law_box (T : Tx K mg) : FnOk P w K mg base CX0 1 T.law_box.f T.law_box.fd P_law_box (cSp K sp_law_box) :=
  DFun.ok1 T.law_box.F sc_law_box rfl rfl (k := 0) (t := t_law_box) (fun cdv A outer s H E hr => 
    (dss_one (ds_ret (de_lstM (da_cons (de_callB (dcall_max2 rfl) (by rfl) T.n_max (by decide +kernel) (da_cons de_int (da_cons (de_op dop_sub (de_var (pv 0)) (de_op dop_pow de_int de_int)) da_nil))) (da_cons (de_op dop_mod (de_var (pv 0)) de_int) (da_cons de_int da_nil))))))) rd_law_box
theorem ok_law_cell (T : Tx K mg) : FnOk P w K mg base CX0 1 T.law_cell.f T.law_cell.fd P_law_cell (cSp K sp_law_cell) :=
  DFun.ok2 T.law_cell.F sc_law_cell rfl rfl (k := 0) (t := t_law_cell) (fun cdv A outer s H E hr => 
    (dss_cons (ds_if (dt_cmp dop_lt (de_var (pv 1)) (de_callB dcall_len (by rfl) T.n_len (by decide +kernel) (da_cons (de_var (pv 0)) da_nil)) (nomark _)) (dss_one (ds_ret (de_ix dix_seq (de_var (pv 0)) (de_var (pv 1)) (fun _ _ => rfl)))) dss_nil)
      (dss_one (ds_ret (de_op dop_add (de_op dop_mul de_int (de_var (pv 1))) de_int))))) rd_law_cell
theorem ok_law_named (T : Tx K mg) : FnOk P w K mg base CX0 3 T.law_named.f T.law_named.fd P_law_named (cSp K (sp_law_named K)) :=
  DFun.ok2 T.law_named.F sc_law_named rfl rfl (k := 2) (t := t_law_named K) (fun cdv A outer s H E hr => 
    (dss_cons (ds_set (i := 2) sc_law_named.nd rfl (by first | exact Or.inl rfl | exact Or.inr rfl) (de_lst (da_cons (de_newGK (ix := [0]) (ks := ["found"]) T.x_NoNumber.o (newP1 T.x_NoNumber.e) T.x_NoNumber.ini T.x_NoNumber.ti (ok_i_NoNumber T) (hr.mono (by decide)) T.i_NoNumber_kb0 (by rfl) T.x_NoNumber.m (dk_cons (de_var (pv 0)) dk_nil)) (da_cons (de_newGK (ix := [0]) (ks := ["found"]) T.x_NoName.o (newP1 T.x_NoName.e) T.x_NoName.ini T.x_NoName.ti (ok_i_NoName T) (hr.mono (by decide)) T.i_NoName_kb0 (by rfl) T.x_NoName.m (dk_cons (de_var (pv 0)) dk_nil)) (da_cons (de_newGK (ix := [0]) (ks := ["found"]) T.x_NoText.o (newP1 T.x_NoText.e) T.x_NoText.ini T.x_NoText.ti (ok_i_NoText T) (hr.mono (by decide)) T.i_NoText_kb0 (by rfl) T.x_NoText.m (dk_cons (de_var (pv 0)) dk_nil)) (da_cons (de_newGK (ix := [0]) (ks := ["found"]) T.x_NoPlace.o (newP1 T.x_NoPlace.e) T.x_NoPlace.ini T.x_NoPlace.ti (ok_i_NoPlace T) (hr.mono (by decide)) T.i_NoPlace_kb0 (by rfl) T.x_NoPlace.m (dk_cons (de_var (pv 0)) dk_nil)) (da_cons (de_newGK (ix := [0]) (ks := ["found"]) T.x_NoWay.o (newP1 T.x_NoWay.e) T.x_NoWay.ini T.x_NoWay.ti (ok_i_NoWay T) (hr.mono (by decide)) T.i_NoWay_kb0 (by rfl) T.x_NoWay.m (dk_cons (de_var (pv 0)) dk_nil)) da_nil)))))))
      (dss_cons (ds_set (i := 2) sc_law_named.nd rfl (by first | exact Or.inl rfl | exact Or.inr rfl) (de_op dop_add (de_var (pv 2)) (de_lst (da_cons (de_newGK (ix := [0]) (ks := ["found"]) T.x_NoRound.o (newP1 T.x_NoRound.e) T.x_NoRound.ini T.x_NoRound.ti (ok_i_NoRound T) (hr.mono (by decide)) T.i_NoRound_kb0 (by rfl) T.x_NoRound.m (dk_cons (de_var (pv 0)) dk_nil)) (da_cons (de_newGK (ix := [0]) (ks := ["found"]) T.x_NoOutline.o (newP1 T.x_NoOutline.e) T.x_NoOutline.ini T.x_NoOutline.ti (ok_i_NoOutline T) (hr.mono (by decide)) T.i_NoOutline_kb0 (by rfl) T.x_NoOutline.m (dk_cons (de_var (pv 0)) dk_nil)) (da_cons (de_newGK (ix := [0]) (ks := ["found"]) T.x_NoPoint.o (newP1 T.x_NoPoint.e) T.x_NoPoint.ini T.x_NoPoint.ti (ok_i_NoPoint T) (hr.mono (by decide)) T.i_NoPoint_kb0 (by rfl) T.x_NoPoint.m (dk_cons (de_var (pv 0)) dk_nil)) (da_cons (de_newGK (ix := [0]) (ks := ["found"]) T.x_NoProgram.o (newP1 T.x_NoProgram.e) T.x_NoProgram.ini T.x_NoProgram.ti (ok_i_NoProgram T) (hr.mono (by decide)) T.i_NoProgram_kb0 (by rfl) T.x_NoProgram.m (dk_cons (de_var (pv 0)) dk_nil)) da_nil)))))))
      (dss_cons (ds_set (i := 2) sc_law_named.nd rfl (by first | exact Or.inl rfl | exact Or.inr rfl) (de_op dop_add (de_var (pv 2)) (de_lst (da_cons (de_newGK (ix := [0]) (ks := ["found"]) T.x_NoWord.o (newP1 T.x_NoWord.e) T.x_NoWord.ini T.x_NoWord.ti (ok_i_NoWord T) (hr.mono (by decide)) T.i_NoWord_kb0 (by rfl) T.x_NoWord.m (dk_cons (de_var (pv 0)) dk_nil)) (da_cons (de_newGK (ix := [0]) (ks := ["found"]) T.x_NoFont.o (newP1 T.x_NoFont.e) T.x_NoFont.ini T.x_NoFont.ti (ok_i_NoFont T) (hr.mono (by decide)) T.i_NoFont_kb0 (by rfl) T.x_NoFont.m (dk_cons (de_var (pv 0)) dk_nil)) (da_cons (de_newGK (ix := [0]) (ks := ["found"]) T.x_NoWorths.o (newP1 T.x_NoWorths.e) T.x_NoWorths.ini T.x_NoWorths.ti (ok_i_NoWorths T) (hr.mono (by decide)) T.i_NoWorths_kb0 (by rfl) T.x_NoWorths.m (dk_cons (de_var (pv 0)) dk_nil)) (da_cons (de_newGK (ix := [0]) (ks := ["found"]) T.x_NoLetter.o (newP1 T.x_NoLetter.e) T.x_NoLetter.ini T.x_NoLetter.ti (ok_i_NoLetter T) (hr.mono (by decide)) T.i_NoLetter_kb0 (by rfl) T.x_NoLetter.m (dk_cons (de_var (pv 0)) dk_nil)) da_nil)))))))
      (dss_cons (ds_set (i := 2) sc_law_named.nd rfl (by first | exact Or.inl rfl | exact Or.inr rfl) (de_op dop_add (de_var (pv 2)) (de_lst (da_cons (de_newGK (ix := [0]) (ks := ["found"]) T.x_NoParts.o (newP1 T.x_NoParts.e) T.x_NoParts.ini T.x_NoParts.ti (ok_i_NoParts T) (hr.mono (by decide)) T.i_NoParts_kb0 (by rfl) T.x_NoParts.m (dk_cons (de_var (pv 0)) dk_nil)) (da_cons (de_newGK (ix := [0]) (ks := ["found"]) T.x_NoSize.o (newP1 T.x_NoSize.e) T.x_NoSize.ini T.x_NoSize.ti (ok_i_NoSize T) (hr.mono (by decide)) T.i_NoSize_kb0 (by rfl) T.x_NoSize.m (dk_cons (de_var (pv 0)) dk_nil)) (da_cons (de_newGK (ix := [0]) (ks := ["found"]) T.x_NoZone.o (newP1 T.x_NoZone.e) T.x_NoZone.ini T.x_NoZone.ti (ok_i_NoZone T) (hr.mono (by decide)) T.i_NoZone_kb0 (by rfl) T.x_NoZone.m (dk_cons (de_var (pv 0)) dk_nil)) (da_cons (de_newGK (ix := [0]) (ks := ["found"]) T.x_NoCells.o (newP1 T.x_NoCells.e) T.x_NoCells.ini T.x_NoCells.ti (ok_i_NoCells T) (hr.mono (by decide)) T.i_NoCells_kb0 (by rfl) T.x_NoCells.m (dk_cons (de_var (pv 0)) dk_nil)) da_nil)))))))
      (dss_cons (ds_set (i := 2) sc_law_named.nd rfl (by first | exact Or.inl rfl | exact Or.inr rfl) (de_op dop_add (de_var (pv 2)) (de_lst (da_cons (de_newGK (ix := [0]) (ks := ["found"]) T.x_NoChoices.o (newP1 T.x_NoChoices.e) T.x_NoChoices.ini T.x_NoChoices.ti (ok_i_NoChoices T) (hr.mono (by decide)) T.i_NoChoices_kb0 (by rfl) T.x_NoChoices.m (dk_cons (de_var (pv 0)) dk_nil)) (da_cons (de_newGK (ix := [0]) (ks := ["found"]) T.x_NoLine.o (newP1 T.x_NoLine.e) T.x_NoLine.ini T.x_NoLine.ti (ok_i_NoLine T) (hr.mono (by decide)) T.i_NoLine_kb0 (by rfl) T.x_NoLine.m (dk_cons (de_var (pv 0)) dk_nil)) (da_cons (de_newGK (ix := [0]) (ks := ["found"]) T.x_NoLimit.o (newP1 T.x_NoLimit.e) T.x_NoLimit.ini T.x_NoLimit.ti (ok_i_NoLimit T) (hr.mono (by decide)) T.i_NoLimit_kb0 (by rfl) T.x_NoLimit.m (dk_cons (de_var (pv 0)) dk_nil)) (da_cons (de_newGK (ix := [1, 0]) (ks := ["other", "one"]) T.x_Crossed.o (newP2 T.x_Crossed.e) T.x_Crossed.ini T.x_Crossed.ti (ok_i_Crossed T) (hr.mono (by decide)) T.i_Crossed_kb0 (by rfl) T.x_Crossed.m (dk_cons (de_var (pv 1)) (dk_cons (de_var (pv 0)) dk_nil))) da_nil)))))))
      (dss_cons (ds_set (i := 2) sc_law_named.nd rfl (by first | exact Or.inl rfl | exact Or.inr rfl) (de_op dop_add (de_var (pv 2)) (de_lst (da_cons (de_newGK (ix := [0]) (ks := ["many"]) T.x_TooMany.o (newP1 T.x_TooMany.e) T.x_TooMany.ini T.x_TooMany.ti (ok_i_TooMany T) (hr.mono (by decide)) T.i_TooMany_kb0 (by rfl) T.x_TooMany.m (dk_cons (de_var (pv 0)) dk_nil)) (da_cons (de_newGK (ix := [0]) (ks := ["at"]) T.x_Deep.o (newP1 T.x_Deep.e) T.x_Deep.ini T.x_Deep.ti (ok_i_Deep T) (hr.mono (by decide)) T.i_Deep_kb0 (by rfl) T.x_Deep.m (dk_cons (de_var (pv 0)) dk_nil)) (da_cons (de_newGK (ix := [0]) (ks := ["at"]) T.x_NoRow.o (newP1 T.x_NoRow.e) T.x_NoRow.ini T.x_NoRow.ti (ok_i_NoRow T) (hr.mono (by decide)) T.i_NoRow_kb0 (by rfl) T.x_NoRow.m (dk_cons (de_var (pv 0)) dk_nil)) (da_cons (de_newGK (ix := [1, 0]) (ks := ["why", "done"]) T.x_Fault.o (newP2 T.x_Fault.e) T.x_Fault.ini T.x_Fault.ti (ok_i_Fault T) (hr.mono (by decide)) T.i_Fault_kb0 (by rfl) T.x_Fault.m (dk_cons (de_var (pv 1)) (dk_cons (de_var (pv 0)) dk_nil))) da_nil)))))))
      (dss_cons (ds_set (i := 2) sc_law_named.nd rfl (by first | exact Or.inl rfl | exact Or.inr rfl) (de_op dop_add (de_var (pv 2)) (de_lst (da_cons (de_newGK (ix := [0]) (ks := ["found"]) T.x_NoEntry.o (newP1 T.x_NoEntry.e) T.x_NoEntry.ini T.x_NoEntry.ti (ok_i_NoEntry T) (hr.mono (by decide)) T.i_NoEntry_kb0 (by rfl) T.x_NoEntry.m (dk_cons (de_var (pv 0)) dk_nil)) (da_cons (de_newG0 (ix := []) T.x_Unready.o (newP0 T.x_Unready.e) T.x_Unready.ini T.x_Unready.ti (ok_i_Unready T) (hr.mono (by decide)) T.i_Unready_kb0 (by rfl) T.x_Unready.m) (da_cons (de_newGK (ix := [0]) (ks := ["found"]) T.x_NoDefinition.o (newP1 T.x_NoDefinition.e) T.x_NoDefinition.ini T.x_NoDefinition.ti (ok_i_NoDefinition T) (hr.mono (by decide)) T.i_NoDefinition_kb0 (by rfl) T.x_NoDefinition.m (dk_cons (de_var (pv 0)) dk_nil)) (da_cons (de_newGK (ix := [0]) (ks := ["found"]) T.x_NoSuch.o (newP1 T.x_NoSuch.e) T.x_NoSuch.ini T.x_NoSuch.ti (ok_i_NoSuch T) (hr.mono (by decide)) T.i_NoSuch_kb0 (by rfl) T.x_NoSuch.m (dk_cons (de_var (pv 0)) dk_nil)) da_nil)))))))
      (dss_one (ds_ret (de_op dop_add (de_var (pv 2)) (de_lst (da_cons (de_newGK (ix := [0]) (ks := ["found"]) T.x_NoBase.o (newP1 T.x_NoBase.e) T.x_NoBase.ini T.x_NoBase.ti (ok_i_NoBase T) (hr.mono (by decide)) T.i_NoBase_kb0 (by rfl) T.x_NoBase.m (dk_cons (de_var (pv 0)) dk_nil)) da_nil))))))))))))) rd_law_named
theorem ok_law_made (T : Tx K mg) : FnOk P w K mg base CX0 3 T.law_made.f T.law_made.fd P_law_made (cSp K (sp_law_made K)) :=
  DFun.ok2 T.law_made.F sc_law_made rfl rfl (k := 2) (t := t_law_made K) (fun cdv A outer s H E hr => 
    (dss_cons (ds_set (i := 2) sc_law_made.nd rfl (by first | exact Or.inl rfl | exact Or.inr rfl) (de_lst (da_cons (de_newG (ix := [0]) T.x_NoNumber.o (newP1 T.x_NoNumber.e) T.x_NoNumber.ini T.x_NoNumber.ti (ok_i_NoNumber T) (hr.mono (by decide)) T.i_NoNumber_kb1 (by rfl) T.x_NoNumber.m (da_cons (de_var (pv 0)) da_nil)) (da_cons (de_newG (ix := [0]) T.x_NoName.o (newP1 T.x_NoName.e) T.x_NoName.ini T.x_NoName.ti (ok_i_NoName T) (hr.mono (by decide)) T.i_NoName_kb1 (by rfl) T.x_NoName.m (da_cons (de_var (pv 0)) da_nil)) (da_cons (de_newG (ix := [0]) T.x_NoText.o (newP1 T.x_NoText.e) T.x_NoText.ini T.x_NoText.ti (ok_i_NoText T) (hr.mono (by decide)) T.i_NoText_kb1 (by rfl) T.x_NoText.m (da_cons (de_var (pv 0)) da_nil)) (da_cons (de_newG (ix := [0]) T.x_NoPlace.o (newP1 T.x_NoPlace.e) T.x_NoPlace.ini T.x_NoPlace.ti (ok_i_NoPlace T) (hr.mono (by decide)) T.i_NoPlace_kb1 (by rfl) T.x_NoPlace.m (da_cons (de_var (pv 0)) da_nil)) (da_cons (de_newG (ix := [0]) T.x_NoWay.o (newP1 T.x_NoWay.e) T.x_NoWay.ini T.x_NoWay.ti (ok_i_NoWay T) (hr.mono (by decide)) T.i_NoWay_kb1 (by rfl) T.x_NoWay.m (da_cons (de_var (pv 0)) da_nil)) da_nil)))))))
      (dss_cons (ds_set (i := 2) sc_law_made.nd rfl (by first | exact Or.inl rfl | exact Or.inr rfl) (de_op dop_add (de_var (pv 2)) (de_lst (da_cons (de_newG (ix := [0]) T.x_NoRound.o (newP1 T.x_NoRound.e) T.x_NoRound.ini T.x_NoRound.ti (ok_i_NoRound T) (hr.mono (by decide)) T.i_NoRound_kb1 (by rfl) T.x_NoRound.m (da_cons (de_var (pv 0)) da_nil)) (da_cons (de_newG (ix := [0]) T.x_NoOutline.o (newP1 T.x_NoOutline.e) T.x_NoOutline.ini T.x_NoOutline.ti (ok_i_NoOutline T) (hr.mono (by decide)) T.i_NoOutline_kb1 (by rfl) T.x_NoOutline.m (da_cons (de_var (pv 0)) da_nil)) (da_cons (de_newG (ix := [0]) T.x_NoPoint.o (newP1 T.x_NoPoint.e) T.x_NoPoint.ini T.x_NoPoint.ti (ok_i_NoPoint T) (hr.mono (by decide)) T.i_NoPoint_kb1 (by rfl) T.x_NoPoint.m (da_cons (de_var (pv 0)) da_nil)) (da_cons (de_newG (ix := [0]) T.x_NoProgram.o (newP1 T.x_NoProgram.e) T.x_NoProgram.ini T.x_NoProgram.ti (ok_i_NoProgram T) (hr.mono (by decide)) T.i_NoProgram_kb1 (by rfl) T.x_NoProgram.m (da_cons (de_var (pv 0)) da_nil)) (da_cons (de_newG (ix := [0]) T.x_NoWord.o (newP1 T.x_NoWord.e) T.x_NoWord.ini T.x_NoWord.ti (ok_i_NoWord T) (hr.mono (by decide)) T.i_NoWord_kb1 (by rfl) T.x_NoWord.m (da_cons (de_var (pv 0)) da_nil)) da_nil))))))))
      (dss_cons (ds_set (i := 2) sc_law_made.nd rfl (by first | exact Or.inl rfl | exact Or.inr rfl) (de_op dop_add (de_var (pv 2)) (de_lst (da_cons (de_newG (ix := [0]) T.x_NoFont.o (newP1 T.x_NoFont.e) T.x_NoFont.ini T.x_NoFont.ti (ok_i_NoFont T) (hr.mono (by decide)) T.i_NoFont_kb1 (by rfl) T.x_NoFont.m (da_cons (de_var (pv 0)) da_nil)) (da_cons (de_newG (ix := [0]) T.x_NoWorths.o (newP1 T.x_NoWorths.e) T.x_NoWorths.ini T.x_NoWorths.ti (ok_i_NoWorths T) (hr.mono (by decide)) T.i_NoWorths_kb1 (by rfl) T.x_NoWorths.m (da_cons (de_var (pv 0)) da_nil)) (da_cons (de_newG (ix := [0]) T.x_NoLetter.o (newP1 T.x_NoLetter.e) T.x_NoLetter.ini T.x_NoLetter.ti (ok_i_NoLetter T) (hr.mono (by decide)) T.i_NoLetter_kb1 (by rfl) T.x_NoLetter.m (da_cons (de_var (pv 0)) da_nil)) (da_cons (de_newG (ix := [0]) T.x_NoParts.o (newP1 T.x_NoParts.e) T.x_NoParts.ini T.x_NoParts.ti (ok_i_NoParts T) (hr.mono (by decide)) T.i_NoParts_kb1 (by rfl) T.x_NoParts.m (da_cons (de_var (pv 0)) da_nil)) (da_cons (de_newG (ix := [0]) T.x_NoSize.o (newP1 T.x_NoSize.e) T.x_NoSize.ini T.x_NoSize.ti (ok_i_NoSize T) (hr.mono (by decide)) T.i_NoSize_kb1 (by rfl) T.x_NoSize.m (da_cons (de_var (pv 0)) da_nil)) da_nil))))))))
      (dss_cons (ds_set (i := 2) sc_law_made.nd rfl (by first | exact Or.inl rfl | exact Or.inr rfl) (de_op dop_add (de_var (pv 2)) (de_lst (da_cons (de_newG (ix := [0]) T.x_NoZone.o (newP1 T.x_NoZone.e) T.x_NoZone.ini T.x_NoZone.ti (ok_i_NoZone T) (hr.mono (by decide)) T.i_NoZone_kb1 (by rfl) T.x_NoZone.m (da_cons (de_var (pv 0)) da_nil)) (da_cons (de_newG (ix := [0]) T.x_NoCells.o (newP1 T.x_NoCells.e) T.x_NoCells.ini T.x_NoCells.ti (ok_i_NoCells T) (hr.mono (by decide)) T.i_NoCells_kb1 (by rfl) T.x_NoCells.m (da_cons (de_var (pv 0)) da_nil)) (da_cons (de_newG (ix := [0]) T.x_NoChoices.o (newP1 T.x_NoChoices.e) T.x_NoChoices.ini T.x_NoChoices.ti (ok_i_NoChoices T) (hr.mono (by decide)) T.i_NoChoices_kb1 (by rfl) T.x_NoChoices.m (da_cons (de_var (pv 0)) da_nil)) (da_cons (de_newG (ix := [0]) T.x_NoLine.o (newP1 T.x_NoLine.e) T.x_NoLine.ini T.x_NoLine.ti (ok_i_NoLine T) (hr.mono (by decide)) T.i_NoLine_kb1 (by rfl) T.x_NoLine.m (da_cons (de_var (pv 0)) da_nil)) (da_cons (de_newG (ix := [0]) T.x_NoLimit.o (newP1 T.x_NoLimit.e) T.x_NoLimit.ini T.x_NoLimit.ti (ok_i_NoLimit T) (hr.mono (by decide)) T.i_NoLimit_kb1 (by rfl) T.x_NoLimit.m (da_cons (de_var (pv 0)) da_nil)) da_nil))))))))
      (dss_cons (ds_set (i := 2) sc_law_made.nd rfl (by first | exact Or.inl rfl | exact Or.inr rfl) (de_op dop_add (de_var (pv 2)) (de_lst (da_cons (de_newG (ix := [0, 1]) T.x_Crossed.o (newP2 T.x_Crossed.e) T.x_Crossed.ini T.x_Crossed.ti (ok_i_Crossed T) (hr.mono (by decide)) T.i_Crossed_kb1 (by rfl) T.x_Crossed.m (da_cons (de_var (pv 0)) (da_cons (de_var (pv 1)) da_nil))) (da_cons (de_newG (ix := [0]) T.x_TooMany.o (newP1 T.x_TooMany.e) T.x_TooMany.ini T.x_TooMany.ti (ok_i_TooMany T) (hr.mono (by decide)) T.i_TooMany_kb1 (by rfl) T.x_TooMany.m (da_cons (de_var (pv 0)) da_nil)) (da_cons (de_newG (ix := [0]) T.x_Deep.o (newP1 T.x_Deep.e) T.x_Deep.ini T.x_Deep.ti (ok_i_Deep T) (hr.mono (by decide)) T.i_Deep_kb1 (by rfl) T.x_Deep.m (da_cons (de_var (pv 0)) da_nil)) (da_cons (de_newG (ix := [0]) T.x_NoRow.o (newP1 T.x_NoRow.e) T.x_NoRow.ini T.x_NoRow.ti (ok_i_NoRow T) (hr.mono (by decide)) T.i_NoRow_kb1 (by rfl) T.x_NoRow.m (da_cons (de_var (pv 0)) da_nil)) (da_cons (de_newG (ix := [0, 1]) T.x_Fault.o (newP2 T.x_Fault.e) T.x_Fault.ini T.x_Fault.ti (ok_i_Fault T) (hr.mono (by decide)) T.i_Fault_kb1 (by rfl) T.x_Fault.m (da_cons (de_var (pv 0)) (da_cons (de_var (pv 1)) da_nil))) da_nil))))))))
      (dss_cons (ds_set (i := 2) sc_law_made.nd rfl (by first | exact Or.inl rfl | exact Or.inr rfl) (de_op dop_add (de_var (pv 2)) (de_lst (da_cons (de_newG (ix := [0]) T.x_NoEntry.o (newP1 T.x_NoEntry.e) T.x_NoEntry.ini T.x_NoEntry.ti (ok_i_NoEntry T) (hr.mono (by decide)) T.i_NoEntry_kb1 (by rfl) T.x_NoEntry.m (da_cons (de_var (pv 0)) da_nil)) (da_cons (de_newG0 (ix := []) T.x_Unready.o (newP0 T.x_Unready.e) T.x_Unready.ini T.x_Unready.ti (ok_i_Unready T) (hr.mono (by decide)) T.i_Unready_kb0 (by rfl) T.x_Unready.m) (da_cons (de_newG (ix := [0]) T.x_NoDefinition.o (newP1 T.x_NoDefinition.e) T.x_NoDefinition.ini T.x_NoDefinition.ti (ok_i_NoDefinition T) (hr.mono (by decide)) T.i_NoDefinition_kb1 (by rfl) T.x_NoDefinition.m (da_cons (de_var (pv 0)) da_nil)) (da_cons (de_newG (ix := [0]) T.x_NoSuch.o (newP1 T.x_NoSuch.e) T.x_NoSuch.ini T.x_NoSuch.ti (ok_i_NoSuch T) (hr.mono (by decide)) T.i_NoSuch_kb1 (by rfl) T.x_NoSuch.m (da_cons (de_var (pv 0)) da_nil)) (da_cons (de_newG (ix := [0]) T.x_NoBase.o (newP1 T.x_NoBase.e) T.x_NoBase.ini T.x_NoBase.ti (ok_i_NoBase T) (hr.mono (by decide)) T.i_NoBase_kb1 (by rfl) T.x_NoBase.m (da_cons (de_var (pv 0)) da_nil)) da_nil))))))))
      (dss_one (ds_ret (de_var (pv 2))))))))))) rd_law_made
theorem ok_law_fields (T : Tx K mg) : FnOk P w K mg base CX0 1 T.law_fields.f T.law_fields.fd P_law_fields (cSp K (sp_law_fields K)) :=
  DFun.ok1 T.law_fields.F sc_law_fields rfl rfl (k := 0) (t := t_law_fields K) (fun cdv A outer s H E hr => 
    (dss_cons (ds_setLc false (i := 1) (own := [("e", 3)]) (g := (.nm 3)) rfl sc_law_fields.nd rfl rfl (sw_true rfl rfl rfl (by decide +kernel)) (di_seq (de_slice false (de_var (pv 0)) do_none (do_some de_int))) (blkOk_by (N := N_law_fields) (sc := defScope s_law_fields) (own := [("e", 3)]) (by decide +kernel)) (fun _ _ _ _ _ => (pg_nm (pg_name (i := 3) sc_law_fields.nd rfl (by first | exact Or.inl rfl | exact Or.inr rfl)))) (fun _ _ _ _ _ => dts_nil) (fun _ _ _ _ _ => (de_fld (de_var (pv 3)))) (by decide))
      (dss_cons (ds_set (i := 2) sc_law_fields.nd rfl (by first | exact Or.inl rfl | exact Or.inr rfl) (de_slice false (de_var (pv 0)) (do_some de_int) (do_some de_int)))
      (dss_cons (ds_set (i := 1) sc_law_fields.nd rfl (by first | exact Or.inl rfl | exact Or.inr rfl) (de_op dop_add (de_var (pv 1)) (de_lst (da_cons (de_fld (de_ix dix_seq (de_var (pv 2)) de_int (fun _ _ => rfl))) (da_cons (de_fld (de_ix dix_seq (de_var (pv 2)) de_int (fun _ _ => rfl))) (da_cons (de_fld (de_ix dix_seq (de_var (pv 2)) de_int (fun _ _ => rfl))) (da_cons (de_fld (de_ix dix_seq (de_var (pv 2)) de_int (fun _ _ => rfl))) (da_cons (de_fld (de_ix dix_seq (de_var (pv 2)) de_int (fun _ _ => rfl))) da_nil))))))))
      (dss_cons (ds_set (i := 2) sc_law_fields.nd rfl (by first | exact Or.inl rfl | exact Or.inr rfl) (de_slice false (de_var (pv 0)) (do_some de_int) do_none))
      (dss_one (ds_ret (de_op dop_add (de_var (pv 1)) (de_lst (da_cons (de_fld (de_ix dix_seq (de_var (pv 2)) de_int (fun _ _ => rfl))) (da_cons (de_fld (de_ix dix_seq (de_var (pv 2)) de_int (fun _ _ => rfl))) (da_cons (de_fld (de_ix dix_seq (de_var (pv 2)) de_int (fun _ _ => rfl))) (da_cons (de_fld (de_ix dix_seq (de_var (pv 2)) de_int (fun _ _ => rfl))) da_nil))))))))))))) (rd_law_fields T.flk)
theorem ok_law_grown (T : Tx K mg) : FnOk P w K mg base CX0 1 T.law_grown.f T.law_grown.fd P_law_grown (cSp K (sp_law_grown K)) :=
  DFun.ok1 T.law_grown.F sc_law_grown rfl rfl (k := 0) (t := t_law_grown) (fun cdv A outer s H E hr => 
    (dss_cons (ds_if (dt_truth (de_callB dcall_isi (by rfl) T.n_isinstance (by decide +kernel) (da_cons (de_var (pv 0)) (da_cons (de_c (pe_bltn (v := .ty "list") (by rfl) T.n_list (by decide +kernel) rfl) fun _ => .ty .lst) da_nil)))) (dss_one (ds_expr (de_mtL PySem.F.slot_list_append PySem.F.type_list_append dmt_append (de_var (pv 0)) (da_cons de_str da_nil)))) dss_nil)
      (dss_cons (ds_if (dt_w (dw_and (dt_truth (de_callB dcall_isi (by rfl) T.n_isinstance (by decide +kernel) (da_cons (de_var (pv 0)) (da_cons (de_c (pe_bltn (v := .ty "tuple") (by rfl) T.n_tuple (by decide +kernel) rfl) fun _ => .ty .tup) da_nil)))) (dw_and1 (dt_cmp (dop_eqQ hr.units) (de_callB dcall_len (by rfl) T.n_len (by decide +kernel) (da_cons (de_var (pv 0)) da_nil)) de_int (nomark _))))) (dss_one (ds_expr (de_mtL PySem.F.slot_list_append PySem.F.type_list_append dmt_append (de_ix dix_seq (de_var (pv 0)) de_int (fun _ _ => rfl)) (da_cons de_str da_nil)))) dss_nil)
      (dss_one (ds_if (dt_truth (de_callB dcall_isi (by rfl) T.n_isinstance (by decide +kernel) (da_cons (de_var (pv 0)) (da_cons (de_c (pe_bltn (v := .ty "dict") (by rfl) T.n_dict (by decide +kernel) rfl) fun _ => .ty .dct) da_nil)))) (dss_cons (ds_put hr.units de_int (de_var (pv 0)) de_str)
      (dss_one (ds_expr (de_mtL PySem.F.slot_list_append PySem.F.type_list_append dmt_append (de_get hr.units (de_var (pv 0)) de_str (fun _ _ => rfl)) (da_cons de_str da_nil))))) dss_nil))))) rd_law_grown
theorem ok_law_kinds (T : Tx K mg) : FnOk P w K mg base CX0 1 T.law_kinds.f T.law_kinds.fd P_law_kinds (cSp K (sp_law_kinds K)) :=
  DFun.ok1 T.law_kinds.F sc_law_kinds rfl rfl (k := 0) (t := t_law_kinds K) (fun cdv A outer s H E hr => 
    (dss_cons (ds_set (i := 1) sc_law_kinds.nd rfl (by first | exact Or.inl rfl | exact Or.inr rfl) (de_lst (da_cons (de_isX (.own _) (de_var (pv 0)) (pe_glob (v := .ref (He.ga K "NoNumber")) rfl T.m_NoNumber rfl) (by rfl) T.n_isinstance) (da_cons (de_isX (.own _) (de_var (pv 0)) (pe_glob (v := .ref (He.ga K "NoName")) rfl T.m_NoName rfl) (by rfl) T.n_isinstance) (da_cons (de_isX (.own _) (de_var (pv 0)) (pe_glob (v := .ref (He.ga K "NoText")) rfl T.m_NoText rfl) (by rfl) T.n_isinstance) da_nil)))))
      (dss_cons (ds_set (i := 1) sc_law_kinds.nd rfl (by first | exact Or.inl rfl | exact Or.inr rfl) (de_op dop_add (de_var (pv 1)) (de_lst (da_cons (de_isX (.own _) (de_var (pv 0)) (pe_glob (v := .ref (He.ga K "NoPlace")) rfl T.m_NoPlace rfl) (by rfl) T.n_isinstance) (da_cons (de_isX (.own _) (de_var (pv 0)) (pe_glob (v := .ref (He.ga K "NoWay")) rfl T.m_NoWay rfl) (by rfl) T.n_isinstance) (da_cons (de_isX (.own _) (de_var (pv 0)) (pe_glob (v := .ref (He.ga K "NoRound")) rfl T.m_NoRound rfl) (by rfl) T.n_isinstance) da_nil))))))
      (dss_cons (ds_set (i := 1) sc_law_kinds.nd rfl (by first | exact Or.inl rfl | exact Or.inr rfl) (de_op dop_add (de_var (pv 1)) (de_lst (da_cons (de_isX (.own _) (de_var (pv 0)) (pe_glob (v := .ref (He.ga K "NoOutline")) rfl T.m_NoOutline rfl) (by rfl) T.n_isinstance) (da_cons (de_isX (.own _) (de_var (pv 0)) (pe_glob (v := .ref (He.ga K "NoPoint")) rfl T.m_NoPoint rfl) (by rfl) T.n_isinstance) (da_cons (de_isX (.own _) (de_var (pv 0)) (pe_glob (v := .ref (He.ga K "NoProgram")) rfl T.m_NoProgram rfl) (by rfl) T.n_isinstance) da_nil))))))
      (dss_cons (ds_set (i := 1) sc_law_kinds.nd rfl (by first | exact Or.inl rfl | exact Or.inr rfl) (de_op dop_add (de_var (pv 1)) (de_lst (da_cons (de_isX (.own _) (de_var (pv 0)) (pe_glob (v := .ref (He.ga K "NoWord")) rfl T.m_NoWord rfl) (by rfl) T.n_isinstance) (da_cons (de_isX (.own _) (de_var (pv 0)) (pe_glob (v := .ref (He.ga K "NoFont")) rfl T.m_NoFont rfl) (by rfl) T.n_isinstance) (da_cons (de_isX (.own _) (de_var (pv 0)) (pe_glob (v := .ref (He.ga K "NoWorths")) rfl T.m_NoWorths rfl) (by rfl) T.n_isinstance) da_nil))))))
      (dss_cons (ds_set (i := 1) sc_law_kinds.nd rfl (by first | exact Or.inl rfl | exact Or.inr rfl) (de_op dop_add (de_var (pv 1)) (de_lst (da_cons (de_isX (.own _) (de_var (pv 0)) (pe_glob (v := .ref (He.ga K "NoLetter")) rfl T.m_NoLetter rfl) (by rfl) T.n_isinstance) (da_cons (de_isX (.own _) (de_var (pv 0)) (pe_glob (v := .ref (He.ga K "NoParts")) rfl T.m_NoParts rfl) (by rfl) T.n_isinstance) (da_cons (de_isX (.own _) (de_var (pv 0)) (pe_glob (v := .ref (He.ga K "NoSize")) rfl T.m_NoSize rfl) (by rfl) T.n_isinstance) da_nil))))))
      (dss_cons (ds_set (i := 1) sc_law_kinds.nd rfl (by first | exact Or.inl rfl | exact Or.inr rfl) (de_op dop_add (de_var (pv 1)) (de_lst (da_cons (de_isX (.own _) (de_var (pv 0)) (pe_glob (v := .ref (He.ga K "NoZone")) rfl T.m_NoZone rfl) (by rfl) T.n_isinstance) (da_cons (de_isX (.own _) (de_var (pv 0)) (pe_glob (v := .ref (He.ga K "NoCells")) rfl T.m_NoCells rfl) (by rfl) T.n_isinstance) (da_cons (de_isX (.own _) (de_var (pv 0)) (pe_glob (v := .ref (He.ga K "NoChoices")) rfl T.m_NoChoices rfl) (by rfl) T.n_isinstance) da_nil))))))
      (dss_cons (ds_set (i := 1) sc_law_kinds.nd rfl (by first | exact Or.inl rfl | exact Or.inr rfl) (de_op dop_add (de_var (pv 1)) (de_lst (da_cons (de_isX (.own _) (de_var (pv 0)) (pe_glob (v := .ref (He.ga K "NoLine")) rfl T.m_NoLine rfl) (by rfl) T.n_isinstance) (da_cons (de_isX (.own _) (de_var (pv 0)) (pe_glob (v := .ref (He.ga K "NoLimit")) rfl T.m_NoLimit rfl) (by rfl) T.n_isinstance) (da_cons (de_isX (.own _) (de_var (pv 0)) (pe_glob (v := .ref (He.ga K "Crossed")) rfl T.m_Crossed rfl) (by rfl) T.n_isinstance) da_nil))))))
      (dss_cons (ds_set (i := 1) sc_law_kinds.nd rfl (by first | exact Or.inl rfl | exact Or.inr rfl) (de_op dop_add (de_var (pv 1)) (de_lst (da_cons (de_isX (.own _) (de_var (pv 0)) (pe_glob (v := .ref (He.ga K "TooMany")) rfl T.m_TooMany rfl) (by rfl) T.n_isinstance) (da_cons (de_isX (.own _) (de_var (pv 0)) (pe_glob (v := .ref (He.ga K "Deep")) rfl T.m_Deep rfl) (by rfl) T.n_isinstance) (da_cons (de_isX (.own _) (de_var (pv 0)) (pe_glob (v := .ref (He.ga K "NoRow")) rfl T.m_NoRow rfl) (by rfl) T.n_isinstance) da_nil))))))
      (dss_cons (ds_set (i := 1) sc_law_kinds.nd rfl (by first | exact Or.inl rfl | exact Or.inr rfl) (de_op dop_add (de_var (pv 1)) (de_lst (da_cons (de_isX (.own _) (de_var (pv 0)) (pe_glob (v := .ref (He.ga K "Fault")) rfl T.m_Fault rfl) (by rfl) T.n_isinstance) (da_cons (de_isX (.own _) (de_var (pv 0)) (pe_glob (v := .ref (He.ga K "NoEntry")) rfl T.m_NoEntry rfl) (by rfl) T.n_isinstance) (da_cons (de_isX (.own _) (de_var (pv 0)) (pe_glob (v := .ref (He.ga K "Unready")) rfl T.m_Unready rfl) (by rfl) T.n_isinstance) da_nil))))))
      (dss_cons (ds_set (i := 1) sc_law_kinds.nd rfl (by first | exact Or.inl rfl | exact Or.inr rfl) (de_op dop_add (de_var (pv 1)) (de_lst (da_cons (de_isX (.own _) (de_var (pv 0)) (pe_glob (v := .ref (He.ga K "NoDefinition")) rfl T.m_NoDefinition rfl) (by rfl) T.n_isinstance) (da_cons (de_isX (.own _) (de_var (pv 0)) (pe_glob (v := .ref (He.ga K "NoSuch")) rfl T.m_NoSuch rfl) (by rfl) T.n_isinstance) (da_cons (de_isX (.own _) (de_var (pv 0)) (pe_glob (v := .ref (He.ga K "NoBase")) rfl T.m_NoBase rfl) (by rfl) T.n_isinstance) da_nil))))))
      (dss_one (ds_ret (de_var (pv 1))))))))))))))) (rd_law_kinds T.kin)
theorem ok_law_right (T : Tx K mg) : FnOk P w K mg base CX0 4 T.law_right.f T.law_right.fd P_law_right (cSp K (sp_law_right K)) :=
  DFun.ok2 T.law_right.F sc_law_right rfl rfl (k := 3) (t := t_law_right K (sp_law_named K) (sp_law_made K) (sp_law_fields K) (sp_law_grown K) (sp_law_kinds K)) (fun cdv A outer s H E hr => 
    (dss_cons (ds_set (i := 2) sc_law_right.nd rfl (by first | exact Or.inl rfl | exact Or.inr rfl) (de_ifExp (dt_truth (de_callB dcall_isi (by rfl) T.n_isinstance (by decide +kernel) (da_cons (de_var (pv 0)) (da_cons (de_c (pe_bltn (v := .ty "list") (by rfl) T.n_list (by decide +kernel) rfl) fun _ => .ty .lst) da_nil)))) (de_callTy (dcall_list false) (by rfl) T.n_list (by decide +kernel) (da_cons (de_var (pv 0)) da_nil)) (de_var (pv 0))))
      (dss_cons (ds_set (i := 3) sc_law_right.nd rfl (by first | exact Or.inl rfl | exact Or.inr rfl) (de_lst (da_cons (de_call (ok_law_made T) (hr.mono (by decide)) rfl T.law_made.m T.law_made.F.kp T.law_made.b .nil (fun _ => .nil) pass0 (da_cons (de_var (pv 0)) (da_cons (de_var (pv 1)) da_nil))) (da_cons (de_call (ok_law_named T) (hr.mono (by decide)) rfl T.law_named.m T.law_named.F.kp T.law_named.b .nil (fun _ => .nil) pass0 (da_cons (de_var (pv 0)) (da_cons (de_var (pv 1)) da_nil))) da_nil))))
      (dss_cons (ds_set (i := 4) sc_law_right.nd rfl (by first | exact Or.inl rfl | exact Or.inr rfl) (de_call (ok_law_fields T) (hr.mono (by decide)) rfl T.law_fields.m T.law_fields.F.kp T.law_fields.b .nil (fun _ => .nil) pass0 (da_cons (de_ix dix_seq (de_var (pv 3)) de_int (fun _ _ => rfl)) da_nil)))
      (dss_cons (ds_if (dt_cmp (dop_neS hr.units) (de_var (pv 0)) (de_var (pv 2)) (nomark _)) (dss_one (ds_ret de_bl)) dss_nil)
      (dss_cons (ds_expr (de_call (ok_law_grown T) (hr.mono (by decide)) rfl T.law_grown.m T.law_grown.F.kp T.law_grown.b .nil (fun _ => .nil) pass0 (da_cons (de_var (pv 0)) da_nil)))
      (dss_cons (ds_expr (de_call (ok_law_grown T) (hr.mono (by decide)) rfl T.law_grown.m T.law_grown.F.kp T.law_grown.b .nil (fun _ => .nil) pass0 (da_cons (de_var (pv 1)) da_nil)))
      (dss_cons (ds_if (dt_w (dw_or (dt_cmp (dop_neB hr.units) (de_lc false (own := [("each", 6)]) (g := (.nm 6)) rfl sc_law_right.nd (di_seq (de_var (pv 4))) (blkOk_by (N := N_law_right) (sc := defScope s_law_right) (own := [("each", 6)]) (by decide +kernel)) (fun _ _ _ _ _ => (pg_nm (pg_name (i := 6) sc_law_right.nd rfl (by first | exact Or.inl rfl | exact Or.inr rfl)))) (fun _ _ _ _ _ => (dts_one (dt_cmp (dop_neS hr.units) (de_var (pv 6)) (de_var (pv 0)) (nomark _)))) (fun _ _ _ _ _ => (de_var (pv 6))) (by decide)) (de_lst da_nil) (nomark _)) (dw_or (dt_cmp (dop_neS hr.units) (de_fld (de_ix dix_seq (de_ix dix_seq (de_var (pv 3)) de_int (fun _ _ => rfl)) de_int (fun _ _ => rfl))) (de_var (pv 1)) (nomark _)) (dw_or1 (dt_cmp (dop_neS hr.units) (de_fld (de_ix dix_seq (de_ix dix_seq (de_var (pv 3)) de_int (fun _ _ => rfl)) de_int (fun _ _ => rfl))) (de_var (pv 1)) (nomark _)))))) (dss_one (ds_ret de_bl)) dss_nil)
      (dss_one (ds_ret (de_cmp (dop_eqB hr.units) (de_lc false (own := [("e", 5)]) (g := (.nm 5)) rfl sc_law_right.nd (di_seq (de_ix dix_seq (de_var (pv 3)) de_int (fun _ _ => rfl))) (blkOk_by (N := N_law_right) (sc := defScope s_law_right) (own := [("e", 5)]) (by decide +kernel)) (fun _ _ _ _ _ => (pg_nm (pg_name (i := 5) sc_law_right.nd rfl (by first | exact Or.inl rfl | exact Or.inr rfl)))) (fun _ _ _ _ _ => dts_nil) (fun _ _ _ _ _ => (de_call (ok_law_kinds T) (hr.mono (by decide)) rfl T.law_kinds.m T.law_kinds.F.kp T.law_kinds.b .nil (fun _ => .nil) pass0 (da_cons (de_var (pv 5)) da_nil))) (by decide)) (de_lc false (own := [("e", 5)]) (g := (.nm 5)) rfl sc_law_right.nd (di_seq (de_ix dix_seq (de_var (pv 3)) de_int (fun _ _ => rfl))) (blkOk_by (N := N_law_right) (sc := defScope s_law_right) (own := [("e", 5)]) (by decide +kernel)) (fun _ _ _ _ _ => (pg_nm (pg_name (i := 5) sc_law_right.nd rfl (by first | exact Or.inl rfl | exact Or.inr rfl)))) (fun _ _ _ _ _ => dts_nil) (fun _ _ _ _ _ => (de_call (ok_law_kinds T) (hr.mono (by decide)) rfl T.law_kinds.m T.law_kinds.F.kp T.law_kinds.b .nil (fun _ => .nil) pass0 (da_cons (de_var (pv 5)) da_nil))) (by decide)) (nomark _)))))))))))) (rd_law_right T.flk T.x_NoName.ne)
theorem ok_law_take (T : Tx K mg) : FnOk P w K mg base CX0 1 T.law_take.f T.law_take.fd P_law_take (cSp K sp_law_take) :=
  DFun.ok2 T.law_take.F sc_law_take rfl rfl (k := 0) (t := t_law_take) (fun cdv A outer s H E hr => 
    (dss_cons (ds_if (dt_cmp dop_gt (de_ix dix_seq (de_var (pv 0)) de_int (fun _ _ => rfl)) de_int (nomark _)) (dss_cons (ds_set (i := 2) sc_law_take.nd rfl (by first | exact Or.inl rfl | exact Or.inr rfl) (de_op dop_mod (de_ix dix_seq (de_var (pv 0)) de_int (fun _ _ => rfl)) (de_var (pv 1))))
      (dss_cons (ds_sub (de_op dop_fdiv (de_ix dix_seq (de_var (pv 0)) de_int (fun _ _ => rfl)) (de_var (pv 1))) (de_var (pv 0)) de_int)
      (dss_one (ds_ret (de_var (pv 2)))))) dss_nil)
      (dss_cons (ds_sub (de_op dop_add (de_ix dix_seq (de_var (pv 0)) de_int (fun _ _ => rfl)) de_int) (de_var (pv 0)) de_int)
      (dss_cons (ds_set (i := 3) sc_law_take.nd rfl (by first | exact Or.inl rfl | exact Or.inr rfl) (de_op dop_mod (de_op dop_pow (de_op dop_add (de_op dop_add (de_ix dix_seq (de_var (pv 0)) de_int (fun _ _ => rfl)) (de_op dop_mul de_int (de_ix dix_seq (de_var (pv 0)) de_int (fun _ _ => rfl)))) de_int) de_int) de_int))
      (dss_cons (ds_set (i := 3) sc_law_take.nd rfl (by first | exact Or.inl rfl | exact Or.inr rfl) (de_op dop_mod (de_op dop_pow (de_op dop_add (de_var (pv 3)) (de_op dop_mul de_int (de_ix dix_seq (de_var (pv 0)) de_int (fun _ _ => rfl)))) de_int) de_int))
      (dss_one (ds_ret (de_op dop_mod (de_op dop_fdiv (de_var (pv 3)) de_int) (de_var (pv 1)))))))))) rd_law_take
theorem ok_law_text (T : Tx K mg) : FnOk P w K mg base CX0 2 T.law_text.f T.law_text.fd P_law_text (cSp K sp_law_text) :=
  DFun.ok1 T.law_text.F sc_law_text rfl rfl (k := 1) (t := t_law_text sp_law_take) (fun cdv A outer s H E hr => 
    (dss_one (ds_ret (de_join de_str (de_lc false (own := [("k", 1)]) (g := (.nm 1)) rfl sc_law_text.nd (di_range1 (by rfl) T.n_range (de_call (ok_law_take T) (hr.mono (by decide)) rfl T.law_take.m T.law_take.F.kp T.law_take.b .nil (fun _ => .nil) pass0 (da_cons (de_var (pv 0)) (da_cons de_int da_nil)))) (blkOk_by (N := N_law_text) (sc := defScope s_law_text) (own := [("k", 1)]) (by decide +kernel)) (fun _ _ _ _ _ => (pg_nm (pg_name (i := 1) sc_law_text.nd rfl (by first | exact Or.inl rfl | exact Or.inr rfl)))) (fun _ _ _ _ _ => dts_nil) (fun _ _ _ _ _ => (de_ix dix_seq de_str (de_call (ok_law_take T) (hr.mono (by decide)) rfl T.law_take.m T.law_take.F.kp T.law_take.b .nil (fun _ => .nil) pass0 (da_cons (de_var (pv 0)) (da_cons de_int da_nil))) (fun _ _ => rfl))) (by decide)))))) rd_law_text
theorem ok_law_thing (T : Tx K mg) : FnOk P w K mg base CX0 3 T.law_thing.f T.law_thing.fd P_law_thing (cSp K (sp_law_thing K)) :=
  DFun.ok1 T.law_thing.F sc_law_thing rfl rfl (k := 2) (t := t_law_thing K sp_law_take sp_law_text) (fun cdv A outer s H E hr => 
    (dss_cons (ds_set (i := 1) sc_law_thing.nd rfl (by first | exact Or.inl rfl | exact Or.inr rfl) (de_call (ok_law_take T) (hr.mono (by decide)) rfl T.law_take.m T.law_take.F.kp T.law_take.b .nil (fun _ => .nil) pass0 (da_cons (de_var (pv 0)) (da_cons (de_op dop_pow de_int de_int) da_nil))))
      (dss_cons (ds_set (i := 2) sc_law_thing.nd rfl (by first | exact Or.inl rfl | exact Or.inr rfl) (de_call (ok_law_text T) (hr.mono (by decide)) rfl T.law_text.m T.law_text.F.kp T.law_text.b .nil (fun _ => .nil) pass0 (da_cons (de_var (pv 0)) da_nil)))
      (dss_cons (ds_set (i := 3) sc_law_thing.nd rfl (by first | exact Or.inl rfl | exact Or.inr rfl) (de_lst (da_cons (de_var (pv 1)) (da_cons (de_op dop_sub de_int (de_var (pv 1))) (da_cons (de_var (pv 2)) (da_cons de_non (da_cons de_bl (da_cons (de_lstM (da_cons (de_var (pv 1)) (da_cons (de_var (pv 2)) da_nil))) (da_cons (de_tup (da_cons (de_var (pv 2)) (da_cons (de_lstM (da_cons (de_var (pv 1)) da_nil)) da_nil))) (da_cons (de_disp (ps := [("a", (dLstM (dCons (dVar 2) dNil)))]) (.cons (de_lstM (da_cons (de_var (pv 2)) da_nil)) .nil) (by rfl) (by rfl) (by simp) (by decide)) (da_cons (de_lstM da_nil) (da_cons (de_newG (ix := [0]) T.x_NoName.o (newP1 T.x_NoName.e) T.x_NoName.ini T.x_NoName.ti (ok_i_NoName T) (hr.mono (by decide)) T.i_NoName_kb1 (by rfl) T.x_NoName.m (da_cons (de_var (pv 2)) da_nil)) da_nil))))))))))))
      (dss_one (ds_ret (de_ix dix_seq (de_var (pv 3)) (de_call (ok_law_take T) (hr.mono (by decide)) rfl T.law_take.m T.law_take.F.kp T.law_take.b .nil (fun _ => .nil) pass0 (da_cons (de_var (pv 0)) (da_cons de_int da_nil))) (fun _ _ => rfl)))))))) rd_law_thing
theorem ok_law (T : Tx K mg) {f : Addr} {fd : FuncData} (F : FunD K "law" "law" (defArgs s_law) (defBody s_law) (defScope s_law) [] [] f fd) : FnOk P w K mg base CX0 5 f fd P_law (cSp K sp_law) :=
  DFun.ok1 F sc_law rfl rfl (k := 4) (t := t_law K sp_law_box sp_law_cell (sp_law_right K) (sp_law_thing K)) (fun cdv A outer s H E hr => 
    (dss_cons (ds_for (g := (.nm 1)) PassesOwn.never rfl (di_range1 (by rfl) T.n_range (de_callB (dcall_max2 rfl) (by rfl) T.n_max (by decide +kernel) (da_cons de_int (da_cons (de_callB (dcall_min2 rfl) (by rfl) T.n_min (by decide +kernel) (da_cons de_int (da_cons (de_callB dcall_len (by rfl) T.n_len (by decide +kernel) (da_cons (de_var (pv 0)) da_nil)) da_nil))) da_nil)))) (pg_nm (pg_name (i := 1) sc_law.nd rfl (by first | exact Or.inl rfl | exact Or.inr rfl))) (dss_cons (ds_set (i := 2) sc_law.nd rfl (by first | exact Or.inl rfl | exact Or.inr rfl) (de_call (ok_law_box T) (hr.mono (by decide)) rfl T.law_box.m T.law_box.F.kp T.law_box.b .nil (fun _ => .nil) pass0 (da_cons (de_call (ok_law_cell T) (hr.mono (by decide)) rfl T.law_cell.m T.law_cell.F.kp T.law_cell.b .nil (fun _ => .nil) pass0 (da_cons (de_var (pv 0)) (da_cons (de_var (pv 1)) da_nil))) da_nil)))
      (dss_one (ds_if (dt_not (dt_truth (de_call (ok_law_right T) (hr.mono (by decide)) rfl T.law_right.m T.law_right.F.kp T.law_right.b .nil (fun _ => .nil) pass0 (da_cons (de_call (ok_law_thing T) (hr.mono (by decide)) rfl T.law_thing.m T.law_thing.F.kp T.law_thing.b .nil (fun _ => .nil) pass0 (da_cons (de_var (pv 2)) da_nil)) (da_cons (de_call (ok_law_thing T) (hr.mono (by decide)) rfl T.law_thing.m T.law_thing.F.kp T.law_thing.b .nil (fun _ => .nil) pass0 (da_cons (de_var (pv 2)) da_nil)) da_nil))))) (dss_one (ds_ret de_bl)) dss_nil))))
      (dss_one (ds_ghost (ds_ret de_bl))))) rd_law
end
def dd_law_box : He.DefD := ⟨("_law_box", none), "_law_box", "_law_box", defArgs s_law_box, defBody s_law_box, defScope s_law_box, [], []⟩
def dd_law_cell : He.DefD := ⟨("_law_cell", none), "_law_cell", "_law_cell", defArgs s_law_cell, defBody s_law_cell, defScope s_law_cell, [], []⟩
def dd_law_named : He.DefD := ⟨("_law_named", none), "_law_named", "_law_named", defArgs s_law_named, defBody s_law_named, defScope s_law_named, [], []⟩
def dd_law_made : He.DefD := ⟨("_law_made", none), "_law_made", "_law_made", defArgs s_law_made, defBody s_law_made, defScope s_law_made, [], []⟩
def dd_law_fields : He.DefD := ⟨("_law_fields", none), "_law_fields", "_law_fields", defArgs s_law_fields, defBody s_law_fields, defScope s_law_fields, [], []⟩
def dd_law_grown : He.DefD := ⟨("_law_grown", none), "_law_grown", "_law_grown", defArgs s_law_grown, defBody s_law_grown, defScope s_law_grown, [], []⟩
def dd_law_kinds : He.DefD := ⟨("_law_kinds", none), "_law_kinds", "_law_kinds", defArgs s_law_kinds, defBody s_law_kinds, defScope s_law_kinds, [], []⟩
def dd_law_right : He.DefD := ⟨("_law_right", none), "_law_right", "_law_right", defArgs s_law_right, defBody s_law_right, defScope s_law_right, [], []⟩
def dd_law_take : He.DefD := ⟨("_law_take", none), "_law_take", "_law_take", defArgs s_law_take, defBody s_law_take, defScope s_law_take, [], []⟩
def dd_law_text : He.DefD := ⟨("_law_text", none), "_law_text", "_law_text", defArgs s_law_text, defBody s_law_text, defScope s_law_text, [], []⟩
def dd_law_thing : He.DefD := ⟨("_law_thing", none), "_law_thing", "_law_thing", defArgs s_law_thing, defBody s_law_thing, defScope s_law_thing, [], []⟩
def dd_law : He.DefD := ⟨("law", none), "law", "law", defArgs s_law, defBody s_law, defScope s_law, [], []⟩
def ddi_NoWay : He.DefD := ⟨("NoWay", some "__init__"), "__init__", "NoWay.__init__", defArgs si_NoWay, defBody si_NoWay, defScope si_NoWay, [], []⟩
def ddi_NoPlace : He.DefD := ⟨("NoPlace", some "__init__"), "__init__", "NoPlace.__init__", defArgs si_NoPlace, defBody si_NoPlace, defScope si_NoPlace, [], []⟩
def ddi_NoText : He.DefD := ⟨("NoText", some "__init__"), "__init__", "NoText.__init__", defArgs si_NoText, defBody si_NoText, defScope si_NoText, [], []⟩
def ddi_NoName : He.DefD := ⟨("NoName", some "__init__"), "__init__", "NoName.__init__", defArgs si_NoName, defBody si_NoName, defScope si_NoName, [], []⟩
def ddi_NoNumber : He.DefD := ⟨("NoNumber", some "__init__"), "__init__", "NoNumber.__init__", defArgs si_NoNumber, defBody si_NoNumber, defScope si_NoNumber, [], []⟩
def ddi_NoProgram : He.DefD := ⟨("NoProgram", some "__init__"), "__init__", "NoProgram.__init__", defArgs si_NoProgram, defBody si_NoProgram, defScope si_NoProgram, [], []⟩
def ddi_NoPoint : He.DefD := ⟨("NoPoint", some "__init__"), "__init__", "NoPoint.__init__", defArgs si_NoPoint, defBody si_NoPoint, defScope si_NoPoint, [], []⟩
def ddi_NoOutline : He.DefD := ⟨("NoOutline", some "__init__"), "__init__", "NoOutline.__init__", defArgs si_NoOutline, defBody si_NoOutline, defScope si_NoOutline, [], []⟩
def ddi_NoRound : He.DefD := ⟨("NoRound", some "__init__"), "__init__", "NoRound.__init__", defArgs si_NoRound, defBody si_NoRound, defScope si_NoRound, [], []⟩
def ddi_NoLetter : He.DefD := ⟨("NoLetter", some "__init__"), "__init__", "NoLetter.__init__", defArgs si_NoLetter, defBody si_NoLetter, defScope si_NoLetter, [], []⟩
def ddi_NoWorths : He.DefD := ⟨("NoWorths", some "__init__"), "__init__", "NoWorths.__init__", defArgs si_NoWorths, defBody si_NoWorths, defScope si_NoWorths, [], []⟩
def ddi_NoFont : He.DefD := ⟨("NoFont", some "__init__"), "__init__", "NoFont.__init__", defArgs si_NoFont, defBody si_NoFont, defScope si_NoFont, [], []⟩
def ddi_NoWord : He.DefD := ⟨("NoWord", some "__init__"), "__init__", "NoWord.__init__", defArgs si_NoWord, defBody si_NoWord, defScope si_NoWord, [], []⟩
def ddi_NoCells : He.DefD := ⟨("NoCells", some "__init__"), "__init__", "NoCells.__init__", defArgs si_NoCells, defBody si_NoCells, defScope si_NoCells, [], []⟩
def ddi_NoZone : He.DefD := ⟨("NoZone", some "__init__"), "__init__", "NoZone.__init__", defArgs si_NoZone, defBody si_NoZone, defScope si_NoZone, [], []⟩
def ddi_NoSize : He.DefD := ⟨("NoSize", some "__init__"), "__init__", "NoSize.__init__", defArgs si_NoSize, defBody si_NoSize, defScope si_NoSize, [], []⟩
def ddi_NoParts : He.DefD := ⟨("NoParts", some "__init__"), "__init__", "NoParts.__init__", defArgs si_NoParts, defBody si_NoParts, defScope si_NoParts, [], []⟩
def ddi_Crossed : He.DefD := ⟨("Crossed", some "__init__"), "__init__", "Crossed.__init__", defArgs si_Crossed, defBody si_Crossed, defScope si_Crossed, [], []⟩
def ddi_NoLimit : He.DefD := ⟨("NoLimit", some "__init__"), "__init__", "NoLimit.__init__", defArgs si_NoLimit, defBody si_NoLimit, defScope si_NoLimit, [], []⟩
def ddi_NoLine : He.DefD := ⟨("NoLine", some "__init__"), "__init__", "NoLine.__init__", defArgs si_NoLine, defBody si_NoLine, defScope si_NoLine, [], []⟩
def ddi_NoChoices : He.DefD := ⟨("NoChoices", some "__init__"), "__init__", "NoChoices.__init__", defArgs si_NoChoices, defBody si_NoChoices, defScope si_NoChoices, [], []⟩
def ddi_Fault : He.DefD := ⟨("Fault", some "__init__"), "__init__", "Fault.__init__", defArgs si_Fault, defBody si_Fault, defScope si_Fault, [], []⟩
def ddi_NoRow : He.DefD := ⟨("NoRow", some "__init__"), "__init__", "NoRow.__init__", defArgs si_NoRow, defBody si_NoRow, defScope si_NoRow, [], []⟩
def ddi_Deep : He.DefD := ⟨("Deep", some "__init__"), "__init__", "Deep.__init__", defArgs si_Deep, defBody si_Deep, defScope si_Deep, [], []⟩
def ddi_TooMany : He.DefD := ⟨("TooMany", some "__init__"), "__init__", "TooMany.__init__", defArgs si_TooMany, defBody si_TooMany, defScope si_TooMany, [], []⟩
def ddi_NoSuch : He.DefD := ⟨("NoSuch", some "__init__"), "__init__", "NoSuch.__init__", defArgs si_NoSuch, defBody si_NoSuch, defScope si_NoSuch, [], []⟩
def ddi_NoDefinition : He.DefD := ⟨("NoDefinition", some "__init__"), "__init__", "NoDefinition.__init__", defArgs si_NoDefinition, defBody si_NoDefinition, defScope si_NoDefinition, [], []⟩
def ddi_Unready : He.DefD := ⟨("Unready", some "__init__"), "__init__", "Unready.__init__", defArgs si_Unready, defBody si_Unready, defScope si_Unready, [], []⟩
def ddi_NoEntry : He.DefD := ⟨("NoEntry", some "__init__"), "__init__", "NoEntry.__init__", defArgs si_NoEntry, defBody si_NoEntry, defScope si_NoEntry, [], []⟩
def ddi_NoBase : He.DefD := ⟨("NoBase", some "__init__"), "__init__", "NoBase.__init__", defArgs si_NoBase, defBody si_NoBase, defScope si_NoBase, [], []⟩
def fnL : List He.DefD := [dd_law_box, dd_law_cell, dd_law_named, dd_law_made, dd_law_fields, dd_law_grown, dd_law_kinds, dd_law_right, dd_law_take, dd_law_text, dd_law_thing, dd_law, ddi_NoWay, ddi_NoPlace, ddi_NoText, ddi_NoName, ddi_NoNumber, ddi_NoProgram, ddi_NoPoint, ddi_NoOutline, ddi_NoRound, ddi_NoLetter, ddi_NoWorths, ddi_NoFont, ddi_NoWord, ddi_NoCells, ddi_NoZone, ddi_NoSize, ddi_NoParts, ddi_Crossed, ddi_NoLimit, ddi_NoLine, ddi_NoChoices, ddi_Fault, ddi_NoRow, ddi_Deep, ddi_TooMany, ddi_NoSuch, ddi_NoDefinition, ddi_Unready, ddi_NoEntry, ddi_NoBase]
def exB (K : PySem.W.Frag) : Bool := xgB K "NoWay" ["found"] DLX.tlV "ValueError.__new__" && (xgB K "NoPlace" ["found"] DLX.tlV "ValueError.__new__" && (xgB K "NoText" ["found"] DLX.tlV "ValueError.__new__" && (xgB K "NoName" ["found"] DLX.tlV "ValueError.__new__" && (xgB K "NoNumber" ["found"] DLX.tlV "ValueError.__new__" && (xgB K "NoProgram" ["found"] DLX.tlV "ValueError.__new__" && (xgB K "NoPoint" ["found"] DLX.tlV "ValueError.__new__" && (xgB K "NoOutline" ["found"] DLX.tlV "ValueError.__new__" && (xgB K "NoRound" ["found"] DLX.tlV "ValueError.__new__" && (xgB K "NoLetter" ["found"] DLX.tlV "ValueError.__new__" && (xgB K "NoWorths" ["found"] DLX.tlV "ValueError.__new__" && (xgB K "NoFont" ["found"] DLX.tlV "ValueError.__new__" && (xgB K "NoWord" ["found"] DLX.tlV "ValueError.__new__" && (xgB K "NoCells" ["found"] DLX.tlV "ValueError.__new__" && (xgB K "NoZone" ["found"] DLX.tlV "ValueError.__new__" && (xgB K "NoSize" ["found"] DLX.tlV "ValueError.__new__" && (xgB K "NoParts" ["found"] DLX.tlV "ValueError.__new__" && (xgB K "Crossed" ["one", "other"] DLX.tlV "ValueError.__new__" && (xgB K "NoLimit" ["found"] DLX.tlV "ValueError.__new__" && (xgB K "NoLine" ["found"] DLX.tlV "ValueError.__new__" && (xgB K "NoChoices" ["found"] DLX.tlV "ValueError.__new__" && (xgB K "Fault" ["done", "why"] DLX.tlV "ValueError.__new__" && (xgB K "NoRow" ["at"] DLX.tlV "ValueError.__new__" && (xgB K "Deep" ["at"] DLX.tlV "ValueError.__new__" && (xgB K "TooMany" ["many"] DLX.tlV "ValueError.__new__" && (xgB K "NoSuch" ["found"] DLX.tlK "LookupError.__new__" && (xgB K "NoDefinition" ["found"] DLX.tlK "LookupError.__new__" && (xgB K "Unready" [] DLX.tlL "LookupError.__new__" && (xgB K "NoEntry" ["found"] DLX.tlL "LookupError.__new__" && (xgB K "NoBase" ["found"] DLX.tlZ "ZeroDivisionError.__new__" && ((mB K "FontError" && bsgB K (He.ga K "FontError") "ValueError.__init__") && ((mB K "Unknown" && bsgB K (He.ga K "Unknown") "KeyError.__init__") && ((mB K "Missing" && bsgB K (He.ga K "Missing") "LookupError.__init__") && (xzB K "ZeroDivisionError" "ZeroDivisionError.__init__" && (mB K "NoText" && (mB K "NoName" && (mB K "NoNumber" && (mB K "NoRound" && (mB K "NoWay" && (mB K "NoPlace" && (mB K "NoProgram" && (mB K "NoPoint" && (mB K "NoOutline" && (mB K "NoWorths" && (mB K "NoFont" && (mB K "NoWord" && (mB K "NoSize" && (mB K "NoParts" && (mB K "NoLetter" && (mB K "NoChoices" && (mB K "NoCells" && (mB K "NoZone" && (mB K "Crossed" && (mB K "NoLimit" && (mB K "NoLine" && (mB K "NoRow" && (mB K "Deep" && (mB K "TooMany" && (mB K "Unready" && (mB K "NoEntry" && (mB K "Fault" && (mB K "NoBase" && (mB K "NoSuch" && (mB K "NoDefinition" && (kinB K ["NoNumber", "NoName", "NoText", "NoPlace", "NoWay", "NoRound", "NoOutline", "NoPoint", "NoProgram", "NoWord", "NoFont", "NoWorths", "NoLetter", "NoParts", "NoSize", "NoZone", "NoCells", "NoChoices", "NoLine", "NoLimit", "Crossed", "TooMany", "Deep", "NoRow", "Fault", "NoEntry", "Unready", "NoDefinition", "NoSuch", "NoBase"] && (flkB K [("NoNumber", "found"), ("NoName", "found"), ("NoText", "found"), ("NoPlace", "found"), ("NoWay", "found"), ("NoRound", "found"), ("NoOutline", "found"), ("NoPoint", "found"), ("NoProgram", "found"), ("NoWord", "found"), ("NoFont", "found"), ("NoWorths", "found"), ("NoLetter", "found"), ("NoParts", "found"), ("NoSize", "found"), ("NoZone", "found"), ("NoCells", "found"), ("NoChoices", "found"), ("NoLine", "found"), ("NoLimit", "found"), ("NoEntry", "found"), ("NoDefinition", "found"), ("NoSuch", "found"), ("NoBase", "found"), ("Crossed", "one"), ("Crossed", "other"), ("TooMany", "many"), ("Deep", "at"), ("NoRow", "at"), ("Fault", "done"), ("Fault", "why")])))))))))))))))))))))))))))))))))))))))))))))))))))))))))))))))))
def fa0 : List He.Fa := [.glo "_law_box", .glo "_law_cell", .glo "_law_named", .glo "_law_made", .glo "_law_fields", .glo "_law_grown", .glo "_law_kinds", .glo "_law_right", .glo "_law_take", .glo "_law_text", .glo "_law_thing", .glo "law", .free "dict", .free "isinstance", .free "len", .free "list", .free "max", .free "min", .free "range", .free "tuple", .free "ZeroDivisionError"]
def faL : List He.Fa := fa0
def ot0 : List Str := ["FontError", "Missing", "Unknown", "NoNumber", "NoName", "NoText", "NoPlace", "NoWay", "NoRound", "NoOutline", "NoPoint", "NoProgram", "NoWord", "NoFont", "NoWorths", "NoLetter", "NoParts", "NoSize", "NoZone", "NoCells", "NoChoices", "NoLine", "NoLimit", "Crossed", "TooMany", "Deep", "NoRow", "Fault", "NoEntry", "Unready"]
def ot1 : List Str := ["NoDefinition", "NoSuch", "NoBase", "_law_cell", "_law_box", "_law_take", "_law_kinds", "_law_made", "_law_named", "_law_fields", "_law_grown", "_law_text", "_law_thing", "_law_right"]
def others : List Str := ot0 ++ ot1
abbrev R : PySem.W.OpenRow := PySem.W.OpenLaw.row PySem.Challenge.rw_hintscribe_k04_refusals_by_names
abbrev hk : PySem.W.Hook := hookEN 4 faL fnL exB
def ob (s : PySem.W.SharedT) : AlE := obsEN 4 faL fnL exB (HandSHeadRun.getT s)
theorem ob_eq (s : PySem.W.SharedT) : ob s = hk.obs s.abs := obsEN_eq (HandSHeadRun.getT_eq s)
theorem run (w : World) : HandSHeadRun.RunEq R (PySem.W.view R.prog [46]) hk ob 20000 others w := by
  intro os
  kernel_rfl
theorem facts {P : Program} {w : World} {K : PySem.W.Frag} {h : Heap} {mg : Str → Option Value} {f : Addr} (X : K.In h) (G : h.Ns mainGlobals mg) (hfa : mg ("law" : Str) = some (.ref f)) (c : SaysE faL fnL exB K) :
    ∃ fd : FuncData, (∀ (s : Shared) (v : Value), BindsTo s fd ⟨[v], []⟩ [("script", v)]) ∧ ∀ base : Heap, K.In base → base.Ns mainGlobals mg → FnOk P w K mg base CX0 5 f fd P_law (cSp K sp_law) := by
  have cx := c.more
  have c := c.d
  have cx : exB K = true := cx
  unfold exB at cx
  obtain ⟨cx_NoWay, cx⟩ := He.ba cx
  obtain ⟨cx_NoPlace, cx⟩ := He.ba cx
  obtain ⟨cx_NoText, cx⟩ := He.ba cx
  obtain ⟨cx_NoName, cx⟩ := He.ba cx
  obtain ⟨cx_NoNumber, cx⟩ := He.ba cx
  obtain ⟨cx_NoProgram, cx⟩ := He.ba cx
  obtain ⟨cx_NoPoint, cx⟩ := He.ba cx
  obtain ⟨cx_NoOutline, cx⟩ := He.ba cx
  obtain ⟨cx_NoRound, cx⟩ := He.ba cx
  obtain ⟨cx_NoLetter, cx⟩ := He.ba cx
  obtain ⟨cx_NoWorths, cx⟩ := He.ba cx
  obtain ⟨cx_NoFont, cx⟩ := He.ba cx
  obtain ⟨cx_NoWord, cx⟩ := He.ba cx
  obtain ⟨cx_NoCells, cx⟩ := He.ba cx
  obtain ⟨cx_NoZone, cx⟩ := He.ba cx
  obtain ⟨cx_NoSize, cx⟩ := He.ba cx
  obtain ⟨cx_NoParts, cx⟩ := He.ba cx
  obtain ⟨cx_Crossed, cx⟩ := He.ba cx
  obtain ⟨cx_NoLimit, cx⟩ := He.ba cx
  obtain ⟨cx_NoLine, cx⟩ := He.ba cx
  obtain ⟨cx_NoChoices, cx⟩ := He.ba cx
  obtain ⟨cx_Fault, cx⟩ := He.ba cx
  obtain ⟨cx_NoRow, cx⟩ := He.ba cx
  obtain ⟨cx_Deep, cx⟩ := He.ba cx
  obtain ⟨cx_TooMany, cx⟩ := He.ba cx
  obtain ⟨cx_NoSuch, cx⟩ := He.ba cx
  obtain ⟨cx_NoDefinition, cx⟩ := He.ba cx
  obtain ⟨cx_Unready, cx⟩ := He.ba cx
  obtain ⟨cx_NoEntry, cx⟩ := He.ba cx
  obtain ⟨cx_NoBase, cx⟩ := He.ba cx
  obtain ⟨cxb_FontError, cx⟩ := He.ba cx
  obtain ⟨cxb_Unknown, cx⟩ := He.ba cx
  obtain ⟨cxb_Missing, cx⟩ := He.ba cx
  obtain ⟨cxb_ZeroDivisionError, cx⟩ := He.ba cx
  obtain ⟨cxm_NoText, cx⟩ := He.ba cx
  obtain ⟨cxm_NoName, cx⟩ := He.ba cx
  obtain ⟨cxm_NoNumber, cx⟩ := He.ba cx
  obtain ⟨cxm_NoRound, cx⟩ := He.ba cx
  obtain ⟨cxm_NoWay, cx⟩ := He.ba cx
  obtain ⟨cxm_NoPlace, cx⟩ := He.ba cx
  obtain ⟨cxm_NoProgram, cx⟩ := He.ba cx
  obtain ⟨cxm_NoPoint, cx⟩ := He.ba cx
  obtain ⟨cxm_NoOutline, cx⟩ := He.ba cx
  obtain ⟨cxm_NoWorths, cx⟩ := He.ba cx
  obtain ⟨cxm_NoFont, cx⟩ := He.ba cx
  obtain ⟨cxm_NoWord, cx⟩ := He.ba cx
  obtain ⟨cxm_NoSize, cx⟩ := He.ba cx
  obtain ⟨cxm_NoParts, cx⟩ := He.ba cx
  obtain ⟨cxm_NoLetter, cx⟩ := He.ba cx
  obtain ⟨cxm_NoChoices, cx⟩ := He.ba cx
  obtain ⟨cxm_NoCells, cx⟩ := He.ba cx
  obtain ⟨cxm_NoZone, cx⟩ := He.ba cx
  obtain ⟨cxm_Crossed, cx⟩ := He.ba cx
  obtain ⟨cxm_NoLimit, cx⟩ := He.ba cx
  obtain ⟨cxm_NoLine, cx⟩ := He.ba cx
  obtain ⟨cxm_NoRow, cx⟩ := He.ba cx
  obtain ⟨cxm_Deep, cx⟩ := He.ba cx
  obtain ⟨cxm_TooMany, cx⟩ := He.ba cx
  obtain ⟨cxm_Unready, cx⟩ := He.ba cx
  obtain ⟨cxm_NoEntry, cx⟩ := He.ba cx
  obtain ⟨cxm_Fault, cx⟩ := He.ba cx
  obtain ⟨cxm_NoBase, cx⟩ := He.ba cx
  obtain ⟨cxm_NoSuch, cx⟩ := He.ba cx
  obtain ⟨cxm_NoDefinition, cx⟩ := He.ba cx
  obtain ⟨cx_kin, cx⟩ := He.ba cx
  have cx_flk := cx
  obtain ⟨fd_law_box, F_law_box⟩ := c.def_ 0 (d := dd_law_box) rfl
  obtain ⟨fd_law_cell, F_law_cell⟩ := c.def_ 1 (d := dd_law_cell) rfl
  obtain ⟨fd_law_named, F_law_named⟩ := c.def_ 2 (d := dd_law_named) rfl
  obtain ⟨fd_law_made, F_law_made⟩ := c.def_ 3 (d := dd_law_made) rfl
  obtain ⟨fd_law_fields, F_law_fields⟩ := c.def_ 4 (d := dd_law_fields) rfl
  obtain ⟨fd_law_grown, F_law_grown⟩ := c.def_ 5 (d := dd_law_grown) rfl
  obtain ⟨fd_law_kinds, F_law_kinds⟩ := c.def_ 6 (d := dd_law_kinds) rfl
  obtain ⟨fd_law_right, F_law_right⟩ := c.def_ 7 (d := dd_law_right) rfl
  obtain ⟨fd_law_take, F_law_take⟩ := c.def_ 8 (d := dd_law_take) rfl
  obtain ⟨fd_law_text, F_law_text⟩ := c.def_ 9 (d := dd_law_text) rfl
  obtain ⟨fd_law_thing, F_law_thing⟩ := c.def_ 10 (d := dd_law_thing) rfl
  obtain ⟨fd_law, F_law⟩ := c.def_ 11 (d := dd_law) rfl
  obtain ⟨fdi_NoWay, Fi_NoWay⟩ := c.def_ 12 (d := ddi_NoWay) rfl
  obtain ⟨fdi_NoPlace, Fi_NoPlace⟩ := c.def_ 13 (d := ddi_NoPlace) rfl
  obtain ⟨fdi_NoText, Fi_NoText⟩ := c.def_ 14 (d := ddi_NoText) rfl
  obtain ⟨fdi_NoName, Fi_NoName⟩ := c.def_ 15 (d := ddi_NoName) rfl
  obtain ⟨fdi_NoNumber, Fi_NoNumber⟩ := c.def_ 16 (d := ddi_NoNumber) rfl
  obtain ⟨fdi_NoProgram, Fi_NoProgram⟩ := c.def_ 17 (d := ddi_NoProgram) rfl
  obtain ⟨fdi_NoPoint, Fi_NoPoint⟩ := c.def_ 18 (d := ddi_NoPoint) rfl
  obtain ⟨fdi_NoOutline, Fi_NoOutline⟩ := c.def_ 19 (d := ddi_NoOutline) rfl
  obtain ⟨fdi_NoRound, Fi_NoRound⟩ := c.def_ 20 (d := ddi_NoRound) rfl
  obtain ⟨fdi_NoLetter, Fi_NoLetter⟩ := c.def_ 21 (d := ddi_NoLetter) rfl
  obtain ⟨fdi_NoWorths, Fi_NoWorths⟩ := c.def_ 22 (d := ddi_NoWorths) rfl
  obtain ⟨fdi_NoFont, Fi_NoFont⟩ := c.def_ 23 (d := ddi_NoFont) rfl
  obtain ⟨fdi_NoWord, Fi_NoWord⟩ := c.def_ 24 (d := ddi_NoWord) rfl
  obtain ⟨fdi_NoCells, Fi_NoCells⟩ := c.def_ 25 (d := ddi_NoCells) rfl
  obtain ⟨fdi_NoZone, Fi_NoZone⟩ := c.def_ 26 (d := ddi_NoZone) rfl
  obtain ⟨fdi_NoSize, Fi_NoSize⟩ := c.def_ 27 (d := ddi_NoSize) rfl
  obtain ⟨fdi_NoParts, Fi_NoParts⟩ := c.def_ 28 (d := ddi_NoParts) rfl
  obtain ⟨fdi_Crossed, Fi_Crossed⟩ := c.def_ 29 (d := ddi_Crossed) rfl
  obtain ⟨fdi_NoLimit, Fi_NoLimit⟩ := c.def_ 30 (d := ddi_NoLimit) rfl
  obtain ⟨fdi_NoLine, Fi_NoLine⟩ := c.def_ 31 (d := ddi_NoLine) rfl
  obtain ⟨fdi_NoChoices, Fi_NoChoices⟩ := c.def_ 32 (d := ddi_NoChoices) rfl
  obtain ⟨fdi_Fault, Fi_Fault⟩ := c.def_ 33 (d := ddi_Fault) rfl
  obtain ⟨fdi_NoRow, Fi_NoRow⟩ := c.def_ 34 (d := ddi_NoRow) rfl
  obtain ⟨fdi_Deep, Fi_Deep⟩ := c.def_ 35 (d := ddi_Deep) rfl
  obtain ⟨fdi_TooMany, Fi_TooMany⟩ := c.def_ 36 (d := ddi_TooMany) rfl
  obtain ⟨fdi_NoSuch, Fi_NoSuch⟩ := c.def_ 37 (d := ddi_NoSuch) rfl
  obtain ⟨fdi_NoDefinition, Fi_NoDefinition⟩ := c.def_ 38 (d := ddi_NoDefinition) rfl
  obtain ⟨fdi_Unready, Fi_Unready⟩ := c.def_ 39 (d := ddi_Unready) rfl
  obtain ⟨fdi_NoEntry, Fi_NoEntry⟩ := c.def_ 40 (d := ddi_NoEntry) rfl
  obtain ⟨fdi_NoBase, Fi_NoBase⟩ := c.def_ 41 (d := ddi_NoBase) rfl
  have e := hfa.symm.trans (He.glo_ok X G (c.fact 11 (f := .glo "law") rfl))
  cases e
  let T : Tx K mg := ⟨
    ⟨_, fd_law_box, F_law_box, He.glo_ok X G (c.fact 0 (f := .glo "_law_box") rfl), FunD.bindsN F_law_box (fun _ _ _ _ _ _ us hl => match us, hl with | [_], _ => rfl)⟩,
    ⟨_, fd_law_cell, F_law_cell, He.glo_ok X G (c.fact 1 (f := .glo "_law_cell") rfl), FunD.bindsN F_law_cell (fun _ _ _ _ _ _ us hl => match us, hl with | [_, _], _ => rfl)⟩,
    ⟨_, fd_law_named, F_law_named, He.glo_ok X G (c.fact 2 (f := .glo "_law_named") rfl), FunD.bindsN F_law_named (fun _ _ _ _ _ _ us hl => match us, hl with | [_, _], _ => rfl)⟩,
    ⟨_, fd_law_made, F_law_made, He.glo_ok X G (c.fact 3 (f := .glo "_law_made") rfl), FunD.bindsN F_law_made (fun _ _ _ _ _ _ us hl => match us, hl with | [_, _], _ => rfl)⟩,
    ⟨_, fd_law_fields, F_law_fields, He.glo_ok X G (c.fact 4 (f := .glo "_law_fields") rfl), FunD.bindsN F_law_fields (fun _ _ _ _ _ _ us hl => match us, hl with | [_], _ => rfl)⟩,
    ⟨_, fd_law_grown, F_law_grown, He.glo_ok X G (c.fact 5 (f := .glo "_law_grown") rfl), FunD.bindsN F_law_grown (fun _ _ _ _ _ _ us hl => match us, hl with | [_], _ => rfl)⟩,
    ⟨_, fd_law_kinds, F_law_kinds, He.glo_ok X G (c.fact 6 (f := .glo "_law_kinds") rfl), FunD.bindsN F_law_kinds (fun _ _ _ _ _ _ us hl => match us, hl with | [_], _ => rfl)⟩,
    ⟨_, fd_law_right, F_law_right, He.glo_ok X G (c.fact 7 (f := .glo "_law_right") rfl), FunD.bindsN F_law_right (fun _ _ _ _ _ _ us hl => match us, hl with | [_, _], _ => rfl)⟩,
    ⟨_, fd_law_take, F_law_take, He.glo_ok X G (c.fact 8 (f := .glo "_law_take") rfl), FunD.bindsN F_law_take (fun _ _ _ _ _ _ us hl => match us, hl with | [_, _], _ => rfl)⟩,
    ⟨_, fd_law_text, F_law_text, He.glo_ok X G (c.fact 9 (f := .glo "_law_text") rfl), FunD.bindsN F_law_text (fun _ _ _ _ _ _ us hl => match us, hl with | [_], _ => rfl)⟩,
    ⟨_, fd_law_thing, F_law_thing, He.glo_ok X G (c.fact 10 (f := .glo "_law_thing") rfl), FunD.bindsN F_law_thing (fun _ _ _ _ _ _ us hl => match us, hl with | [_], _ => rfl)⟩,
    He.free_ok X G (c.fact 12 (f := .free "dict") rfl),
    He.free_ok X G (c.fact 13 (f := .free "isinstance") rfl),
    He.free_ok X G (c.fact 14 (f := .free "len") rfl),
    He.free_ok X G (c.fact 15 (f := .free "list") rfl),
    He.free_ok X G (c.fact 16 (f := .free "max") rfl),
    He.free_ok X G (c.fact 17 (f := .free "min") rfl),
    He.free_ok X G (c.fact 18 (f := .free "range") rfl),
    He.free_ok X G (c.fact 19 (f := .free "tuple") rfl),
    xbs_ok X G (by decide +kernel) cxb_FontError,
    xbs_ok X G (by decide +kernel) cxb_Unknown,
    xbs_ok X G (by decide +kernel) cxb_Missing,
    He.free_ok X G (c.fact 20 (f := .free "ZeroDivisionError") rfl),
    xzB_ok cxb_ZeroDivisionError,
    xgB_ok X G DLX.tailV cx_NoWay,
    fdi_NoWay,
    Fi_NoWay,
    kb_of_fun Fi_NoWay (0 :: [0].map (· + 1)) (fun _ _ _ _ _ _ us ws h1 h2 => match us, ws, h1, h2 with | [_], [_], _, _ => rfl),
    kb_of_fun Fi_NoWay (0 :: [0].map (· + 1)) (fun _ _ _ _ _ _ us ws h1 h2 => match us, ws, h1, h2 with | [_, _], [], _, _ => rfl),
    xgB_ok X G DLX.tailV cx_NoPlace,
    fdi_NoPlace,
    Fi_NoPlace,
    kb_of_fun Fi_NoPlace (0 :: [0].map (· + 1)) (fun _ _ _ _ _ _ us ws h1 h2 => match us, ws, h1, h2 with | [_], [_], _, _ => rfl),
    kb_of_fun Fi_NoPlace (0 :: [0].map (· + 1)) (fun _ _ _ _ _ _ us ws h1 h2 => match us, ws, h1, h2 with | [_, _], [], _, _ => rfl),
    xgB_ok X G DLX.tailV cx_NoText,
    fdi_NoText,
    Fi_NoText,
    kb_of_fun Fi_NoText (0 :: [0].map (· + 1)) (fun _ _ _ _ _ _ us ws h1 h2 => match us, ws, h1, h2 with | [_], [_], _, _ => rfl),
    kb_of_fun Fi_NoText (0 :: [0].map (· + 1)) (fun _ _ _ _ _ _ us ws h1 h2 => match us, ws, h1, h2 with | [_, _], [], _, _ => rfl),
    xgB_ok X G DLX.tailV cx_NoName,
    fdi_NoName,
    Fi_NoName,
    kb_of_fun Fi_NoName (0 :: [0].map (· + 1)) (fun _ _ _ _ _ _ us ws h1 h2 => match us, ws, h1, h2 with | [_], [_], _, _ => rfl),
    kb_of_fun Fi_NoName (0 :: [0].map (· + 1)) (fun _ _ _ _ _ _ us ws h1 h2 => match us, ws, h1, h2 with | [_, _], [], _, _ => rfl),
    xgB_ok X G DLX.tailV cx_NoNumber,
    fdi_NoNumber,
    Fi_NoNumber,
    kb_of_fun Fi_NoNumber (0 :: [0].map (· + 1)) (fun _ _ _ _ _ _ us ws h1 h2 => match us, ws, h1, h2 with | [_], [_], _, _ => rfl),
    kb_of_fun Fi_NoNumber (0 :: [0].map (· + 1)) (fun _ _ _ _ _ _ us ws h1 h2 => match us, ws, h1, h2 with | [_, _], [], _, _ => rfl),
    xgB_ok X G DLX.tailV cx_NoProgram,
    fdi_NoProgram,
    Fi_NoProgram,
    kb_of_fun Fi_NoProgram (0 :: [0].map (· + 1)) (fun _ _ _ _ _ _ us ws h1 h2 => match us, ws, h1, h2 with | [_], [_], _, _ => rfl),
    kb_of_fun Fi_NoProgram (0 :: [0].map (· + 1)) (fun _ _ _ _ _ _ us ws h1 h2 => match us, ws, h1, h2 with | [_, _], [], _, _ => rfl),
    xgB_ok X G DLX.tailV cx_NoPoint,
    fdi_NoPoint,
    Fi_NoPoint,
    kb_of_fun Fi_NoPoint (0 :: [0].map (· + 1)) (fun _ _ _ _ _ _ us ws h1 h2 => match us, ws, h1, h2 with | [_], [_], _, _ => rfl),
    kb_of_fun Fi_NoPoint (0 :: [0].map (· + 1)) (fun _ _ _ _ _ _ us ws h1 h2 => match us, ws, h1, h2 with | [_, _], [], _, _ => rfl),
    xgB_ok X G DLX.tailV cx_NoOutline,
    fdi_NoOutline,
    Fi_NoOutline,
    kb_of_fun Fi_NoOutline (0 :: [0].map (· + 1)) (fun _ _ _ _ _ _ us ws h1 h2 => match us, ws, h1, h2 with | [_], [_], _, _ => rfl),
    kb_of_fun Fi_NoOutline (0 :: [0].map (· + 1)) (fun _ _ _ _ _ _ us ws h1 h2 => match us, ws, h1, h2 with | [_, _], [], _, _ => rfl),
    xgB_ok X G DLX.tailV cx_NoRound,
    fdi_NoRound,
    Fi_NoRound,
    kb_of_fun Fi_NoRound (0 :: [0].map (· + 1)) (fun _ _ _ _ _ _ us ws h1 h2 => match us, ws, h1, h2 with | [_], [_], _, _ => rfl),
    kb_of_fun Fi_NoRound (0 :: [0].map (· + 1)) (fun _ _ _ _ _ _ us ws h1 h2 => match us, ws, h1, h2 with | [_, _], [], _, _ => rfl),
    xgB_ok X G DLX.tailV cx_NoLetter,
    fdi_NoLetter,
    Fi_NoLetter,
    kb_of_fun Fi_NoLetter (0 :: [0].map (· + 1)) (fun _ _ _ _ _ _ us ws h1 h2 => match us, ws, h1, h2 with | [_], [_], _, _ => rfl),
    kb_of_fun Fi_NoLetter (0 :: [0].map (· + 1)) (fun _ _ _ _ _ _ us ws h1 h2 => match us, ws, h1, h2 with | [_, _], [], _, _ => rfl),
    xgB_ok X G DLX.tailV cx_NoWorths,
    fdi_NoWorths,
    Fi_NoWorths,
    kb_of_fun Fi_NoWorths (0 :: [0].map (· + 1)) (fun _ _ _ _ _ _ us ws h1 h2 => match us, ws, h1, h2 with | [_], [_], _, _ => rfl),
    kb_of_fun Fi_NoWorths (0 :: [0].map (· + 1)) (fun _ _ _ _ _ _ us ws h1 h2 => match us, ws, h1, h2 with | [_, _], [], _, _ => rfl),
    xgB_ok X G DLX.tailV cx_NoFont,
    fdi_NoFont,
    Fi_NoFont,
    kb_of_fun Fi_NoFont (0 :: [0].map (· + 1)) (fun _ _ _ _ _ _ us ws h1 h2 => match us, ws, h1, h2 with | [_], [_], _, _ => rfl),
    kb_of_fun Fi_NoFont (0 :: [0].map (· + 1)) (fun _ _ _ _ _ _ us ws h1 h2 => match us, ws, h1, h2 with | [_, _], [], _, _ => rfl),
    xgB_ok X G DLX.tailV cx_NoWord,
    fdi_NoWord,
    Fi_NoWord,
    kb_of_fun Fi_NoWord (0 :: [0].map (· + 1)) (fun _ _ _ _ _ _ us ws h1 h2 => match us, ws, h1, h2 with | [_], [_], _, _ => rfl),
    kb_of_fun Fi_NoWord (0 :: [0].map (· + 1)) (fun _ _ _ _ _ _ us ws h1 h2 => match us, ws, h1, h2 with | [_, _], [], _, _ => rfl),
    xgB_ok X G DLX.tailV cx_NoCells,
    fdi_NoCells,
    Fi_NoCells,
    kb_of_fun Fi_NoCells (0 :: [0].map (· + 1)) (fun _ _ _ _ _ _ us ws h1 h2 => match us, ws, h1, h2 with | [_], [_], _, _ => rfl),
    kb_of_fun Fi_NoCells (0 :: [0].map (· + 1)) (fun _ _ _ _ _ _ us ws h1 h2 => match us, ws, h1, h2 with | [_, _], [], _, _ => rfl),
    xgB_ok X G DLX.tailV cx_NoZone,
    fdi_NoZone,
    Fi_NoZone,
    kb_of_fun Fi_NoZone (0 :: [0].map (· + 1)) (fun _ _ _ _ _ _ us ws h1 h2 => match us, ws, h1, h2 with | [_], [_], _, _ => rfl),
    kb_of_fun Fi_NoZone (0 :: [0].map (· + 1)) (fun _ _ _ _ _ _ us ws h1 h2 => match us, ws, h1, h2 with | [_, _], [], _, _ => rfl),
    xgB_ok X G DLX.tailV cx_NoSize,
    fdi_NoSize,
    Fi_NoSize,
    kb_of_fun Fi_NoSize (0 :: [0].map (· + 1)) (fun _ _ _ _ _ _ us ws h1 h2 => match us, ws, h1, h2 with | [_], [_], _, _ => rfl),
    kb_of_fun Fi_NoSize (0 :: [0].map (· + 1)) (fun _ _ _ _ _ _ us ws h1 h2 => match us, ws, h1, h2 with | [_, _], [], _, _ => rfl),
    xgB_ok X G DLX.tailV cx_NoParts,
    fdi_NoParts,
    Fi_NoParts,
    kb_of_fun Fi_NoParts (0 :: [0].map (· + 1)) (fun _ _ _ _ _ _ us ws h1 h2 => match us, ws, h1, h2 with | [_], [_], _, _ => rfl),
    kb_of_fun Fi_NoParts (0 :: [0].map (· + 1)) (fun _ _ _ _ _ _ us ws h1 h2 => match us, ws, h1, h2 with | [_, _], [], _, _ => rfl),
    xgB_ok X G DLX.tailV cx_Crossed,
    fdi_Crossed,
    Fi_Crossed,
    kb_of_fun Fi_Crossed (0 :: [1, 0].map (· + 1)) (fun _ _ _ _ _ _ us ws h1 h2 => match us, ws, h1, h2 with | [_], [_, _], _, _ => rfl),
    kb_of_fun Fi_Crossed (0 :: [0, 1].map (· + 1)) (fun _ _ _ _ _ _ us ws h1 h2 => match us, ws, h1, h2 with | [_, _, _], [], _, _ => rfl),
    xgB_ok X G DLX.tailV cx_NoLimit,
    fdi_NoLimit,
    Fi_NoLimit,
    kb_of_fun Fi_NoLimit (0 :: [0].map (· + 1)) (fun _ _ _ _ _ _ us ws h1 h2 => match us, ws, h1, h2 with | [_], [_], _, _ => rfl),
    kb_of_fun Fi_NoLimit (0 :: [0].map (· + 1)) (fun _ _ _ _ _ _ us ws h1 h2 => match us, ws, h1, h2 with | [_, _], [], _, _ => rfl),
    xgB_ok X G DLX.tailV cx_NoLine,
    fdi_NoLine,
    Fi_NoLine,
    kb_of_fun Fi_NoLine (0 :: [0].map (· + 1)) (fun _ _ _ _ _ _ us ws h1 h2 => match us, ws, h1, h2 with | [_], [_], _, _ => rfl),
    kb_of_fun Fi_NoLine (0 :: [0].map (· + 1)) (fun _ _ _ _ _ _ us ws h1 h2 => match us, ws, h1, h2 with | [_, _], [], _, _ => rfl),
    xgB_ok X G DLX.tailV cx_NoChoices,
    fdi_NoChoices,
    Fi_NoChoices,
    kb_of_fun Fi_NoChoices (0 :: [0].map (· + 1)) (fun _ _ _ _ _ _ us ws h1 h2 => match us, ws, h1, h2 with | [_], [_], _, _ => rfl),
    kb_of_fun Fi_NoChoices (0 :: [0].map (· + 1)) (fun _ _ _ _ _ _ us ws h1 h2 => match us, ws, h1, h2 with | [_, _], [], _, _ => rfl),
    xgB_ok X G DLX.tailV cx_Fault,
    fdi_Fault,
    Fi_Fault,
    kb_of_fun Fi_Fault (0 :: [1, 0].map (· + 1)) (fun _ _ _ _ _ _ us ws h1 h2 => match us, ws, h1, h2 with | [_], [_, _], _, _ => rfl),
    kb_of_fun Fi_Fault (0 :: [0, 1].map (· + 1)) (fun _ _ _ _ _ _ us ws h1 h2 => match us, ws, h1, h2 with | [_, _, _], [], _, _ => rfl),
    xgB_ok X G DLX.tailV cx_NoRow,
    fdi_NoRow,
    Fi_NoRow,
    kb_of_fun Fi_NoRow (0 :: [0].map (· + 1)) (fun _ _ _ _ _ _ us ws h1 h2 => match us, ws, h1, h2 with | [_], [_], _, _ => rfl),
    kb_of_fun Fi_NoRow (0 :: [0].map (· + 1)) (fun _ _ _ _ _ _ us ws h1 h2 => match us, ws, h1, h2 with | [_, _], [], _, _ => rfl),
    xgB_ok X G DLX.tailV cx_Deep,
    fdi_Deep,
    Fi_Deep,
    kb_of_fun Fi_Deep (0 :: [0].map (· + 1)) (fun _ _ _ _ _ _ us ws h1 h2 => match us, ws, h1, h2 with | [_], [_], _, _ => rfl),
    kb_of_fun Fi_Deep (0 :: [0].map (· + 1)) (fun _ _ _ _ _ _ us ws h1 h2 => match us, ws, h1, h2 with | [_, _], [], _, _ => rfl),
    xgB_ok X G DLX.tailV cx_TooMany,
    fdi_TooMany,
    Fi_TooMany,
    kb_of_fun Fi_TooMany (0 :: [0].map (· + 1)) (fun _ _ _ _ _ _ us ws h1 h2 => match us, ws, h1, h2 with | [_], [_], _, _ => rfl),
    kb_of_fun Fi_TooMany (0 :: [0].map (· + 1)) (fun _ _ _ _ _ _ us ws h1 h2 => match us, ws, h1, h2 with | [_, _], [], _, _ => rfl),
    xgB_ok X G DLX.tailK cx_NoSuch,
    fdi_NoSuch,
    Fi_NoSuch,
    kb_of_fun Fi_NoSuch (0 :: [0].map (· + 1)) (fun _ _ _ _ _ _ us ws h1 h2 => match us, ws, h1, h2 with | [_], [_], _, _ => rfl),
    kb_of_fun Fi_NoSuch (0 :: [0].map (· + 1)) (fun _ _ _ _ _ _ us ws h1 h2 => match us, ws, h1, h2 with | [_, _], [], _, _ => rfl),
    xgB_ok X G DLX.tailK cx_NoDefinition,
    fdi_NoDefinition,
    Fi_NoDefinition,
    kb_of_fun Fi_NoDefinition (0 :: [0].map (· + 1)) (fun _ _ _ _ _ _ us ws h1 h2 => match us, ws, h1, h2 with | [_], [_], _, _ => rfl),
    kb_of_fun Fi_NoDefinition (0 :: [0].map (· + 1)) (fun _ _ _ _ _ _ us ws h1 h2 => match us, ws, h1, h2 with | [_, _], [], _, _ => rfl),
    xgB_ok X G DLX.tailL cx_Unready,
    fdi_Unready,
    Fi_Unready,
    kb_of_fun Fi_Unready (0 :: [].map (· + 1)) (fun _ _ _ _ _ _ us ws h1 h2 => match us, ws, h1, h2 with | [_], [], _, _ => rfl),
    xgB_ok X G DLX.tailL cx_NoEntry,
    fdi_NoEntry,
    Fi_NoEntry,
    kb_of_fun Fi_NoEntry (0 :: [0].map (· + 1)) (fun _ _ _ _ _ _ us ws h1 h2 => match us, ws, h1, h2 with | [_], [_], _, _ => rfl),
    kb_of_fun Fi_NoEntry (0 :: [0].map (· + 1)) (fun _ _ _ _ _ _ us ws h1 h2 => match us, ws, h1, h2 with | [_, _], [], _, _ => rfl),
    xgB_ok X G DLX.tailZ cx_NoBase,
    fdi_NoBase,
    Fi_NoBase,
    kb_of_fun Fi_NoBase (0 :: [0].map (· + 1)) (fun _ _ _ _ _ _ us ws h1 h2 => match us, ws, h1, h2 with | [_], [_], _, _ => rfl),
    kb_of_fun Fi_NoBase (0 :: [0].map (· + 1)) (fun _ _ _ _ _ _ us ws h1 h2 => match us, ws, h1, h2 with | [_, _], [], _, _ => rfl),
    mB_ok X G cxm_NoText,
    mB_ok X G cxm_NoName,
    mB_ok X G cxm_NoNumber,
    mB_ok X G cxm_NoRound,
    mB_ok X G cxm_NoWay,
    mB_ok X G cxm_NoPlace,
    mB_ok X G cxm_NoProgram,
    mB_ok X G cxm_NoPoint,
    mB_ok X G cxm_NoOutline,
    mB_ok X G cxm_NoWorths,
    mB_ok X G cxm_NoFont,
    mB_ok X G cxm_NoWord,
    mB_ok X G cxm_NoSize,
    mB_ok X G cxm_NoParts,
    mB_ok X G cxm_NoLetter,
    mB_ok X G cxm_NoChoices,
    mB_ok X G cxm_NoCells,
    mB_ok X G cxm_NoZone,
    mB_ok X G cxm_Crossed,
    mB_ok X G cxm_NoLimit,
    mB_ok X G cxm_NoLine,
    mB_ok X G cxm_NoRow,
    mB_ok X G cxm_Deep,
    mB_ok X G cxm_TooMany,
    mB_ok X G cxm_Unready,
    mB_ok X G cxm_NoEntry,
    mB_ok X G cxm_Fault,
    mB_ok X G cxm_NoBase,
    mB_ok X G cxm_NoSuch,
    mB_ok X G cxm_NoDefinition,
    kinB_ok cx_kin,
    flkB_ok cx_flk⟩
  exact ⟨fd_law, fun s v => FunD.bindsA (ps := P_law) F_law (fun _ _ _ _ _ _ us hl => match us, hl with | [_], _ => rfl) s [v] rfl, fun base _ _ => ok_law T F_law⟩
end K04
open PySem PySem.W PySem.Calls PyProof.Rows
set_option maxRecDepth 100000 in
set_option maxHeartbeats 0 in
theorem PySem.Challenge.cw_hintscribe_k04_refusals_by_names_holds : PySem.Challenge.rw_hintscribe_k04_refusals_by_names.Holds := by
  w_on; o_law
  refine HandSHeadRun.head_any (r := OpenLaw.row PySem.Challenge.rw_hintscribe_k04_refusals_by_names) (q := view (OpenLaw.row PySem.Challenge.rw_hintscribe_k04_refusals_by_names).prog [46]) (H := K04.hk) (ob := K04.ob) (M := 20000) (loose := K04.others) (d := HandSHeadRun.topDef (OpenLaw.row PySem.Challenge.rw_hintscribe_k04_refusals_by_names).prog 46) (kwd := []) K04.ob_eq
    (by kernel_rfl) (fun s => by kernel_rfl) K04.run (by kernel_rfl) (by kernel_rfl) (by kernel_rfl) (by rfl) (by first | assumption | decide +kernel) (by decide +kernel) ⟨rfl, rfl, rfl, rfl, rfl, by decide +kernel⟩ ?hw ?hc
  case hw => w_witness2
  case hc =>
    refine DL.walk_lawE (l := PySem.Challenge.rw_hintscribe_k04_refusals_by_names) (n := 63) (k := 5) (x := "script") rfl (by decide) (by kernel_rfl) ⟨rfl, by decide, by decide⟩ ?F
    intro w mg fa h Y G hmg0
    obtain ⟨K, KX, c⟩ := Y
    have hmg : mg ("law" : PySem.Str) = some (.ref fa) := by
      have e : (HandSHeadRun.topDef (OpenLaw.row PySem.Challenge.rw_hintscribe_k04_refusals_by_names).prog 46).name = ("law" : PySem.Str) := by kernel_rfl
      rw [← e]
      exact hmg0
    obtain ⟨fd, hb, hF⟩ := K04.facts (P := (PySem.Challenge.rw_hintscribe_k04_refusals_by_names).prog) (w := w) KX G hmg c
    exact ⟨K, fd, KX, hb, hF⟩
#print axioms PySem.Challenge.cw_hintscribe_k04_refusals_by_names_holds
