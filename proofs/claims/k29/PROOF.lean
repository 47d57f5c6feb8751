import PyProof.Rows.All
import Wide.All
import OpenK.AllK
import Wide.FinOn
import HandS.ForMost
import HandS.Exc
import HandS.WordsExc
import HandS.Defaults
import HandS.HeadHook2
import HandS.Wide
import HandS.IsInst
import HandS.TupAny
import PyProof.ReprReads
import HandS.TupMul
import HandS.TupLe
import HandS.Text
import HandS.Gcd
import PyProof.LongRange
import HandS.ExcOwn
import HandS.CallSlots
import KE.KExcSuper
import HandS.ExcIs
import HandS.ExcValue
import HandS.SortInts
import HandS.WideBits
import HandS.RaiseMore
import HandS.Conv
import HandS.Evl
import KE.KTupSum
import PyProof.ListRange
import HandS.Deep
import HandS.MakeKwOnly
import HandS.Head0
import HandS.Head1
import HandS.Head2
import HandS.HeadEnd
import HandS.HeadHook1
import PySem.Challenge.RW_alldue_k29_dates_by_the_civil_count
set_option Elab.async false
set_option linter.all false
set_option maxRecDepth 100000
section
/-! A data layer over the hand layer: values as data, slots as data, judgements that say what a piece of text computes on data. -/
namespace DL
open PySem PySem.Spec L2

/-! ### data -/
inductive D where
  | non | bl (b : Bool) | int (i : Int) | str (x : Str) | ty (n : String)
  | lst (ds : List D) | tup (ds : List D)
  | ins (C : Str) (fs : List (Str × D))
  | exc (C : Str) (x : D)
  | scr (ns : List Int)
  deriving Inhabited

/-- what is true of an exception object -/
def ExcAt (C d a : Addr) (h : Heap) : Prop := ∃ oe vs, h.get? a = some oe ∧ oe.cls = .ref C ∧ oe.dict = some d ∧ oe.data = .fields vs

mutual
inductive Is (K : PySem.W.Frag) (F : Hp) : V → D → Prop
  | non : Is K F .non .non
  | bl (b : Bool) : Is K F (.bl b) (.bl b)
  | int (i : Int) : Is K F (.int i) (.int i)
  | str (x : Str) : Is K F (.str x) (.str x)
  | ty (n : String) : Is K F (.ty n) (.ty n)
  | lst {a : Addr} {xs : List V} {ds : List D} : F a = some (.lst xs) → IsAll K F xs ds → Is K F (.ref a) (.lst ds)
  | tup {a : Addr} {xs : List V} {ds : List D} : SqT K F a xs → IsAll K F xs ds → Is K F (.ref a) (.tup ds)
  | ins {a dx : Addr} {C : Str} {fs : List (Str × V)} {gs : List (Str × D)} : F a = some (.ins (He.ga K C) dx fs) → IsFs K F fs gs → Is K F (.ref a) (.ins C gs)
  | exc {a d : Addr} {C : Str} {v : V} {x : D} : F a = some (.ext (ExcAt (He.ga K C) d a)) → F d = some (.xd [(("value" : Str), v)]) → Is K F v x → Is K F (.ref a) (.exc C x)
  | scr {a : Addr} {ns : List Int} : SqL K F a (ns.map V.int) → Is K F (.ref a) (.scr ns)
inductive IsAll (K : PySem.W.Frag) (F : Hp) : List V → List D → Prop
  | nil : IsAll K F [] []
  | cons {v : V} {vs : List V} {d : D} {ds : List D} : Is K F v d → IsAll K F vs ds → IsAll K F (v :: vs) (d :: ds)
inductive IsFs (K : PySem.W.Frag) (F : Hp) : List (Str × V) → List (Str × D) → Prop
  | nil : IsFs K F [] []
  | cons {f : Str} {v : V} {vs : List (Str × V)} {d : D} {ds : List (Str × D)} : Is K F v d → IsFs K F vs ds → IsFs K F ((f, v) :: vs) ((f, d) :: ds)
end

theorem sqL_mono {K : PySem.W.Frag} {H H' : Hp} {a : Addr} {xs : List V} (e : Same H H') (h : SqL K H a xs) : SqL K H' a xs := e.seq h
theorem sqT_mono {K : PySem.W.Frag} {H H' : Hp} {a : Addr} {xs : List V} (e : Same H H') (h : SqT K H a xs) : SqT K H' a xs := by
  rcases h with (h | ⟨o, h⟩) | h
  · exact .inl (.inl (e _ _ h))
  · exact .inl (.inr ⟨o, e _ _ h⟩)
  · exact .inr h

mutual
theorem Is.mono {K : PySem.W.Frag} {F F' : Hp} (e : Same F F') {v : V} {d : D} (h : Is K F v d) : Is K F' v d := by
  cases h with
  | non => exact .non
  | bl b => exact .bl b
  | int i => exact .int i
  | str x => exact .str x
  | ty n => exact .ty n
  | lst s t => exact .lst (e _ _ s) (IsAll.mono e t)
  | scr s => exact .scr (sqL_mono e s)
  | tup s t => exact .tup (sqT_mono e s) (IsAll.mono e t)
  | ins s t => exact .ins (e _ _ s) (IsFs.mono e t)
  | exc s t u => exact .exc (e _ _ s) (e _ _ t) (Is.mono e u)
termination_by sizeOf d
theorem IsAll.mono {K : PySem.W.Frag} {F F' : Hp} (e : Same F F') {vs : List V} {ds : List D} (h : IsAll K F vs ds) : IsAll K F' vs ds := by
  cases h with
  | nil => exact .nil
  | cons a b => exact .cons (Is.mono e a) (IsAll.mono e b)
termination_by sizeOf ds
theorem IsFs.mono {K : PySem.W.Frag} {F F' : Hp} (e : Same F F') {vs : List (Str × V)} {ds : List (Str × D)} (h : IsFs K F vs ds) : IsFs K F' vs ds := by
  cases h with
  | nil => exact .nil
  | cons a b => exact .cons (Is.mono e a) (IsFs.mono e b)
termination_by sizeOf ds
end

section
variable {K : PySem.W.Frag} {F F' : Hp}
theorem IsAll.length : ∀ {vs : List V} {ds : List D}, IsAll K F vs ds → vs.length = ds.length
  | _, _, .nil => rfl
  | _, _, .cons _ t => congrArg Nat.succ t.length
theorem IsAll.get : ∀ {vs : List V} {ds : List D} {i : Nat} {d : D}, IsAll K F vs ds → ds[i]? = some d → ∃ v, vs[i]? = some v ∧ Is K F v d
  | _, _, _, _, .nil, e => by simp at e
  | _, _, 0, _, .cons r _, e => by simp at e; subst e; exact ⟨_, rfl, r⟩
  | _, _, i + 1, _, .cons _ t, e => by
    obtain ⟨v, h1, h2⟩ := t.get (i := i) (by simpa using e)
    exact ⟨v, by simpa using h1, h2⟩
theorem IsAll.getV : ∀ {vs : List V} {ds : List D} {i : Nat} {v : V}, IsAll K F vs ds → vs[i]? = some v → ∃ d, ds[i]? = some d ∧ Is K F v d
  | _, _, _, _, .nil, e => by simp at e
  | _, _, 0, _, .cons r _, e => by simp at e; subst e; exact ⟨_, rfl, r⟩
  | _, _, i + 1, _, .cons _ t, e => by
    obtain ⟨v, h1, h2⟩ := t.getV (i := i) (by simpa using e)
    exact ⟨v, by simpa using h1, h2⟩
theorem IsAll.append : ∀ {vs ws : List V} {ds es : List D}, IsAll K F vs ds → IsAll K F ws es → IsAll K F (vs ++ ws) (ds ++ es)
  | _, _, _, _, .nil, s => s
  | _, _, _, _, .cons r t, s => .cons r (t.append s)
theorem IsAll.take : ∀ {vs : List V} {ds : List D} (n : Nat), IsAll K F vs ds → IsAll K F (vs.take n) (ds.take n)
  | _, _, 0, _ => by simp; exact .nil
  | _, _, _ + 1, .nil => .nil
  | _, _, n + 1, .cons r t => .cons r (t.take n)
theorem IsAll.drop : ∀ {vs : List V} {ds : List D} (n : Nat), IsAll K F vs ds → IsAll K F (vs.drop n) (ds.drop n)
  | _, _, 0, r => r
  | _, _, _ + 1, .nil => .nil
  | _, _, n + 1, .cons _ t => t.drop n
theorem IsAll.set {v : V} {d : D} (r : Is K F v d) : ∀ {vs : List V} {ds : List D} (i : Nat), IsAll K F vs ds → IsAll K F (vs.set i v) (ds.set i d)
  | _, _, _, .nil => .nil
  | _, _, 0, .cons _ t => .cons r t
  | _, _, i + 1, .cons q t => .cons q (IsAll.set r i t)
theorem IsAll.rep {vs : List V} {ds : List D} (h : IsAll K F vs ds) : ∀ n : Nat, IsAll K F (List.replicate n vs).flatten (List.replicate n ds).flatten
  | 0 => .nil
  | n + 1 => by
    rw [List.replicate_succ, List.replicate_succ, List.flatten_cons, List.flatten_cons]
    exact h.append (IsAll.rep h n)
theorem IsAll.ints : ∀ ns : List Int, IsAll K F (ns.map V.int) (ns.map D.int)
  | [] => .nil
  | n :: ns => .cons (.int n) (IsAll.ints ns)
theorem IsFs.look : ∀ {vs : List (Str × V)} {ds : List (Str × D)} {f : Str} {d : D}, IsFs K F vs ds → ds.lookup f = some d → ∃ v, vs.lookup f = some v ∧ Is K F v d
  | _, _, _, _, .nil, e => by simp at e
  | _, _, f, d, .cons (f := g) r t, e => by
    rw [List.lookup_cons] at e ⊢
    cases q : (f == g) with
    | true =>
      rw [q] at e
      cases e
      exact ⟨_, rfl, r⟩
    | false =>
      rw [q] at e
      exact t.look e
theorem IsFs.none : ∀ {vs : List (Str × V)} {ds : List (Str × D)} {f : Str}, IsFs K F vs ds → ds.lookup f = none → vs.lookup f = none
  | _, _, _, .nil, _ => rfl
  | _, _, f, .cons (f := g) r t, e => by
    rw [List.lookup_cons] at e ⊢
    cases q : (f == g) with
    | true =>
      rw [q] at e
      cases e
    | false =>
      rw [q] at e
      exact t.none e
end

/-! ### slots -/
inductive Sl where
  | no | val (d : D) | own (ds : List D) | io (ds : List D)
  deriving Inhabited
abbrev Rho := List Sl
/-- the content of a list that the def may change -/
def Sl.mut : Sl → Option (List D)
  | .own ds => some ds
  | .io ds => some ds
  | _ => none

/-- the list changed -/
def Sl.put (s : Sl) (es : List D) : Sl := match s with
  | .io _ => .io es
  | _ => .own es
/-- where a def began: its frozen part, its heap, the list that it may change -/
structure Ct where
  F : Hp
  H : Hp
  io : Option Addr

structure SR (K : PySem.W.Frag) (c : Ct) (F H : Hp) (σ : St) (ρ : Rho) : Prop where
  fh : Same F H
  ef : Same c.F F
  eh : ∀ (a : Addr) (o : HO), c.H a = some o → c.io ≠ some a → H a = some o
  nf : ∀ (a : Addr), c.H a ≠ none → c.F a = none → F a = none
  ioh : ∀ (a : Addr), c.io = some a → H a ≠ none
  vl : ∀ (i : Nat) (d : D), ρ[i]? = some (.val d) → ∃ v, σ[i]? = some (some v) ∧ Is K F v d
  ow : ∀ (i : Nat) (s : Sl) (ds : List D), ρ[i]? = some s → s.mut = some ds → ∃ p xs, σ[i]? = some (some (.ref p)) ∧ F p = none ∧ H p = some (.lst xs) ∧ IsAll K F xs ds ∧
    (s = .own ds → c.H p = none) ∧ (s = .io ds → c.io = some p)
  ne : ∀ (i j : Nat) (s t : Sl) (ds es : List D) (p : Addr), i ≠ j → ρ[i]? = some s → s.mut = some ds → ρ[j]? = some t → t.mut = some es → σ[i]? = some (some (.ref p)) → σ[j]? ≠ some (some (.ref p))
  len : ρ.length = σ.length

section
variable {K : PySem.W.Frag} {c : Ct} {F H : Hp} {σ : St} {ρ : Rho}
theorem SR.fresh (S : SR K c F H σ ρ) {p : Addr} (h : H p = none) : c.H p = none := by
  cases q : c.H p with
  | none => rfl
  | some o =>
    by_cases e : c.io = some p
    · exact absurd h (S.ioh p e)
    · rw [S.eh p o q e] at h
      cases h
theorem SR.freshF (S : SR K c F H σ ρ) {p : Addr} (h : H p = none) : F p = none := by
  cases q : F p with
  | none => rfl
  | some o =>
    rw [S.fh p o q] at h
    cases h
theorem same_upd {F H : Hp} {p : Addr} {o : HO} (e : Same F H) (h : F p = none) : Same F (upd H p o) := fun a u q => by
  by_cases z : a = p
  · subst z
    rw [h] at q
    cases q
  · rw [upd_ne z]
    exact e a u q
theorem same_new {F : Hp} {p : Addr} {o : HO} (h : F p = none) : Same F (upd F p o) := same_upd (Same.refl F) h
theorem same_both {F H : Hp} {p : Addr} {o : HO} (e : Same F H) : Same (upd F p o) (upd H p o) := fun a u q => by
  by_cases z : a = p
  · subst z
    rw [upd_same] at q ⊢
    exact q
  · rw [upd_ne z] at q ⊢
    exact e a u q
/-- a new object, frozen -/
theorem SR.alloc (S : SR K c F H σ ρ) {p : Addr} {o : HO} (h : H p = none) : SR K c (upd F p o) (upd H p o) σ ρ where
  fh := same_both S.fh
  ef := S.ef.trans (same_new (S.freshF h))
  eh := fun a u q e => by
    rw [upd_ne (fun z => by subst z; rw [S.eh a u q e] at h; cases h)]
    exact S.eh a u q e
  nf := fun a q e => by
    rw [upd_ne (fun z => by subst z; exact q (S.fresh h))]
    exact S.nf a q e
  ioh := fun a e => by
    by_cases z : a = p
    · subst z; rw [upd_same]; simp
    · rw [upd_ne z]; exact S.ioh a e
  vl := fun i d e => by
    obtain ⟨v, h1, h2⟩ := S.vl i d e
    exact ⟨v, h1, h2.mono (same_new (S.freshF h))⟩
  ow := fun i s ds e m => by
    obtain ⟨q, xs, h1, h2, h3, h4, h5⟩ := S.ow i s ds e m
    have ne : q ≠ p := fun z => by subst z; rw [h3] at h; cases h
    exact ⟨q, xs, h1, by rw [upd_ne ne]; exact h2, by rw [upd_ne ne]; exact h3, h4.mono (same_new (S.freshF h)), h5⟩
  ne := S.ne
  len := S.len
/-- a new object, not frozen (yet) -/
theorem SR.allocH (S : SR K c F H σ ρ) {p : Addr} {o : HO} (h : H p = none) : SR K c F (upd H p o) σ ρ where
  fh := same_upd S.fh (S.freshF h)
  ef := S.ef
  eh := fun a u q e => by
    rw [upd_ne (fun z => by subst z; rw [S.eh a u q e] at h; cases h)]
    exact S.eh a u q e
  nf := S.nf
  ioh := fun a e => by
    by_cases z : a = p
    · subst z; rw [upd_same]; simp
    · rw [upd_ne z]; exact S.ioh a e
  vl := S.vl
  ow := fun i s ds e m => by
    obtain ⟨q, xs, h1, h2, h3, h4, h5⟩ := S.ow i s ds e m
    have ne : q ≠ p := fun z => by subst z; rw [h3] at h; cases h
    exact ⟨q, xs, h1, h2, by rw [upd_ne ne]; exact h3, h4, h5⟩
  ne := S.ne
  len := S.len
/-- what is tracked, not the def's own, becomes frozen -/
theorem SR.freeze (S : SR K c F H σ ρ) {p : Addr} {o : HO} (h : H p = some o) (hc : c.H p = none) (hF : F p = none) (ho : ∀ (i : Nat) (s : Sl) (ds : List D), ρ[i]? = some s → s.mut = some ds → σ[i]? ≠ some (some (.ref p))) : SR K c (upd F p o) H σ ρ where
  fh := fun a u q => by
    by_cases z : a = p
    · subst z; rw [upd_same] at q; rw [h]; exact q
    · rw [upd_ne z] at q; exact S.fh a u q
  ef := S.ef.trans (same_new hF)
  eh := S.eh
  nf := fun a q e => by
    rw [upd_ne (fun z => by subst z; exact q hc)]
    exact S.nf a q e
  ioh := S.ioh
  vl := fun i d e => by
    obtain ⟨v, h1, h2⟩ := S.vl i d e
    exact ⟨v, h1, h2.mono (same_new hF)⟩
  ow := fun i s ds e m => by
    obtain ⟨q, xs, h1, h2, h3, h4, h5⟩ := S.ow i s ds e m
    have ne : q ≠ p := fun z => by subst z; exact ho i s ds e m h1
    exact ⟨q, xs, h1, by rw [upd_ne ne]; exact h2, h3, h4.mono (same_new hF), h5⟩
  ne := S.ne
  len := S.len
/-- fewer slots known -/
theorem SR.forget (S : SR K c F H σ ρ) {ρ' : Rho} (hl : ρ'.length = ρ.length) (h : ∀ (i : Nat) (s : Sl), ρ'[i]? = some s → s ≠ .no → ρ[i]? = some s) : SR K c F H σ ρ' where
  fh := S.fh
  ef := S.ef
  eh := S.eh
  nf := S.nf
  ioh := S.ioh
  vl := fun i d e => S.vl i d (h i _ e (fun z => by cases z))
  ow := fun i s ds e m => S.ow i s ds (h i s e (fun z => by subst z; cases m)) m
  ne := fun i j s t ds es p n e1 m1 e2 m2 => S.ne i j s t ds es p n (h i s e1 (fun z => by subst z; cases m1)) m1 (h j t e2 (fun z => by subst z; cases m2)) m2
  len := hl.trans S.len
theorem SR.drop (S : SR K c F H σ ρ) (i : Nat) : SR K c F H σ (ρ.set i .no) := S.forget (by simp) fun j s e n => by
  by_cases z : i = j
  · subst z
    by_cases hi : i < ρ.length
    · rw [List.getElem?_set_self hi] at e; cases e; exact absurd rfl n
    · rw [List.getElem?_eq_none (by simpa using hi)] at e; cases e
  · rw [List.getElem?_set_ne z] at e; exact e
/-- a slot stored with frozen data -/
theorem SR.store (S : SR K c F H σ ρ) {i : Nat} {v : V} {d : D} (r : Is K F v d) : SR K c F H (σ.set i (some v)) (ρ.set i (.val d)) where
  fh := S.fh
  ef := S.ef
  eh := S.eh
  nf := S.nf
  ioh := S.ioh
  vl := fun j e q => by
    by_cases z : i = j
    · subst z
      by_cases hi : i < ρ.length
      · rw [List.getElem?_set_self hi] at q; cases q
        exact ⟨v, List.getElem?_set_self (by rw [← S.len]; exact hi), r⟩
      · rw [List.getElem?_eq_none (by simpa using hi)] at q; cases q
    · rw [List.getElem?_set_ne z] at q
      rw [List.getElem?_set_ne z]
      exact S.vl j e q
  ow := fun j s ds q m => by
    by_cases z : i = j
    · subst z
      by_cases hi : i < ρ.length
      · rw [List.getElem?_set_self hi] at q; cases q; cases m
      · rw [List.getElem?_eq_none (by simpa using hi)] at q; cases q
    · rw [List.getElem?_set_ne z] at q
      rw [List.getElem?_set_ne z]
      exact S.ow j s ds q m
  ne := fun j k s t ds es p n e1 m1 e2 m2 => by
    have own : ∀ (j : Nat) (s : Sl) (ds : List D), (ρ.set i (.val d))[j]? = some s → s.mut = some ds → i ≠ j ∧ ρ[j]? = some s := fun j s ds e m => by
      by_cases z : i = j
      · subst z
        by_cases hi : i < ρ.length
        · rw [List.getElem?_set_self hi] at e; cases e; cases m
        · rw [List.getElem?_eq_none (by simpa using hi)] at e; cases e
      · rw [List.getElem?_set_ne z] at e; exact ⟨z, e⟩
    obtain ⟨z1, q1⟩ := own j s ds e1 m1
    obtain ⟨z2, q2⟩ := own k t es e2 m2
    rw [List.getElem?_set_ne z1, List.getElem?_set_ne z2]
    exact S.ne j k s t ds es p n q1 m1 q2 m2
  len := by simp [S.len]
/-- a slot stored with a fresh list -/
theorem SR.storeOwn (S : SR K c F H σ ρ) {i : Nat} {p : Addr} {xs : List V} {ds : List D} (hF : F p = none) (hH : H p = some (.lst xs)) (r : IsAll K F xs ds) (hc : c.H p = none)
    (ho : ∀ (j : Nat) (s : Sl) (es : List D), ρ[j]? = some s → s.mut = some es → σ[j]? ≠ some (some (.ref p))) : SR K c F H (σ.set i (some (.ref p))) (ρ.set i (.own ds)) where
  fh := S.fh
  ef := S.ef
  eh := S.eh
  nf := S.nf
  ioh := S.ioh
  vl := fun j e q => by
    by_cases z : i = j
    · subst z
      by_cases hi : i < ρ.length
      · rw [List.getElem?_set_self hi] at q; cases q
      · rw [List.getElem?_eq_none (by simpa using hi)] at q; cases q
    · rw [List.getElem?_set_ne z] at q
      rw [List.getElem?_set_ne z]
      exact S.vl j e q
  ow := fun j s es q m => by
    by_cases z : i = j
    · subst z
      by_cases hi : i < ρ.length
      · rw [List.getElem?_set_self hi] at q; cases q; cases m
        exact ⟨p, xs, List.getElem?_set_self (by rw [← S.len]; exact hi), hF, hH, r, fun _ => hc, fun z => by cases z⟩
      · rw [List.getElem?_eq_none (by simpa using hi)] at q; cases q
    · rw [List.getElem?_set_ne z] at q
      rw [List.getElem?_set_ne z]
      exact S.ow j s es q m
  ne := fun j k s t es fs q n e1 m1 e2 m2 h => by
    by_cases z1 : i = j
    · subst z1
      have z2 : i ≠ k := n
      rw [List.getElem?_set_ne z2] at e2 ⊢
      by_cases hi : i < σ.length
      · rw [List.getElem?_set_self hi] at h; cases h
        exact ho k t fs e2 m2
      · rw [List.getElem?_eq_none (by simpa using hi)] at h; cases h
    · rw [List.getElem?_set_ne z1] at e1 h
      by_cases z2 : i = k
      · subst z2
        by_cases hi : i < σ.length
        · rw [List.getElem?_set_self hi]
          intro w
          cases w
          exact ho j s es e1 m1 h
        · rw [List.getElem?_eq_none (by simpa using hi)]; simp
      · rw [List.getElem?_set_ne z2] at e2 ⊢
        exact S.ne j k s t es fs q n e1 m1 e2 m2 h
  len := by simp [S.len]
/-- the list of a slot is changed -/
theorem SR.change (S : SR K c F H σ ρ) {i : Nat} {s : Sl} {ds es : List D} {p : Addr} {ys : List V} (hi : ρ[i]? = some s) (hm : s.mut = some ds) (hp : σ[i]? = some (some (.ref p))) (r : IsAll K F ys es) :
    SR K c F (upd H p (.lst ys)) σ (ρ.set i (s.put es)) where
  fh := by
    obtain ⟨q, xs, h1, h2, h3, h4, h5⟩ := S.ow i s ds hi hm
    rw [hp] at h1; cases h1
    exact same_upd S.fh h2
  ef := S.ef
  eh := fun a u q e => by
    obtain ⟨p', xs, h1, h2, h3, h4, h5, h6⟩ := S.ow i s ds hi hm
    rw [hp] at h1; cases h1
    have ne : a ≠ p := fun z => by
      subst z
      cases s with
      | own d => cases hm; rw [h5 rfl] at q; cases q
      | io d => cases hm; exact e (h6 rfl)
      | no => cases hm
      | val d => cases hm
    rw [upd_ne ne]
    exact S.eh a u q e
  nf := S.nf
  ioh := fun a e => by
    by_cases z : a = p
    · subst z; rw [upd_same]; simp
    · rw [upd_ne z]; exact S.ioh a e
  vl := fun j e q => by
    by_cases z : i = j
    · subst z
      by_cases hl : i < ρ.length
      · rw [List.getElem?_set_self hl] at q
        cases s <;> cases q
      · rw [List.getElem?_eq_none (by simpa using hl)] at q; cases q
    · rw [List.getElem?_set_ne z] at q
      exact S.vl j e q
  ow := fun j t fs q m => by
    obtain ⟨p', xs, h1, h2, h3, h4, h5, h6⟩ := S.ow i s ds hi hm
    rw [hp] at h1; cases h1
    by_cases z : i = j
    · subst z
      by_cases hl : i < ρ.length
      · rw [List.getElem?_set_self hl] at q
        cases s with
        | own d =>
          cases q; cases m
          cases hm
          exact ⟨p, ys, hp, h2, upd_same, r, (fun _ => h5 rfl), (fun z => by cases z)⟩
        | io d =>
          cases q; cases m
          cases hm
          exact ⟨p, ys, hp, h2, upd_same, r, (fun z => by cases z), (fun _ => h6 rfl)⟩
        | no => cases hm
        | val d => cases hm
      · rw [List.getElem?_eq_none (by simpa using hl)] at q; cases q
    · rw [List.getElem?_set_ne z] at q
      obtain ⟨q', zs, g1, g2, g3, g4, g5⟩ := S.ow j t fs q m
      have ne : q' ≠ p := fun w => by subst w; exact S.ne i j s t ds fs q' z hi hm q m hp g1
      exact ⟨q', zs, g1, g2, by rw [upd_ne ne]; exact g3, g4, g5⟩
  ne := fun j k t u fs gs q n e1 m1 e2 m2 => by
    have back : ∀ (j : Nat) (t : Sl) (fs : List D), (ρ.set i (s.put es))[j]? = some t → t.mut = some fs → ∃ t' fs', ρ[j]? = some t' ∧ t'.mut = some fs' := fun j t fs e m => by
      by_cases z : i = j
      · subst z; exact ⟨s, ds, hi, hm⟩
      · rw [List.getElem?_set_ne z] at e; exact ⟨t, fs, e, m⟩
    obtain ⟨t', fs', b1, b2⟩ := back j t fs e1 m1
    obtain ⟨u', gs', b3, b4⟩ := back k u gs e2 m2
    exact S.ne j k t' u' fs' gs' q n b1 b2 b3 b4
  len := by simp [S.len]
end

/-! ### results -/
inductive R (α : Type) where
  | ok (a : α) (ρ : Rho) | exc (C : Str) (x : D) (ρ : Rho) | bad
def R.bind {α β : Type} : R α → (α → Rho → R β) → R β
  | .ok a ρ, f => f a ρ
  | .exc C x ρ, _ => .exc C x ρ
  | .bad, _ => .bad
@[simp] theorem R.bind_ok {α β : Type} (a : α) (ρ : Rho) (f : α → Rho → R β) : (R.ok a ρ).bind f = f a ρ := rfl
@[simp] theorem R.bind_exc {α β : Type} (C : Str) (x : D) (ρ : Rho) (f : α → Rho → R β) : (R.exc C x ρ : R α).bind f = .exc C x ρ := rfl
@[simp] theorem R.bind_bad {α β : Type} (f : α → Rho → R β) : (R.bad : R α).bind f = .bad := rfl
abbrev M (α : Type) := Rho → R α

/-- what a value is: frozen data, or a fresh list that nothing names -/
def Res (K : PySem.W.Frag) (c : Ct) (F H : Hp) (σ : St) (ρ : Rho) (v : V) : Sl → Prop
  | .val d => Is K F v d
  | .own ds => ∃ p xs, v = .ref p ∧ F p = none ∧ H p = some (.lst xs) ∧ IsAll K F xs ds ∧ c.H p = none ∧ ∀ (i : Nat) (s : Sl) (es : List D), ρ[i]? = some s → s.mut = some es → σ[i]? ≠ some (some (.ref p))
  | .io _ => False
  | .no => False

/-- what is to be wanted behind a piece of text whose meaning is the R -/
def Post (K : PySem.W.Frag) (c : Ct) (W : WX) (F : Hp) (σ : St) {α : Type} (P : Hp → Hp → Rho → α → Prop) : R α → Prop
  | .ok a ρ' => ∀ F' H', Same F F' → SR K c F' H' σ ρ' → P F' H' ρ' a
  | .exc C x ρ' => ∀ d v F' H', Same F F' → SR K c F' H' σ ρ' → F' d = some (.xd [(("value" : Str), v)]) → Is K F' v x → W (.ref (He.ga K C)) (some d) σ H'
  | .bad => False
theorem Post.bind {K : PySem.W.Frag} {c : Ct} {W : WX} {F : Hp} {σ : St} {α β : Type} {P : Hp → Hp → Rho → β → Prop} {r : R α} {f : α → Rho → R β} (h : Post K c W F σ P (r.bind f)) :
    Post K c W F σ (fun F' _ ρ' a => Post K c W F' σ P (f a ρ')) r := by
  cases r with
  | ok a ρ' =>
    intro F' H' e S
    show Post K c W F' σ P (f a ρ')
    have h' : Post K c W F σ P (f a ρ') := h
    cases q : f a ρ' with
    | ok b ρ2 => rw [q] at h'; exact fun F2 H2 e2 S2 => h' F2 H2 (e.trans e2) S2
    | exc C x ρ2 => rw [q] at h'; exact fun d v F2 H2 e2 => h' d v F2 H2 (e.trans e2)
    | bad => rw [q] at h'; exact h'
  | exc C x ρ' => exact h
  | bad => exact h
theorem Post.imp {K : PySem.W.Frag} {c : Ct} {W : WX} {F : Hp} {σ : St} {α : Type} {P P' : Hp → Hp → Rho → α → Prop} {r : R α} (h : Post K c W F σ P r) (i : ∀ F' H' ρ' a, Same F F' → SR K c F' H' σ ρ' → P F' H' ρ' a → P' F' H' ρ' a) : Post K c W F σ P' r := by
  cases r with
  | ok a ρ' => exact fun F' H' e S => i F' H' ρ' a e S (h F' H' e S)
  | exc C x ρ' => exact h
  | bad => exact h
theorem Post.mono {K : PySem.W.Frag} {c : Ct} {W : WX} {F F1 : Hp} {σ : St} {α : Type} {P : Hp → Hp → Rho → α → Prop} {r : R α} (h : Post K c W F σ P r) (e : Same F F1) : Post K c W F1 σ P r := by
  cases r with
  | ok a ρ' => exact fun F' H' e' S => h F' H' (e.trans e') S
  | exc C x ρ' => exact fun d v F' H' e' => h d v F' H' (e.trans e')
  | bad => exact h

/-! ### expressions -/
/-- an expression, a value of any kind -/
structure DE (X : Cx) (W : WX) (e : Expr) (m : M Sl) : Prop where
  run : ∃ te, PE X e te ∧ ∀ c F H σ ρ (Q : VK), SR X.K c F H σ ρ → Post X.K c W F σ (fun F' H' ρ' s => ∀ v, Res X.K c F' H' σ ρ' v s → Q v H') (m ρ) → te σ H Q
/-- .. frozen data -/
structure DV (X : Cx) (W : WX) (e : Expr) (m : M D) : Prop where
  run : ∃ te, PE X e te ∧ ∀ c F H σ ρ (Q : VK), SR X.K c F H σ ρ → Post X.K c W F σ (fun F' H' _ d => ∀ v, Is X.K F' v d → Q v H') (m ρ) → te σ H Q
/-- a test -/
structure DT (X : Cx) (W : WX) (e : Expr) (m : M Bool) : Prop where
  run : ∃ tt, PT X e tt ∧ ∀ c F H σ ρ (Q : Bool → Hp → Prop), SR X.K c F H σ ρ → Post X.K c W F σ (fun _ H' _ b => Q b H') (m ρ) → tt σ H Q
/-- arguments -/
structure DA (X : Cx) (W : WX) (es : List Expr) (m : M (List D)) : Prop where
  run : ∃ ta, PA X es ta ∧ ∀ c F H σ ρ (Q : List V → Hp → Prop), SR X.K c F H σ ρ → Post X.K c W F σ (fun F' H' _ ds => ∀ vs, IsAll X.K F' vs ds → Q vs H') (m ρ) → ta σ H Q

def Sl.data : Sl → Option D
  | .val d => some d
  | .own ds => some (.lst ds)
  | _ => none
/-- freeze -/
def frz (m : M Sl) : M D := fun ρ => (m ρ).bind fun s ρ' => match s.data with
  | some d => .ok d ρ'
  | none => .bad
def thaw (m : M D) : M Sl := fun ρ => (m ρ).bind fun d ρ' => .ok (.val d) ρ'
section
variable {X : Cx} {W : WX} {e : Expr}
theorem dv_of {m : M Sl} (h : DE X W e m) : DV X W e (frz m) := by
  obtain ⟨te, pe, k⟩ := h.run
  refine ⟨te, pe, fun c F H σ ρ Q S p => k c F H σ ρ Q S ((Post.bind p).imp fun F' H' ρ' s e1 S1 q v r => ?_)⟩
  cases s with
  | val d => exact q F' H' (Same.refl _) S1 v r
  | own ds =>
    obtain ⟨p, xs, rfl, hF, hH, ha, hc, ho⟩ := r
    exact q (upd F' p (.lst xs)) H' (same_new hF) (S1.freeze hH hc hF ho) (.ref p) (.lst upd_same (ha.mono (same_new hF)))
  | io ds => exact r.elim
  | no => exact r.elim
theorem de_of {m : M D} (h : DV X W e m) : DE X W e (thaw m) := by
  obtain ⟨te, pe, k⟩ := h.run
  exact ⟨te, pe, fun c F H σ ρ Q S p => k c F H σ ρ Q S ((Post.bind p).imp fun F' H' ρ' d e1 S1 q v r => q F' H' (Same.refl _) S1 v r)⟩
/-- a constant -/
def cC (d : D) : M D := fun ρ => .ok d ρ
theorem dv_tC {v : V} {d : D} (h : PE X e (tC v)) (r : ∀ F, Is X.K F v d) : DV X W e (cC d) :=
  ⟨tC v, h, fun c F H σ ρ Q S p => p F H (Same.refl _) S v (r F)⟩
theorem dv_int {i : Int} {j pos} : DV X W (.Constant (.int i) j pos) (cC (.int i)) := dv_tC pe_int fun _ => .int i
theorem dv_bl {b : Bool} {j pos} : DV X W (.Constant (.bool b) j pos) (cC (.bl b)) := dv_tC pe_bl fun _ => .bl b
theorem dv_non {j pos} : DV X W (.Constant .none j pos) (cC .non) := dv_tC pe_non fun _ => .non
theorem dv_str {x : Str} {j pos} : DV X W (.Constant (.str x) j pos) (cC (.str x)) := dv_tC pe_str fun _ => .str x
/-- a name of the def -/
def cVar (i : Nat) : M D := fun ρ => match ρ[i]? with
  | some (.val d) => .ok d ρ
  | some (.own ds) => .ok (.lst ds) (ρ.set i (.val (.lst ds)))
  | _ => .bad
theorem SR.freezeSlot {K : PySem.W.Frag} {c : Ct} {F H : Hp} {σ : St} {ρ : Rho} (S : SR K c F H σ ρ) {i : Nat} {ds : List D} (h : ρ[i]? = some (.own ds)) :
    ∃ p xs, σ[i]? = some (some (.ref p)) ∧ F p = none ∧ H p = some (.lst xs) ∧ IsAll K F xs ds ∧ SR K c (upd F p (.lst xs)) H σ (ρ.set i (.val (.lst ds))) := by
  obtain ⟨p, xs, h1, h2, h3, h4, h5, _⟩ := S.ow i _ ds h rfl
  refine ⟨p, xs, h1, h2, h3, h4, ?_⟩
  have S1 := (S.drop i).freeze h3 (h5 rfl) h2 fun j s es e m q => by
    by_cases z : i = j
    · subst z
      rw [List.getElem?_set_self (List.getElem?_eq_some_iff.mp h).1] at e
      cases e; cases m
    · rw [List.getElem?_set_ne z] at e
      exact S.ne i j _ s ds es p z h rfl e m h1 q
  have S2 := S1.store (i := i) (v := .ref p) (d := .lst ds) (.lst upd_same (h4.mono (same_new h2)))
  have e1 : σ.set i (some (.ref p)) = σ := by
    refine List.ext_getElem? fun j => ?_
    by_cases z : i = j
    · subst z
      rw [List.getElem?_set_self (List.getElem?_eq_some_iff.mp h1).1, h1]
    · rw [List.getElem?_set_ne z]
  rw [e1, List.set_set] at S2
  exact S2
theorem dv_var {i : Nat} (h : PE X e (tVar i)) : DV X W e (cVar i) := by
  refine ⟨tVar i, h, fun c F H σ ρ Q S p => ?_⟩
  unfold cVar at p
  cases q : ρ[i]? with
  | none => rw [q] at p; exact p.elim
  | some s =>
    rw [q] at p
    cases s with
    | val d =>
      obtain ⟨v, h1, h2⟩ := S.vl i d q
      exact ⟨v, h1, p F H (Same.refl _) S v h2⟩
    | own ds =>
      obtain ⟨a, xs, h1, h2, h3, h4, S2⟩ := S.freezeSlot q
      exact ⟨_, h1, p _ H (same_new h2) S2 _ (.lst upd_same (h4.mono (same_new h2)))⟩
    | io ds => exact p.elim
    | no => exact p.elim
/-- a name whose list is handed on as the def's own -/
def cMove (i : Nat) : M Sl := fun ρ => match ρ[i]? with
  | some (.val d) => .ok (.val d) ρ
  | some (.own ds) => .ok (.own ds) (ρ.set i .no)
  | _ => .bad
theorem de_move {i : Nat} (h : PE X e (tVar i)) : DE X W e (cMove i) := by
  refine ⟨tVar i, h, fun c F H σ ρ Q S p => ?_⟩
  unfold cMove at p
  cases q : ρ[i]? with
  | none => rw [q] at p; exact p.elim
  | some s =>
    rw [q] at p
    cases s with
    | val d =>
      obtain ⟨v, h1, h2⟩ := S.vl i d q
      exact ⟨v, h1, p F H (Same.refl _) S v h2⟩
    | own ds =>
      obtain ⟨a, xs, h1, h2, h3, h4, h5, _⟩ := S.ow i _ ds q rfl
      refine ⟨_, h1, p F H (Same.refl _) (S.drop i) _ ⟨a, xs, rfl, h2, h3, h4, h5 rfl, fun j s es e m => ?_⟩⟩
      by_cases z : i = j
      · subst z
        rw [List.getElem?_set_self (List.getElem?_eq_some_iff.mp q).1] at e
        cases e; cases m
      · rw [List.getElem?_set_ne z] at e
        exact S.ne i j _ s ds es a z q rfl e m h1
    | io ds => exact p.elim
    | no => exact p.elim
/-- a module's name that stands for data -/
theorem dv_glob {x : Str} {u : Value} {v : V} {d : D} {pos : Pos} (hg : Gl X x) (hm : X.mg x = some u) (r : RelV v u) (hd : ∀ F, Is X.K F v d) (hx : (x == ("__debug__" : Str)) = false := by decide) : DV X W (.Name x pos) (cC d) :=
  dv_tC ⟨fun pins s σ H Q I h => ld_glob I hg hm ⟨v, H, I, r, h⟩ hx⟩ hd
end

/-! ### operators -/
/-- a two-place operation on data: f's rule, op what it gives -/
def DOp (X : Cx) (f : Value → Value → Sem Value) (op : D → D → Option D) : Prop :=
  ∃ r : R2, OpR X f r ∧ ∀ c F H σ ρ (Q : VK) x y d e z, SR X.K c F H σ ρ → Is X.K F x d → Is X.K F y e → op d e = some z → (∀ v F' H', Same F F' → SR X.K c F' H' σ ρ → Is X.K F' v z → Q v H') → r x y H Q
def ret (o : Option D) : M D := fun ρ => match o with
  | some d => .ok d ρ
  | none => .bad
def cOp (op : D → D → Option D) (ma mb : M D) : M D := fun ρ => (ma ρ).bind fun a ρ1 => (mb ρ1).bind fun b ρ2 => ret (op a b) ρ2
theorem DOp.use {X : Cx} {op : D → D → Option D} {r : R2} (h : ∀ c F H σ ρ (Q : VK) x y d e z, SR X.K c F H σ ρ → Is X.K F x d → Is X.K F y e → op d e = some z → (∀ v F' H', Same F F' → SR X.K c F' H' σ ρ → Is X.K F' v z → Q v H') → r x y H Q)
    {W : WX} {ma mb : M D} {ta tb : TE} (ka : ∀ c F H σ ρ (Q : VK), SR X.K c F H σ ρ → Post X.K c W F σ (fun F' H' _ d => ∀ v, Is X.K F' v d → Q v H') (ma ρ) → ta σ H Q)
    (kb : ∀ c F H σ ρ (Q : VK), SR X.K c F H σ ρ → Post X.K c W F σ (fun F' H' _ d => ∀ v, Is X.K F' v d → Q v H') (mb ρ) → tb σ H Q)
    {c : Ct} {F H : Hp} {σ : St} {ρ : Rho} {Q : VK} (S : SR X.K c F H σ ρ) (p : Post X.K c W F σ (fun F' H' _ d => ∀ v, Is X.K F' v d → Q v H') (cOp op ma mb ρ)) : tOp r ta tb σ H Q := by
  refine ka c F H σ ρ _ S ((Post.bind p).imp fun F1 H1 ρ1 d1 e1 S1 q1 v1 r1 => ?_)
  refine kb c F1 H1 σ ρ1 _ S1 ((Post.bind q1).imp fun F2 H2 ρ2 d2 e2 S2 q2 v2 r2 => ?_)
  cases z : op d1 d2 with
  | none => rw [z] at q2; exact q2.elim
  | some d =>
    rw [z] at q2
    exact h c F2 H2 σ ρ2 Q v1 v2 d1 d2 d S2 (r1.mono e2) r2 z fun v F' H' e' S' i => q2 F' H' e' S' v i
section
variable {X : Cx} {W : WX} {a b : Expr} {ma mb : M D} {pos : Pos}
theorem dv_bin {o : Operator} {op : D → D → Option D} (h : DOp X (binaryOp o) op) (ha : DV X W a ma) (hb : DV X W b mb) : DV X W (.BinOp a o b pos) (cOp op ma mb) := by
  obtain ⟨r, ho, k⟩ := h
  obtain ⟨ta, pa, ka⟩ := ha.run
  obtain ⟨tb, pb, kb⟩ := hb.run
  exact ⟨_, pe_op ho pa pb, fun c F H σ ρ Q S p => DOp.use k ka kb S p⟩
theorem dv_cmp {o : CmpOp} {op : D → D → Option D} (h : DOp X (compareOp o) op) (ha : DV X W a ma) (hb : DV X W b mb) (hm : behindInMarks o b = false := by first | exact nomark _ | rfl) : DV X W (.Compare a [o] [b] pos) (cOp op ma mb) := by
  obtain ⟨r, ho, k⟩ := h
  obtain ⟨ta, pa, ka⟩ := ha.run
  obtain ⟨tb, pb, kb⟩ := hb.run
  exact ⟨_, pe_cmpR ho pa pb hm, fun c F H σ ρ Q S p => DOp.use k ka kb S p⟩
/-- data as a truth -/
def D.bool : D → Option Bool
  | .bl b => some b
  | _ => none
def asB (m : M D) : M Bool := fun ρ => (m ρ).bind fun d ρ' => match d.bool with
  | some b => .ok b ρ'
  | none => .bad
theorem asB_use {K : PySem.W.Frag} {c : Ct} {F : Hp} {σ : St} {Q : Bool → Hp → Prop} {r : R D} (p : Post K c W F σ (fun _ H' _ b => Q b H') (r.bind fun d ρ' => match d.bool with | some b => .ok b ρ' | none => .bad)) :
    Post K c W F σ (fun F' H' _ d => ∀ v, Is K F' v d → ∃ k, v = .bl k ∧ Q k H') r := by
  refine (Post.bind p).imp fun F1 H1 ρ1 d1 e1 S1 q1 v1 r1 => ?_
  cases d1 with
  | bl b => cases r1; exact ⟨b, rfl, q1 F1 H1 (Same.refl _) S1⟩
  | _ => exact q1.elim
theorem dt_cmp {o : CmpOp} {op : D → D → Option D} (h : DOp X (compareOp o) op) (ha : DV X W a ma) (hb : DV X W b mb) (hm : behindInMarks o b = false := by first | exact nomark _ | rfl) : DT X W (.Compare a [o] [b] pos) (asB (cOp op ma mb)) := by
  obtain ⟨r, ho, k⟩ := h
  obtain ⟨ta, pa, ka⟩ := ha.run
  obtain ⟨tb, pb, kb⟩ := hb.run
  exact ⟨_, pt_cmpR ho pa pb hm, fun c F H σ ρ Q S p => DOp.use k ka kb S (asB_use p)⟩
theorem dt_val (ha : DV X W a ma) (he : ∀ whole, isTrue a X.env whole = (do let v ← whole; standAt a.pos; holding [v] (truthy v)) := by intro _; rfl) : DT X W a (asB ma) := by
  obtain ⟨ta, pa, ka⟩ := ha.run
  exact ⟨_, pt_val pa he, fun c F H σ ρ Q S p => ka c F H σ ρ _ S (asB_use p)⟩
/-- a < b < c -/
def cChain (op op' : D → D → Option D) (ma mb mc : M D) : M D := fun ρ => (ma ρ).bind fun a ρ1 => (mb ρ1).bind fun b ρ2 => match op a b with
  | some (.bl true) => (mc ρ2).bind fun d ρ3 => ret (op' b d) ρ3
  | some (.bl false) => .ok (.bl false) ρ2
  | _ => .bad
theorem chain_use {r r' : R2} {op op' : D → D → Option D} (h : ∀ c F H σ ρ (Q : VK) x y d e z, SR X.K c F H σ ρ → Is X.K F x d → Is X.K F y e → op d e = some z → (∀ v F' H', Same F F' → SR X.K c F' H' σ ρ → Is X.K F' v z → Q v H') → r x y H Q)
    (h' : ∀ c F H σ ρ (Q : VK) x y d e z, SR X.K c F H σ ρ → Is X.K F x d → Is X.K F y e → op' d e = some z → (∀ v F' H', Same F F' → SR X.K c F' H' σ ρ → Is X.K F' v z → Q v H') → r' x y H Q) {mc : M D} {ta tb tc : TE}
    (ka : ∀ c F H σ ρ (Q : VK), SR X.K c F H σ ρ → Post X.K c W F σ (fun F' H' _ d => ∀ v, Is X.K F' v d → Q v H') (ma ρ) → ta σ H Q)
    (kb : ∀ c F H σ ρ (Q : VK), SR X.K c F H σ ρ → Post X.K c W F σ (fun F' H' _ d => ∀ v, Is X.K F' v d → Q v H') (mb ρ) → tb σ H Q)
    (kc : ∀ c F H σ ρ (Q : VK), SR X.K c F H σ ρ → Post X.K c W F σ (fun F' H' _ d => ∀ v, Is X.K F' v d → Q v H') (mc ρ) → tc σ H Q)
    {c : Ct} {F H : Hp} {σ : St} {ρ : Rho} {Q : VK} (S : SR X.K c F H σ ρ) (p : Post X.K c W F σ (fun F' H' _ d => ∀ v, Is X.K F' v d → Q v H') (cChain op op' ma mb mc ρ)) : tChain r r' ta tb tc σ H Q := by
  refine ka c F H σ ρ _ S ((Post.bind p).imp fun F1 H1 ρ1 d1 e1 S1 q1 v1 r1 => ?_)
  refine kb c F1 H1 σ ρ1 _ S1 ((Post.bind q1).imp fun F2 H2 ρ2 d2 e2 S2 q2 v2 r2 => ?_)
  cases z : op d1 d2 with
  | none => rw [z] at q2; exact q2.elim
  | some d =>
    rw [z] at q2
    refine h c F2 H2 σ ρ2 _ v1 v2 d1 d2 d S2 (r1.mono e2) r2 z fun v F' H' e' S' i => ?_
    cases d with
    | bl t =>
      cases i
      refine ⟨t, rfl, ?_⟩
      cases t with
      | true =>
        rw [if_pos rfl]
        refine kc c F' H' σ ρ2 _ S' (((Post.bind q2).mono e').imp fun F3 H3 ρ3 d3 e3 S3 q3 v3 r3 => ?_)
        cases z3 : op' d2 d3 with
        | none => rw [z3] at q3; exact q3.elim
        | some d =>
          rw [z3] at q3
          exact h' c F3 H3 σ ρ3 Q v2 v3 d2 d3 d S3 (r2.mono (e'.trans e3)) r3 z3 fun v F4 H4 e4 S4 i => q3 F4 H4 e4 S4 v i
      | false =>
        rw [if_neg Bool.false_ne_true]
        exact q2 F' H' e' S' _ (.bl false)
    | _ => exact q2.elim
theorem dv_chain {o o' : CmpOp} {op op' : D → D → Option D} {d : Expr} {mc : M D} (h : DOp X (compareOp o) op) (h' : DOp X (compareOp o') op') (ha : DV X W a ma) (hb : DV X W b mb) (hd : DV X W d mc)
    (hm : lastMarks [o, o'] [b, d] = false := by rfl) : DV X W (.Compare a [o, o'] [b, d] pos) (cChain op op' ma mb mc) := by
  obtain ⟨r, ho, k⟩ := h
  obtain ⟨r', ho', k'⟩ := h'
  obtain ⟨ta, pa, ka⟩ := ha.run
  obtain ⟨tb, pb, kb⟩ := hb.run
  obtain ⟨tc, pc, kc⟩ := hd.run
  exact ⟨_, pe_chain ho ho' pa pb pc (hm := hm), fun c F H σ ρ Q S p => chain_use k k' ka kb kc S p⟩
theorem dt_chain {o o' : CmpOp} {op op' : D → D → Option D} {d : Expr} {mc : M D} (h : DOp X (compareOp o) op) (h' : DOp X (compareOp o') op') (ha : DV X W a ma) (hb : DV X W b mb) (hd : DV X W d mc)
    (hm : lastMarks [o, o'] [b, d] = false := by rfl) : DT X W (.Compare a [o, o'] [b, d] pos) (asB (cChain op op' ma mb mc)) := by
  obtain ⟨r, ho, k⟩ := h
  obtain ⟨r', ho', k'⟩ := h'
  obtain ⟨ta, pa, ka⟩ := ha.run
  obtain ⟨tb, pb, kb⟩ := hb.run
  obtain ⟨tc, pc, kc⟩ := hd.run
  exact ⟨_, pt_chain ho ho' pa pb pc (hm := hm), fun c F H σ ρ Q S p => chain_use k k' ka kb kc S (asB_use p)⟩
end
end DL

end
section
namespace DL
open PySem PySem.Spec L2

/-! ### and, or, not, if -/
section
variable {X : Cx} {W : WX} {a b : Expr} {rest : List Expr} {ma mb : M D} {pos : Pos}
def cAnd (ma mb : M D) : M D := fun ρ => (ma ρ).bind fun a ρ1 => match a.bool with
  | some true => mb ρ1
  | some false => .ok (.bl false) ρ1
  | none => .bad
def cOr (ma mb : M D) : M D := fun ρ => (ma ρ).bind fun a ρ1 => match a.bool with
  | some true => .ok (.bl true) ρ1
  | some false => mb ρ1
  | none => .bad
def cNot (ma : M D) : M D := fun ρ => (ma ρ).bind fun a ρ1 => match a.bool with
  | some b => .ok (.bl (!b)) ρ1
  | none => .bad
theorem dv_one {op} (h : DV X W a ma) : DV X W (.BoolOp op [a] pos) ma := by
  obtain ⟨ta, pa, ka⟩ := h.run
  exact ⟨ta, pe_one pa, ka⟩
theorem dv_and (ha : DV X W a ma) (hb : DV X W (.BoolOp .And (b :: rest) pos) mb) : DV X W (.BoolOp .And (a :: b :: rest) pos) (cAnd ma mb) := by
  obtain ⟨ta, pa, ka⟩ := ha.run
  obtain ⟨tb, pb, kb⟩ := hb.run
  refine ⟨_, pe_and pa pb, fun c F H σ ρ Q S p => ka c F H σ ρ _ S ((Post.bind p).imp fun F1 H1 ρ1 d1 e1 S1 q1 v1 r1 => ?_)⟩
  cases d1 with
  | bl t =>
    cases r1
    refine ⟨t, rfl, ?_⟩
    cases t with
    | true => rw [if_pos rfl]; exact kb c F1 H1 σ ρ1 Q S1 q1
    | false => rw [if_neg Bool.false_ne_true]; exact q1 F1 H1 (Same.refl _) S1 _ (.bl false)
  | _ => exact q1.elim
theorem dv_or (ha : DV X W a ma) (hb : DV X W (.BoolOp .Or (b :: rest) pos) mb) : DV X W (.BoolOp .Or (a :: b :: rest) pos) (cOr ma mb) := by
  obtain ⟨ta, pa, ka⟩ := ha.run
  obtain ⟨tb, pb, kb⟩ := hb.run
  refine ⟨_, pe_or pa pb, fun c F H σ ρ Q S p => ka c F H σ ρ _ S ((Post.bind p).imp fun F1 H1 ρ1 d1 e1 S1 q1 v1 r1 => ?_)⟩
  cases d1 with
  | bl t =>
    cases r1
    refine ⟨t, rfl, ?_⟩
    cases t with
    | true => rw [if_pos rfl]; exact q1 F1 H1 (Same.refl _) S1 _ (.bl true)
    | false => rw [if_neg Bool.false_ne_true]; exact kb c F1 H1 σ ρ1 Q S1 q1
  | _ => exact q1.elim
theorem dv_not (ha : DV X W a ma) : DV X W (.UnaryOp .Not a pos) (cNot ma) := by
  obtain ⟨ta, pa, ka⟩ := ha.run
  refine ⟨_, pe_not pa, fun c F H σ ρ Q S p => ka c F H σ ρ _ S ((Post.bind p).imp fun F1 H1 ρ1 d1 e1 S1 q1 v1 r1 => ?_)⟩
  cases d1 with
  | bl t =>
    cases r1
    exact ⟨t, rfl, q1 F1 H1 (Same.refl _) S1 _ (.bl _)⟩
  | _ => exact q1.elim
/-! tests -/
def tAnd (ma mb : M Bool) : M Bool := fun ρ => (ma ρ).bind fun a ρ1 => if a then mb ρ1 else .ok false ρ1
def tOr (ma mb : M Bool) : M Bool := fun ρ => (ma ρ).bind fun a ρ1 => if a then .ok true ρ1 else mb ρ1
def tNot (ma : M Bool) : M Bool := fun ρ => (ma ρ).bind fun a ρ1 => .ok (!a) ρ1
structure DW (X : Cx) (W : WX) (e : Expr) (m : M Bool) : Prop where
  run : ∃ tt, PW X e tt ∧ ∀ c F H σ ρ (Q : Bool → Hp → Prop), SR X.K c F H σ ρ → Post X.K c W F σ (fun _ H' _ b => Q b H') (m ρ) → tt σ H Q
variable {na nb : M Bool}
theorem dt_of (h : DW X W a na) : DT X W a na := by
  obtain ⟨t, p, k⟩ := h.run
  exact ⟨t, p.pt, k⟩
theorem dw_and1 (ha : DT X W a na) : DW X W (.BoolOp .And [a] pos) na := by
  obtain ⟨t, p, k⟩ := ha.run
  exact ⟨t, pw_and1 p, k⟩
theorem dw_or1 (ha : DT X W a na) : DW X W (.BoolOp .Or [a] pos) na := by
  obtain ⟨t, p, k⟩ := ha.run
  exact ⟨t, pw_or1 p, k⟩
theorem dw_and (ha : DT X W a na) (hb : DW X W (.BoolOp .And (b :: rest) pos) nb) : DW X W (.BoolOp .And (a :: b :: rest) pos) (tAnd na nb) := by
  obtain ⟨ta, pa, ka⟩ := ha.run
  obtain ⟨tb, pb, kb⟩ := hb.run
  refine ⟨_, pw_and pa pb, fun c F H σ ρ Q S p => ka c F H σ ρ _ S ((Post.bind p).imp fun F1 H1 ρ1 t e1 S1 q1 => ?_)⟩
  cases t with
  | true => rw [if_pos rfl]; exact kb c F1 H1 σ ρ1 Q S1 q1
  | false => rw [if_neg Bool.false_ne_true]; exact q1 F1 H1 (Same.refl _) S1
theorem dw_or (ha : DT X W a na) (hb : DW X W (.BoolOp .Or (b :: rest) pos) nb) : DW X W (.BoolOp .Or (a :: b :: rest) pos) (tOr na nb) := by
  obtain ⟨ta, pa, ka⟩ := ha.run
  obtain ⟨tb, pb, kb⟩ := hb.run
  refine ⟨_, pw_or pa pb, fun c F H σ ρ Q S p => ka c F H σ ρ _ S ((Post.bind p).imp fun F1 H1 ρ1 t e1 S1 q1 => ?_)⟩
  cases t with
  | true => rw [if_pos rfl]; exact q1 F1 H1 (Same.refl _) S1
  | false => rw [if_neg Bool.false_ne_true]; exact kb c F1 H1 σ ρ1 Q S1 q1
theorem dt_not (ha : DT X W a na) : DT X W (.UnaryOp .Not a pos) (tNot na) := by
  obtain ⟨t, p, k⟩ := ha.run
  exact ⟨_, pt_not p, fun c F H σ ρ Q S p => k c F H σ ρ _ S ((Post.bind p).imp fun F1 H1 ρ1 t e1 S1 q1 => q1 F1 H1 (Same.refl _) S1)⟩
def cIf {α : Type} (mt : M Bool) (ma mb : M α) : M α := fun ρ => (mt ρ).bind fun t ρ1 => if t then ma ρ1 else mb ρ1
theorem dv_if {t : Expr} (ht : DT X W t na) (ha : DV X W a ma) (hb : DV X W b mb) : DV X W (.IfExp t a b pos) (cIf na ma mb) := by
  obtain ⟨tt, pt, kt⟩ := ht.run
  obtain ⟨ta, pa, ka⟩ := ha.run
  obtain ⟨tb, pb, kb⟩ := hb.run
  refine ⟨_, pe_ifExp pt pa pb, fun c F H σ ρ Q S p => kt c F H σ ρ _ S ((Post.bind p).imp fun F1 H1 ρ1 t e1 S1 q1 => ?_)⟩
  cases t with
  | true => rw [if_pos rfl]; exact ka c F1 H1 σ ρ1 Q S1 q1
  | false => rw [if_neg Bool.false_ne_true]; exact kb c F1 H1 σ ρ1 Q S1 q1
theorem de_if {t : Expr} {ma mb : M Sl} (ht : DT X W t na) (ha : DE X W a ma) (hb : DE X W b mb) : DE X W (.IfExp t a b pos) (cIf na ma mb) := by
  obtain ⟨tt, pt, kt⟩ := ht.run
  obtain ⟨ta, pa, ka⟩ := ha.run
  obtain ⟨tb, pb, kb⟩ := hb.run
  refine ⟨_, pe_ifExp pt pa pb, fun c F H σ ρ Q S p => kt c F H σ ρ _ S ((Post.bind p).imp fun F1 H1 ρ1 t e1 S1 q1 => ?_)⟩
  cases t with
  | true => rw [if_pos rfl]; exact ka c F1 H1 σ ρ1 Q S1 q1
  | false => rw [if_neg Bool.false_ne_true]; exact kb c F1 H1 σ ρ1 Q S1 q1
/-- code that is never reached -/
def cBad {α : Type} : M α := fun _ => .bad
theorem dv_bad {t : TE} (h : PE X a t) : DV X W a cBad := ⟨t, h, fun _ _ _ _ _ _ _ p => p.elim⟩
end

/-! ### data of the library -/
mutual
def D.py : D → PyData
  | .non => .none
  | .bl b => .bool b
  | .int i => .int i
  | .str x => .str x
  | .lst ds => .list (D.pys ds)
  | .tup ds => .tuple (D.pys ds)
  | .ty _ => .dict []
  | .ins _ _ => .dict []
  | .exc _ _ => .dict []
  | .scr _ => .dict []
def D.pys : List D → List PyData
  | [] => []
  | d :: ds => d.py :: D.pys ds
end
mutual
theorem Is.dp {K : PySem.W.Frag} {F : Hp} {v : V} {d : D} (h : Is K F v d) (hp : d.py.canLay0 = true) : Dp K F v d.py := by
  cases h with
  | non => exact .non
  | bl b => exact .bl b
  | int i => exact .int i
  | str x => exact .str x
  | lst s t => exact .lst (.of s) (IsAll.dp t hp)
  | tup s t => exact .tup s (IsAll.dp t hp)
  | ty n => simp [D.py, PyData.canLay0] at hp
  | ins s t => simp [D.py, PyData.canLay0] at hp
  | exc s t u => simp [D.py, PyData.canLay0] at hp
  | scr s => simp [D.py, PyData.canLay0] at hp
termination_by sizeOf d
theorem IsAll.dp {K : PySem.W.Frag} {F : Hp} {vs : List V} {ds : List D} (h : IsAll K F vs ds) (hp : PyData.canLayAll0 (D.pys ds) = true) : DpAll K F vs (D.pys ds) := by
  cases h with
  | nil => exact .nil
  | @cons v vs d ds a b =>
    have hp' : (PyData.canLay0 d.py && PyData.canLayAll0 (D.pys ds)) = true := by
      simpa only [D.pys, PyData.canLayAll0] using hp
    rw [Bool.and_eq_true] at hp'
    exact .cons (Is.dp a hp'.1) (IsAll.dp b hp'.2)
termination_by sizeOf ds
end

/-- the operators -/
def D.add : D → D → Option D
  | .int i, .int j => some (.int (i + j))
  | .int i, .bl k => some (.int (i + PyProof.Rows.b2i k))
  | .str a, .str b => if a.length + b.length ≤ sizeLine then some (.str (a ++ b)) else none
  | .tup a, .tup b => if a.length + b.length ≤ sizeLine then some (.tup (a ++ b)) else none
  | _, _ => none
def D.sub : D → D → Option D
  | .int i, .int j => some (.int (i - j))
  | _, _ => none
def mulOk (i j : Int) : Bool := decide (-(2 ^ 64) < i ∧ i < 2 ^ 64) || (decide (-(2 ^ 64) < j ∧ j < 2 ^ 64) || decide (i.natAbs.log2 + j.natAbs.log2 < 1000000))
def D.mul : D → D → Option D
  | .int i, .int j => if mulOk i j then some (.int (i * j)) else none
  | .tup ds, .int k => if ds ≠ [] ∧ 2 ≤ k ∧ k ≤ 1000 ∧ ds.length ≤ 1000 then some (.tup (List.replicate k.toNat ds).flatten) else none
  | _, _ => none
def divOk (j : Int) : Bool := decide (0 < j ∧ j.natAbs.log2 < 9000)
def D.div : D → D → Option D
  | .int i, .int j => if divOk j then some (.int (i / j)) else none
  | _, _ => none
def D.mod : D → D → Option D
  | .int i, .int j => if 0 < j then some (.int (i % j)) else none
  | _, _ => none
def D.pow : D → D → Option D
  | .int i, .int j => if 0 ≤ j ∧ j ≤ 1000000 ∧ i.natAbs < 2 ^ 64 then some (.int (i ^ j.toNat)) else none
  | _, _ => none
def D.lt : D → D → Option D
  | .int i, .int j => some (.bl (decide (i < j)))
  | .str x, .str y => some (.bl (decide (x.cps.toList < y.cps.toList)))
  | _, _ => none
def D.le : D → D → Option D
  | .int i, .int j => some (.bl (decide (i ≤ j)))
  | _, _ => none
def D.gt : D → D → Option D
  | .int i, .int j => some (.bl (decide (j < i)))
  | _, _ => none
def D.ge : D → D → Option D
  | .int i, .int j => some (.bl (decide (j ≤ i)))
  | _, _ => none
def D.eq (d e : D) : Option D := if SeqAt.shaped d.py && SeqAt.shaped e.py then some (.bl (PyData.eqv d.py e.py)) else none
def D.ne (d e : D) : Option D := if SeqAt.shaped d.py && SeqAt.shaped e.py then some (.bl (!PyData.eqv d.py e.py)) else none
def D.isNon : D → Bool
  | .non => true
  | _ => false
def D.isD : D → D → Option D
  | d, .non => some (.bl d.isNon)
  | .bl a, .bl b => some (.bl (decide (a = b)))
  | _, _ => none
def D.isNotD : D → D → Option D
  | d, .non => some (.bl (!d.isNon))
  | .bl a, .bl b => some (.bl (!decide (a = b)))
  | _, _ => none
/-- x in t -/
def D.inD : D → D → Option D
  | d, .lst es => if SeqAt.shaped d.py && SeqAt.shaped (D.lst es).py then some (.bl ((D.pys es).any fun z => PyData.eqv z d.py)) else none
  | d, .tup es => if flatD d && es.all flatD then some (.bl ((D.pys es).any fun z => PyData.eqv z d.py)) else none
  | .str x, .str y => some (.bl (!(Builtin.Str.occurrences y x 0 y.length 1).isEmpty))
  | _, _ => none
where
  flatD : D → Bool
  | .non => true
  | .bl _ => true
  | .int _ => true
  | .str _ => true
  | _ => false
section
variable {X : Cx}
theorem eq_some_if {α : Type} {c : Prop} [Decidable c] {x z : α} (h : (if c then some x else none) = some z) : c ∧ x = z := by
  by_cases hc : c
  · rw [if_pos hc] at h; cases h; exact ⟨hc, rfl⟩
  · rw [if_neg hc] at h; cases h
theorem do_add : DOp X (binaryOp .Add) D.add := by
  refine ⟨_, op_add.or (op_add_ib.or (op_add_str.or op_catA)), fun c F H σ ρ Q x y d e z S rx ry h q => ?_⟩
  cases rx with
  | int i =>
    cases ry with
    | int j => cases h; exact .inl ⟨i, j, rfl, rfl, q _ F H (Same.refl _) S (.int _)⟩
    | bl k => cases h; exact .inr (.inl ⟨i, k, rfl, rfl, q _ F H (Same.refl _) S (.int _)⟩)
    | _ => cases h
  | str a =>
    cases ry with
    | str b =>
      obtain ⟨hc, rfl⟩ := eq_some_if h
      exact .inr (.inr (.inl ⟨a, b, rfl, rfl, hc, q _ F H (Same.refl _) S (.str _)⟩))
    | _ => cases h
  | tup s t =>
    cases ry with
    | tup s' t' =>
      obtain ⟨hc, rfl⟩ := eq_some_if h
      have ha := t.length
      have hb := t'.length
      refine .inr (.inr (.inr ⟨_, _, _, _, rfl, rfl, sqT_mono S.fh s, sqT_mono S.fh s', by omega, fun e => ?_, fun _ e => ?_, fun _ _ p hp => ?_⟩))
      · subst e
        cases t
        exact q _ F H (Same.refl _) S (.tup s' t')
      · subst e
        cases t'
        rw [List.append_nil] at q
        exact q _ F H (Same.refl _) S (.tup s t)
      · have hF := S.freshF hp
        exact q _ _ _ (same_new hF) (S.alloc hp) (.tup (.of upd_same) ((t.append t').mono (same_new hF)))
    | _ => cases h
  | _ => cases ry <;> cases h
theorem do_int {f : Value → Value → Sem Value} {g : Int → Int → D} {gv : Int → Int → V} {op : D → D → Option D} (h : OpR X f (rI0 gv)) (hg : ∀ F i j, Is X.K F (gv i j) (g i j)) (ho : ∀ d e z, op d e = some z → ∃ i j, d = .int i ∧ e = .int j ∧ z = g i j) : DOp X f op := by
  refine ⟨_, h, fun c F H σ ρ Q x y d e z S rx ry hz q => ?_⟩
  obtain ⟨i, j, rfl, rfl, rfl⟩ := ho d e z hz
  cases rx
  cases ry
  exact ⟨i, j, rfl, rfl, q _ F H (Same.refl _) S (hg F i j)⟩
theorem do_intC {f : Value → Value → Sem Value} {C : Int → Int → Prop} {g : Int → Int → D} {gv : Int → Int → V} {op : D → D → Option D} (h : OpR X f (rI C gv)) (hg : ∀ F i j, Is X.K F (gv i j) (g i j))
    (ho : ∀ d e z, op d e = some z → ∃ i j, d = .int i ∧ e = .int j ∧ C i j ∧ z = g i j) : DOp X f op := by
  refine ⟨_, h, fun c F H σ ρ Q x y d e z S rx ry hz q => ?_⟩
  obtain ⟨i, j, rfl, rfl, hc, rfl⟩ := ho d e z hz
  cases rx
  cases ry
  exact ⟨i, j, rfl, rfl, hc, q _ F H (Same.refl _) S (hg F i j)⟩
theorem ints_of {op : D → D → Option D} {g : Int → Int → D} {C : Int → Int → Prop} [∀ i j, Decidable (C i j)] (h : ∀ i j, op (.int i) (.int j) = if C i j then some (g i j) else none)
    (h0 : ∀ d e, (∀ i j, ¬ (d = .int i ∧ e = .int j)) → op d e = none) (d e z : D) (hz : op d e = some z) : ∃ i j, d = .int i ∧ e = .int j ∧ C i j ∧ z = g i j := by
  by_cases q : ∃ i j, d = .int i ∧ e = .int j
  · obtain ⟨i, j, rfl, rfl⟩ := q
    rw [h] at hz
    obtain ⟨hc, rfl⟩ := eq_some_if hz
    exact ⟨i, j, rfl, rfl, hc, rfl⟩
  · rw [h0 d e fun i j z => q ⟨i, j, z⟩] at hz
    cases hz
theorem do_sub : DOp X (binaryOp .Sub) D.sub := do_int (g := fun i j => .int (i - j)) op_sub (fun _ _ _ => .int _) fun d e z h => by
  cases d <;> cases e <;> first | (cases h; exact ⟨_, _, rfl, rfl, rfl⟩) | cases h
theorem mulOk_ok {i j : Int} (h : mulOk i j = true) : PySem.IntMulOk i j := by
  unfold mulOk at h
  simp only [Bool.or_eq_true, decide_eq_true_eq] at h
  rcases h with h | h | h
  · exact CMul.ok (.inl h)
  · exact CMul.ok (.inr h)
  · exact CMulW.ok h
theorem op_mulA : OpR X (binaryOp .Mult) (rI (fun i j => mulOk i j = true) fun i j => .int (i * j)) := opI fun _ _ _ _ _ _ _ hc q => PyProof.Rows.mul_int q (mulOk_ok hc)
theorem do_mul : DOp X (binaryOp .Mult) D.mul := by
  refine ⟨_, op_mulA.or op_repT, fun c F H σ ρ Q x y d e z S rx ry h q => ?_⟩
  cases rx with
  | int i =>
    cases ry with
    | int j =>
      obtain ⟨hc, rfl⟩ := eq_some_if h
      exact .inl ⟨i, j, rfl, rfl, hc, q _ F H (Same.refl _) S (.int _)⟩
    | _ => cases h
  | tup s t =>
    cases ry with
    | int j =>
      obtain ⟨⟨h1, h2, h3, h4⟩, rfl⟩ := eq_some_if h
      have hl := t.length
      refine .inr ⟨_, j, _, rfl, rfl, sqT_mono S.fh s, fun e => ?_, h2, h3, by omega, fun p hp => ?_⟩
      · subst e
        cases t
        exact h1 rfl
      · have hF := S.freshF hp
        exact q _ _ _ (same_new hF) (S.alloc hp) (.tup (.of upd_same) ((t.rep _).mono (same_new hF)))
    | _ => cases h
  | _ => cases ry <;> cases h
theorem do_div : DOp X (binaryOp .FloorDiv) D.div := do_intC (g := fun i j => .int (i / j)) op_fdivW (fun _ _ _ => .int _) fun d e z h => by
  cases d with
  | int i =>
    cases e with
    | int j =>
      obtain ⟨hc, rfl⟩ := eq_some_if (c := divOk j = true) h
      exact ⟨i, j, rfl, rfl, (of_decide_eq_true hc : 0 < j ∧ j.natAbs.log2 < 9000), rfl⟩
    | _ => cases h
  | _ => cases e <;> cases h
theorem do_mod : DOp X (binaryOp .Mod) D.mod := do_intC (g := fun i j => .int (i % j)) op_mod (fun _ _ _ => .int _) fun d e z h => by
  cases d with
  | int i =>
    cases e with
    | int j =>
      obtain ⟨hc, rfl⟩ := eq_some_if h
      exact ⟨i, j, rfl, rfl, hc, rfl⟩
    | _ => cases h
  | _ => cases e <;> cases h
theorem do_pow : DOp X (binaryOp .Pow) D.pow := do_intC (g := fun i j => .int (i ^ j.toNat)) op_pow (fun _ _ _ => .int _) fun d e z h => by
  cases d with
  | int i =>
    cases e with
    | int j =>
      obtain ⟨hc, rfl⟩ := eq_some_if h
      exact ⟨i, j, rfl, rfl, hc, rfl⟩
    | _ => cases h
  | _ => cases e <;> cases h
theorem do_lt : DOp X (compareOp .Lt) D.lt := by
  refine ⟨_, op_lt.or op_lt_str, fun c F H σ ρ Q x y d e z S rx ry h q => ?_⟩
  cases rx with
  | int i =>
    cases ry with
    | int j => cases h; exact .inl ⟨i, j, rfl, rfl, q _ F H (Same.refl _) S (.bl _)⟩
    | _ => cases h
  | str a =>
    cases ry with
    | str b => cases h; exact .inr ⟨a, b, rfl, rfl, q _ F H (Same.refl _) S (.bl _)⟩
    | _ => cases h
  | _ => cases ry <;> cases h
theorem do_le : DOp X (compareOp .LtE) D.le := do_int (g := fun i j => .bl (decide (i ≤ j))) op_le (fun _ _ _ => .bl _) fun d e z h => by
  cases d <;> cases e <;> first | (cases h; exact ⟨_, _, rfl, rfl, rfl⟩) | cases h
theorem do_gt : DOp X (compareOp .Gt) D.gt := do_int (g := fun i j => .bl (decide (j < i))) op_gt (fun _ _ _ => .bl _) fun d e z h => by
  cases d <;> cases e <;> first | (cases h; exact ⟨_, _, rfl, rfl, rfl⟩) | cases h
theorem do_ge : DOp X (compareOp .GtE) D.ge := do_int (g := fun i j => .bl (decide (j ≤ i))) op_ge (fun _ _ _ => .bl _) fun d e z h => by
  cases d <;> cases e <;> first | (cases h; exact ⟨_, _, rfl, rfl, rfl⟩) | cases h
theorem dp_mono {K : PySem.W.Frag} {c : Ct} {F H : Hp} {σ : St} {ρ : Rho} (S : SR K c F H σ ρ) {v : V} {d : D} (r : Is K F v d) (h : SeqAt.shaped d.py = true) : Dp K H v d.py := (r.mono S.fh).dp (SeqAt.canLay_of_shaped h)
theorem do_eq (hu : X.A.units + 64 < cLine) : DOp X (compareOp .Eq) D.eq := by
  refine ⟨_, op_eqD hu, fun c F H σ ρ Q x y d e z S rx ry h q => ?_⟩
  obtain ⟨hc, rfl⟩ := eq_some_if h
  rw [Bool.and_eq_true] at hc
  exact ⟨_, _, dp_mono S rx hc.1, dp_mono S ry hc.2, hc.1, hc.2, q _ F H (Same.refl _) S (.bl _)⟩
theorem do_ne (hu : X.A.units + 64 < cLine) : DOp X (compareOp .NotEq) D.ne := by
  refine ⟨_, op_neD hu, fun c F H σ ρ Q x y d e z S rx ry h q => ?_⟩
  obtain ⟨hc, rfl⟩ := eq_some_if h
  rw [Bool.and_eq_true] at hc
  exact ⟨_, _, dp_mono S rx hc.1, dp_mono S ry hc.2, hc.1, hc.2, q _ F H (Same.refl _) S (.bl _)⟩
theorem isNon_of {K : PySem.W.Frag} {F : Hp} {v : V} {d : D} (r : Is K F v d) : decide (v = .non) = d.isNon := by
  cases r <;> rfl
theorem do_is : DOp X (compareOp .Is) D.isD := by
  refine ⟨_, op_isN.or op_is_bl, fun c F H σ ρ Q x y d e z S rx ry h q => ?_⟩
  cases ry with
  | non =>
    have h' : some (D.bl d.isNon) = some z := by cases d <;> exact h
    cases h'
    exact .inl ⟨rfl, by rw [isNon_of rx]; exact q _ F H (Same.refl _) S (.bl _)⟩
  | bl b =>
    cases rx with
    | bl a => cases h; exact .inr ⟨a, b, rfl, rfl, q _ F H (Same.refl _) S (.bl _)⟩
    | _ => cases h
  | _ => cases rx <;> cases h
theorem do_isNot : DOp X (compareOp .IsNot) D.isNotD := by
  refine ⟨_, op_notN.or op_isnot_bl, fun c F H σ ρ Q x y d e z S rx ry h q => ?_⟩
  cases ry with
  | non =>
    have h' : some (D.bl (!d.isNon)) = some z := by cases d <;> exact h
    cases h'
    exact .inl ⟨rfl, by rw [isNon_of rx]; exact q _ F H (Same.refl _) S (.bl _)⟩
  | bl b =>
    cases rx with
    | bl a => cases h; exact .inr ⟨a, b, rfl, rfl, q _ F H (Same.refl _) S (.bl _)⟩
    | _ => cases h
  | _ => cases rx <;> cases h
end
end DL

end
section
namespace DL
open PySem PySem.Spec L2

/-! ### arguments, displays -/
section
variable {X : Cx} {W : WX} {e a b : Expr} {es : List Expr} {m ma mb : M D} {ms : M (List D)} {pos : Pos}
def aNil : M (List D) := fun ρ => .ok [] ρ
def aCons (m : M D) (ms : M (List D)) : M (List D) := fun ρ => (m ρ).bind fun d ρ1 => (ms ρ1).bind fun ds ρ2 => .ok (d :: ds) ρ2
theorem da_nil : DA X W [] aNil := ⟨tNil, pa_nil, fun c F H σ ρ Q S p => p F H (Same.refl _) S [] .nil⟩
theorem da_cons (h : DV X W e m) (hs : DA X W es ms) (hst : starEach (e :: es) X.env = (false, eval e X.env) :: starEach es X.env := by rfl) : DA X W (e :: es) (aCons m ms) := by
  obtain ⟨te, pe, k⟩ := h.run
  obtain ⟨ta, pa, ks⟩ := hs.run
  refine ⟨_, pa_cons pe pa hst, fun c F H σ ρ Q S p => k c F H σ ρ _ S ((Post.bind p).imp fun F1 H1 ρ1 d1 e1 S1 q1 v1 r1 => ?_)⟩
  exact ks c F1 H1 σ ρ1 _ S1 ((Post.bind q1).imp fun F2 H2 ρ2 ds e2 S2 q2 vs rs => q2 F2 H2 (Same.refl _) S2 _ (.cons (r1.mono e2) rs))
/-- (a, b, ..) -/
def cTup (ms : M (List D)) : M D := fun ρ => (ms ρ).bind fun ds ρ1 => if ds.length ≤ sizeLine then .ok (.tup ds) ρ1 else .bad
theorem dv_tup {k} (h : DA X W es ms) : DV X W (.Tuple es k pos) (cTup ms) := by
  obtain ⟨ta, pa, ka⟩ := h.run
  refine ⟨_, pe_tup pa, fun c F H σ ρ Q S p => ka c F H σ ρ _ S ((Post.bind p).imp fun F1 H1 ρ1 ds e1 S1 q1 vs rs => ?_)⟩
  by_cases hz : ds.length ≤ sizeLine
  · rw [if_pos hz] at q1
    refine ⟨by rw [rs.length]; exact hz, fun p hp => ?_⟩
    have hF := S1.freshF hp
    exact q1 _ _ (same_new hF) (S1.alloc hp) _ (.tup (.of upd_same) (rs.mono (same_new hF)))
  · rw [if_neg hz] at q1
    exact q1.elim
/-- [a, b, ..], a fresh list -/
def cLst (ms : M (List D)) : M Sl := fun ρ => (ms ρ).bind fun ds ρ1 => if ds.length ≤ sizeLine then .ok (.own ds) ρ1 else .bad
theorem res_own {K : PySem.W.Frag} {c : Ct} {F H : Hp} {σ : St} {ρ : Rho} {p : Addr} {xs : List V} {ds : List D} (S : SR K c F H σ ρ) (hp : H p = none) (r : IsAll K F xs ds) : Res K c F (upd H p (.lst xs)) σ ρ (.ref p) (.own ds) :=
  ⟨p, xs, rfl, S.freshF hp, upd_same, r, S.fresh hp, fun i s es e m q => by
    obtain ⟨p', xs', h1, h2, h3, _⟩ := S.ow i s es e m
    rw [q] at h1; cases h1
    rw [hp] at h3; cases h3⟩
theorem de_lst (h : DA X W es ms) : DE X W (.List es pos) (cLst ms) := by
  obtain ⟨ta, pa, ka⟩ := h.run
  refine ⟨_, pe_lst pa, fun c F H σ ρ Q S p => ka c F H σ ρ _ S ((Post.bind p).imp fun F1 H1 ρ1 ds e1 S1 q1 vs rs => ?_)⟩
  by_cases hz : ds.length ≤ sizeLine
  · rw [if_pos hz] at q1
    refine ⟨by rw [rs.length]; exact hz, fun p hp => ?_⟩
    exact q1 F1 _ (Same.refl _) (S1.allocH hp) _ (res_own S1 hp rs)
  · rw [if_neg hz] at q1
    exact q1.elim

/-! ### subscripts -/
def D.ix : D → D → Option D
  | .lst ds, .int i => atI ds i
  | .tup ds, .int i => atI ds i
  | .str z, .int i => if z.length ≤ sizeLine then (atI z.cps.toList i).map fun c => .str ⟨#[c]⟩ else none
  | .scr ns, .int i => (atI ns i).map D.int
  | .lst ds, .bl b => atI ds (if b then 1 else 0)
  | _, _ => none
theorem atI_get {K : PySem.W.Frag} {F : Hp} {xs : List V} {ds : List D} {i : Int} {d : D} (r : IsAll K F xs ds) (h : atI ds i = some d) : ∃ v, atI xs i = some v ∧ Is K F v d := by
  unfold atI at h ⊢
  rw [r.length]
  cases q : ixN ds.length i with
  | none => rw [q] at h; cases h
  | some j =>
    rw [q] at h
    exact r.get h
theorem atI_map {α β : Type} {f : α → β} {xs : List α} {i : Int} : atI (xs.map f) i = (atI xs i).map f := by
  unfold atI
  rw [List.length_map]
  cases ixN xs.length i with
  | none => rfl
  | some j => simp [List.getElem?_map]
/-- reading, whatever the heap -/
theorem ix_read {K : PySem.W.Frag} {H : Hp} {Q : VK} {x y : V} {d e z : D} (rx : Is K H x d) (ry : Is K H y e) (h : D.ix d e = some z) (hb : ∀ b, e ≠ .bl b) (q : ∀ v, Is K H v z → Q v H) : rIx K x y H Q := by
  cases ry with
  | int i =>
    cases rx with
    | lst s t =>
      obtain ⟨v, h1, h2⟩ := atI_get t h
      exact .inl ⟨_, _, i, v, rfl, rfl, .of s, h1, q v h2⟩
    | tup s t =>
      obtain ⟨v, h1, h2⟩ := atI_get t h
      exact .inr (.inl ⟨_, _, i, v, rfl, rfl, s, h1, q v h2⟩)
    | str zz =>
      obtain ⟨hc, h'⟩ : zz.length ≤ sizeLine ∧ (atI zz.cps.toList i).map (fun c => D.str ⟨#[c]⟩) = some z := by
        by_cases hc : zz.length ≤ sizeLine
        · have h2 : (if zz.length ≤ sizeLine then (atI zz.cps.toList i).map (fun c => D.str ⟨#[c]⟩) else none) = some z := h
          rw [if_pos hc] at h2
          exact ⟨hc, h2⟩
        · have h2 : (if zz.length ≤ sizeLine then (atI zz.cps.toList i).map (fun c => D.str ⟨#[c]⟩) else none) = some z := h
          rw [if_neg hc] at h2
          cases h2
      cases w : atI zz.cps.toList i with
      | none => rw [w] at h'; cases h'
      | some cc =>
        rw [w] at h'; cases h'
        exact .inr (.inr ⟨zz, i, cc, rfl, rfl, hc, w, q _ (.str _)⟩)
    | @scr a ns s =>
      have h' : (atI ns i).map D.int = some z := h
      cases w : atI ns i with
      | none => rw [w] at h'; cases h'
      | some n =>
        rw [w] at h'; cases h'
        refine .inl ⟨_, _, i, .int n, rfl, rfl, s, ?_, q _ (.int n)⟩
        rw [atI_map, w]
        rfl
    | _ => cases h
  | bl b => exact absurd rfl (hb b)
  | _ => cases rx <;> cases h
/-- what a subscript asks, of frozen data -/
theorem ix_ok {c : Ct} {F H : Hp} {σ : St} {ρ : Rho} {Q : VK} {x y : V} {d e z : D} (S : SR X.K c F H σ ρ) (rx : Is X.K F x d) (ry : Is X.K F y e) (h : D.ix d e = some z) (hb : ∀ b, e ≠ .bl b) (q : ∀ v, Is X.K F v z → Q v H) : rIx X.K x y H Q := by
  cases ry with
  | int i =>
    cases rx with
    | lst s t =>
      obtain ⟨v, h1, h2⟩ := atI_get t h
      exact .inl ⟨_, _, i, v, rfl, rfl, .of (S.fh _ _ s), h1, q v h2⟩
    | tup s t =>
      obtain ⟨v, h1, h2⟩ := atI_get t h
      exact .inr (.inl ⟨_, _, i, v, rfl, rfl, sqT_mono S.fh s, h1, q v h2⟩)
    | str zz =>
      have := ix_read (K := X.K) (H := F) (Q := fun v _ => Q v H) (.str zz) (.int i) h (fun b => by simp) q
      rcases this with ⟨_, _, _, _, z, _⟩ | ⟨_, _, _, _, z, _⟩ | ⟨a1, a2, a3, a4, a5, a6, a7, a8⟩
      · cases z
      · cases z
      · exact .inr (.inr ⟨a1, a2, a3, a4, a5, a6, a7, a8⟩)
    | @scr a ns s =>
      have h' : (atI ns i).map D.int = some z := h
      cases w : atI ns i with
      | none => rw [w] at h'; cases h'
      | some n =>
        rw [w] at h'; cases h'
        refine .inl ⟨_, _, i, .int n, rfl, rfl, sqL_mono S.fh s, ?_, q _ (.int n)⟩
        rw [atI_map, w]
        rfl
    | _ => cases h
  | bl b => exact absurd rfl (hb b)
  | _ => cases rx <;> cases h
def D.ixI (d e : D) : Option D := match e with
  | .bl _ => none
  | e => D.ix d e
theorem ixI_some {d e z : D} (h : D.ixI d e = some z) : D.ix d e = some z ∧ ∀ b, e ≠ .bl b := by
  cases e with
  | bl b => cases h
  | _ => exact ⟨h, fun b z => by cases z⟩
theorem dv_ix (ha : DV X W a ma) (hb : DV X W b mb) (hs : PlainIx b := by exact fun _ _ => rfl) : DV X W (.Subscript a b pos) (cOp D.ixI ma mb) := by
  obtain ⟨ta, pa, ka⟩ := ha.run
  obtain ⟨tb, pb, kb⟩ := hb.run
  refine ⟨_, pe_ix ix_seq pa pb hs, fun c F H σ ρ Q S p => DOp.use (op := D.ixI) (fun c F H σ ρ Q x y d e z S rx ry h q => ?_) ka kb S p⟩
  obtain ⟨h1, h2⟩ := ixI_some h
  exact ix_ok S rx ry h1 h2 fun v i => q v F H (Same.refl _) S i
/-- x[e], x a name of the def whose list may be its own: the list is read when e is known -/
def slotD : Option Sl → Option D
  | some (.val d) => some d
  | some (.own ds) => some (.lst ds)
  | some (.io ds) => some (.lst ds)
  | _ => none
def cIxV (i : Nat) (mb : M D) : M D := fun ρ => match slotD ρ[i]? with
  | none => .bad
  | some _ => (mb ρ).bind fun b ρ1 => match slotD ρ1[i]? with
    | some d => ret (D.ixI d b) ρ1
    | none => .bad
theorem slot_read {K : PySem.W.Frag} {c : Ct} {F H : Hp} {σ : St} {ρ : Rho} (S : SR K c F H σ ρ) {i : Nat} {d : D} (h : slotD ρ[i]? = some d) : ∃ v, σ[i]? = some (some v) ∧
    (Is K F v d ∨ ∃ p xs ds, v = .ref p ∧ d = .lst ds ∧ H p = some (.lst xs) ∧ IsAll K F xs ds) := by
  cases q : ρ[i]? with
  | none => rw [q] at h; cases h
  | some s =>
    rw [q] at h
    cases s with
    | val e => cases h; obtain ⟨v, h1, h2⟩ := S.vl i d q; exact ⟨v, h1, .inl h2⟩
    | own ds => cases h; obtain ⟨p, xs, h1, h2, h3, h4, _⟩ := S.ow i _ ds q rfl; exact ⟨_, h1, .inr ⟨p, xs, ds, rfl, rfl, h3, h4⟩⟩
    | io ds => cases h; obtain ⟨p, xs, h1, h2, h3, h4, _⟩ := S.ow i _ ds q rfl; exact ⟨_, h1, .inr ⟨p, xs, ds, rfl, rfl, h3, h4⟩⟩
    | no => cases h
theorem dv_ixV {i : Nat} (ha : PE X a (tVar i)) (hb : DV X W b mb) (hs : PlainIx b := by exact fun _ _ => rfl) : DV X W (.Subscript a b pos) (cIxV i mb) := by
  obtain ⟨tb, pb, kb⟩ := hb.run
  refine ⟨_, pe_ix ix_seq ha pb hs, fun c F H σ ρ Q S p => ?_⟩
  unfold cIxV at p
  cases q0 : slotD ρ[i]? with
  | none => rw [q0] at p; exact p.elim
  | some d0 =>
    rw [q0] at p
    obtain ⟨v0, h0, _⟩ := slot_read S q0
    refine ⟨v0, h0, kb c F H σ ρ _ S ((Post.bind p).imp fun F1 H1 ρ1 b1 e1 S1 q1 vb rb => ?_)⟩
    cases q2 : slotD ρ1[i]? with
    | none => rw [q2] at q1; exact q1.elim
    | some d =>
      rw [q2] at q1
      have q1 : Post X.K c W F1 σ (fun F' H' x d => ∀ (v : V), Is X.K F' v d → Q v H') (ret (D.ixI d b1) ρ1) := q1
      obtain ⟨v, h, r⟩ := slot_read S1 q2
      rw [h0] at h; cases h
      cases z : D.ixI d b1 with
      | none => rw [z] at q1; exact q1.elim
      | some y =>
        rw [z] at q1
        obtain ⟨z1, z2⟩ := ixI_some z
        have fin : ∀ v, Is X.K F1 v y → Q v H1 := fun v i => q1 F1 H1 (Same.refl _) S1 v i
        rcases r with r | ⟨p', xs, ds, rfl, rfl, hp, ha'⟩
        · exact ix_ok S1 r rb z1 z2 fin
        · cases rb with
          | int k =>
            obtain ⟨v, h1, h2⟩ := atI_get ha' z1
            exact .inl ⟨p', _, k, v, rfl, rfl, .of hp, h1, fin v h2⟩
          | bl b => exact absurd rfl (z2 b)
          | _ => cases z1
end

/-! ### calls of built-ins by values -/
/-- r, a built-in's rule, gives data -/
def DCall (X : Cx) (r : List V → Hp → VK → Prop) (op : List D → Option D) : Prop :=
  ∀ c F H σ ρ (Q : VK) xs ds z, SR X.K c F H σ ρ → IsAll X.K F xs ds → op ds = some z → (∀ v F' H', Same F F' → SR X.K c F' H' σ ρ → Is X.K F' v z → Q v H') → r xs H Q
/-- .. a fresh list -/
def DCallL (X : Cx) (r : List V → Hp → VK → Prop) (op : List D → Option (List D)) : Prop :=
  ∀ c F H σ ρ (Q : VK) xs ds zs, SR X.K c F H σ ρ → IsAll X.K F xs ds → op ds = some zs → (∀ v F' H', Same F F' → SR X.K c F' H' σ ρ → Res X.K c F' H' σ ρ v (.own zs) → Q v H') → r xs H Q
def cCall (op : List D → Option D) (ms : M (List D)) : M D := fun ρ => (ms ρ).bind fun ds ρ1 => ret (op ds) ρ1
def cCallL (op : List D → Option (List D)) (ms : M (List D)) : M Sl := fun ρ => (ms ρ).bind fun ds ρ1 => match op ds with
  | some zs => .ok (.own zs) ρ1
  | none => .bad
section
variable {X : Cx} {W : WX} {e : Expr} {es : List Expr} {ms : M (List D)} {p pos : Pos} {x : Str} {id T : String} {r : List V → Hp → VK → Prop} {op : List D → Option D} {opL : List D → Option (List D)}
theorem DCall.use {ta : TA} (k : DCall X r op) (ka : ∀ c F H σ ρ (Q : List V → Hp → Prop), SR X.K c F H σ ρ → Post X.K c W F σ (fun F' H' _ ds => ∀ vs, IsAll X.K F' vs ds → Q vs H') (ms ρ) → ta σ H Q)
    {c : Ct} {F H : Hp} {σ : St} {ρ : Rho} {Q : VK} (S : SR X.K c F H σ ρ) (q : Post X.K c W F σ (fun F' H' _ d => ∀ v, Is X.K F' v d → Q v H') (cCall op ms ρ)) : tCB r ta σ H Q := by
  refine ka c F H σ ρ _ S ((Post.bind q).imp fun F1 H1 ρ1 ds e1 S1 q1 vs rs => ?_)
  cases z : op ds with
  | none => rw [z] at q1; exact q1.elim
  | some d => rw [z] at q1; exact k c F1 H1 σ ρ1 Q vs ds d S1 rs z fun v F' H' e' S' i => q1 F' H' e' S' v i
theorem DCallL.use {ta : TA} (k : DCallL X r opL) (ka : ∀ c F H σ ρ (Q : List V → Hp → Prop), SR X.K c F H σ ρ → Post X.K c W F σ (fun F' H' _ ds => ∀ vs, IsAll X.K F' vs ds → Q vs H') (ms ρ) → ta σ H Q)
    {c : Ct} {F H : Hp} {σ : St} {ρ : Rho} {Q : VK} (S : SR X.K c F H σ ρ) (q : Post X.K c W F σ (fun F' H' ρ' s => ∀ v, Res X.K c F' H' σ ρ' v s → Q v H') (cCallL opL ms ρ)) : tCB r ta σ H Q := by
  refine ka c F H σ ρ _ S ((Post.bind q).imp fun F1 H1 ρ1 ds e1 S1 q1 vs rs => ?_)
  cases z : opL ds with
  | none => rw [z] at q1; exact q1.elim
  | some d => rw [z] at q1; exact k c F1 H1 σ ρ1 Q vs ds d S1 rs z fun v F' H' e' S' i => q1 F' H' e' S' v i
theorem dv_callB (hc : CallR X (.builtin id) r) (k : DCall X r op) (hg : Gl X x) (hm : X.mg x = none) (hv : bootBuiltins x = some (.builtin id)) (ha : DA X W (e :: es) ms) (hn : x ≠ "__name__" := by decide) (hdb : (x == ("__debug__" : Str)) = false := by decide)
    (he : starEach (e :: es) X.env = (false, eval e X.env) :: starEach es X.env := by rfl) (hpl : (backTo pos (starEach es X.env)).any (·.1) = false := by rfl) : DV X W (.Call (.Name x p) (e :: es) [] pos) (cCall op ms) := by
  obtain ⟨ta, pa, ka⟩ := ha.run
  exact ⟨_, pe_callB hc hg hm hv pa hn hdb he hpl, fun c F H σ ρ Q S q => k.use ka S q⟩
theorem dv_callTy (hc : CallR X (.type T) r) (k : DCall X r op) (hg : Gl X x) (hm : X.mg x = none) (hv : bootBuiltins x = some (.type T)) (ha : DA X W (e :: es) ms) (hn : x ≠ "__name__" := by decide) (hdb : (x == ("__debug__" : Str)) = false := by decide)
    (he : starEach (e :: es) X.env = (false, eval e X.env) :: starEach es X.env := by rfl) (hpl : (backTo pos (starEach es X.env)).any (·.1) = false := by rfl) : DV X W (.Call (.Name x p) (e :: es) [] pos) (cCall op ms) := by
  obtain ⟨ta, pa, ka⟩ := ha.run
  exact ⟨_, pe_callTy hc hg hm hv pa hn hdb he hpl, fun c F H σ ρ Q S q => k.use ka S q⟩
theorem de_callB (hc : CallR X (.builtin id) r) (k : DCallL X r opL) (hg : Gl X x) (hm : X.mg x = none) (hv : bootBuiltins x = some (.builtin id)) (ha : DA X W (e :: es) ms) (hn : x ≠ "__name__" := by decide) (hdb : (x == ("__debug__" : Str)) = false := by decide)
    (he : starEach (e :: es) X.env = (false, eval e X.env) :: starEach es X.env := by rfl) (hpl : (backTo pos (starEach es X.env)).any (·.1) = false := by rfl) : DE X W (.Call (.Name x p) (e :: es) [] pos) (cCallL opL ms) := by
  obtain ⟨ta, pa, ka⟩ := ha.run
  exact ⟨_, pe_callB hc hg hm hv pa hn hdb he hpl, fun c F H σ ρ Q S q => k.use ka S q⟩
theorem de_callTy (hc : CallR X (.type T) r) (k : DCallL X r opL) (hg : Gl X x) (hm : X.mg x = none) (hv : bootBuiltins x = some (.type T)) (ha : DA X W (e :: es) ms) (hn : x ≠ "__name__" := by decide) (hdb : (x == ("__debug__" : Str)) = false := by decide)
    (he : starEach (e :: es) X.env = (false, eval e X.env) :: starEach es X.env := by rfl) (hpl : (backTo pos (starEach es X.env)).any (·.1) = false := by rfl) : DE X W (.Call (.Name x p) (e :: es) [] pos) (cCallL opL ms) := by
  obtain ⟨ta, pa, ka⟩ := ha.run
  exact ⟨_, pe_callTy hc hg hm hv pa hn hdb he hpl, fun c F H σ ρ Q S q => k.use ka S q⟩
end
end DL

end
section
namespace DL
open PySem PySem.Spec L2

/-! ### statements -/
inductive Fl where
  | next | ret (s : Sl) | brk | cont
def PostS (K : PySem.W.Frag) (c : Ct) (W : WX) (F : Hp) (Dn : Ends) : R Fl → Prop
  | .ok fl ρ' => ∀ F' H' σ', Same F F' → SR K c F' H' σ' ρ' → (match fl with
    | .next => Dn.nx σ' H'
    | .brk => Dn.bk σ' H'
    | .cont => Dn.ct σ' H'
    | .ret s => ∀ v, Res K c F' H' σ' ρ' v s → Dn.rt v H')
  | .exc C x ρ' => ∀ d v F' H' σ', Same F F' → SR K c F' H' σ' ρ' → F' d = some (.xd [(("value" : Str), v)]) → Is K F' v x → W (.ref (He.ga K C)) (some d) σ' H'
  | .bad => False
theorem PostS.mono {K : PySem.W.Frag} {c : Ct} {W : WX} {F F1 : Hp} {Dn : Ends} {r : R Fl} (h : PostS K c W F Dn r) (e : Same F F1) : PostS K c W F1 Dn r := by
  cases r with
  | ok a ρ' => exact fun F' H' σ' e' S => h F' H' σ' (e.trans e') S
  | exc C x ρ' => exact fun d v F' H' σ' e' => h d v F' H' σ' (e.trans e')
  | bad => exact h
/-- an expression ahead of the rest of a statement -/
theorem PostS.bind {K : PySem.W.Frag} {c : Ct} {W : WX} {F : Hp} {σ : St} {Dn : Ends} {α : Type} {r : R α} {f : α → Rho → R Fl} (h : PostS K c W F Dn (r.bind f)) :
    Post K c W F σ (fun F' _ ρ' a => PostS K c W F' Dn (f a ρ')) r := by
  cases r with
  | ok a ρ' => exact fun F' H' e S => PostS.mono (r := f a ρ') h e
  | exc C x ρ' => exact fun d v F' H' e S => h d v F' H' σ e S
  | bad => exact h

structure DS (X : Cx) (W : WX) (st : Stmt) (m : M Fl) : Prop where
  run : ∃ ts, PS X st ts ∧ ∀ c F H σ ρ (Dn : Ends), SR X.K c F H σ ρ → PostS X.K c W F Dn (m ρ) → ts Dn σ H
structure DSs (X : Cx) (W : WX) (st : List Stmt) (m : M Fl) : Prop where
  run : ∃ ts, PSs X st ts ∧ ∀ c F H σ ρ (Dn : Ends), SR X.K c F H σ ρ → PostS X.K c W F Dn (m ρ) → ts Dn σ H
/-- σ' is σ but for the slots vs -/
def But (vs : List Nat) (σ σ' : St) : Prop := ∀ ws : List Nat, (∀ i ∈ vs, i ∈ ws) → wipe σ' ws = wipe σ ws
theorem But.refl {vs : List Nat} {σ : St} : But vs σ σ := fun _ _ => rfl
theorem But.trans {vs : List Nat} {σ σ1 σ2 : St} (a : But vs σ σ1) (b : But vs σ1 σ2) : But vs σ σ2 := fun ws h => (b ws h).trans (a ws h)
theorem But.more {vs us : List Nat} {σ σ1 : St} (a : But vs σ σ1) (h : ∀ i ∈ vs, i ∈ us) : But us σ σ1 := fun ws k => a ws fun i hi => k i (h i hi)
theorem wipe_get {σ : St} {i : Nat} : ∀ {vs : List Nat}, (wipe σ vs)[i]? = if i ∈ vs then (σ[i]?).map fun _ => none else σ[i]?
  | [] => by simp [wipe]
  | v :: vs => by
    unfold wipe
    by_cases h : v = i
    · subst h
      rw [List.getElem?_set]
      simp only [if_true, List.mem_cons, true_or, wipe_length]
      by_cases hl : v < σ.length
      · rw [if_pos hl, List.getElem?_eq_getElem hl]; rfl
      · rw [if_neg hl, List.getElem?_eq_none (by omega)]; rfl
    · rw [List.getElem?_set_ne h, wipe_get]
      have : i ∈ v :: vs ↔ i ∈ vs := by simp [List.mem_cons, Ne.symm h]
      by_cases hm : i ∈ vs
      · rw [if_pos hm, if_pos (this.mpr hm)]
      · rw [if_neg hm, if_neg (fun z => hm (this.mp z))]
theorem But.set {σ : St} {i : Nat} {v : Option V} : But [i] σ (σ.set i v) := fun ws h => by
  have hi : i ∈ ws := h i (by simp)
  refine List.ext_getElem? fun j => ?_
  rw [wipe_get, wipe_get]
  by_cases e : i = j
  · subst e
    rw [if_pos hi, if_pos hi, List.getElem?_set]
    by_cases hl : i < σ.length
    · simp [hl]
    · simp [hl]
  · rw [List.getElem?_set_ne e]
/-- a target, stored with data; vs the slots that are stored -/
structure DG (X : Cx) (tg : Expr) (vs : List Nat) (g : D → Rho → Option Rho) : Prop where
  run : ∃ t, PG X tg t ∧ ∀ c F H σ ρ v d (Q : St → Hp → Prop), SR X.K c F H σ ρ → Is X.K F v d → (∃ ρ', g d ρ = some ρ' ∧ ∀ F' H' σ', Same F F' → SR X.K c F' H' σ' ρ' → But vs σ σ' → Q σ' H') → t v σ H Q

def sNext : M Fl := fun ρ => .ok .next ρ
def sBrk : M Fl := fun ρ => .ok .brk ρ
def sCont : M Fl := fun ρ => .ok .cont ρ
def sSeq (a b : M Fl) : M Fl := fun ρ => (a ρ).bind fun fl ρ1 => match fl with
  | .next => b ρ1
  | fl => .ok fl ρ1
section
variable {X : Cx} {W : WX} {st : Stmt} {rest sa sb : List Stmt} {a b : M Fl} {e tg : Expr} {m : M D} {pos : Pos}
theorem dss_nil : DSs X W [] sNext := ⟨tNext, pss_nil, fun c F H σ ρ Dn S p => p F H σ (Same.refl _) S⟩
theorem dss_one (h : DS X W st a) : DSs X W [st] a := by
  obtain ⟨t, p, k⟩ := h.run
  exact ⟨t, pss_one p, k⟩
theorem seq_post {K : PySem.W.Frag} {c : Ct} {F : Hp} {Dn : Ends} {r : R Fl} {u : TS} (k : ∀ c F H σ ρ (Dn : Ends), SR K c F H σ ρ → PostS K c W F Dn (b ρ) → u Dn σ H)
    (p : PostS K c W F Dn (r.bind fun fl ρ1 => match fl with | .next => b ρ1 | fl => .ok fl ρ1)) : PostS K c W F { Dn with nx := u Dn } r := by
  cases r with
  | ok fl ρ' =>
    cases fl with
    | next => exact fun F' H' σ' e' S => k c F' H' σ' ρ' Dn S (PostS.mono (r := b ρ') p e')
    | ret s => exact p
    | brk => exact p
    | cont => exact p
  | exc C x ρ' => exact p
  | bad => exact p
theorem dss_cons (h1 : DS X W st a) (h2 : DSs X W rest b) : DSs X W (st :: rest) (sSeq a b) := by
  obtain ⟨t, p, k⟩ := h1.run
  obtain ⟨u, p2, k2⟩ := h2.run
  exact ⟨_, pss_cons p p2, fun c F H σ ρ Dn S q => k c F H σ ρ _ S (seq_post k2 q)⟩
theorem ds_pass : DS X W (.Pass pos) sNext := ⟨tNext, ps_pass, fun c F H σ ρ Dn S p => p F H σ (Same.refl _) S⟩
theorem ds_break : DS X W (.Break pos) sBrk := ⟨tBreak, ps_break, fun c F H σ ρ Dn S p => p F H σ (Same.refl _) S⟩
theorem ds_continue : DS X W (.Continue pos) sCont := ⟨tCont, ps_continue, fun c F H σ ρ Dn S p => p F H σ (Same.refl _) S⟩
theorem ds_bad : DS X W st cBad := ⟨tNever, ps_never, fun c F H σ ρ Dn S p => p.elim⟩
theorem dss_bad : DSs X W rest cBad := ⟨tNever, pss_never, fun c F H σ ρ Dn S p => p.elim⟩
/-- return -/
def sRet (m : M Sl) : M Fl := fun ρ => (m ρ).bind fun s ρ1 => .ok (.ret s) ρ1
theorem ds_ret {m : M Sl} (h : DE X W e m) : DS X W (.Return (some e) pos) (sRet m) := by
  obtain ⟨t, p, k⟩ := h.run
  exact ⟨_, ps_ret p, fun c F H σ ρ Dn S q => k c F H σ ρ _ S ((PostS.bind q).imp fun F' H' ρ' s e1 S1 q1 v r => q1 F' H' σ (Same.refl _) S1 v r)⟩
def sRetN : M Fl := fun ρ => .ok (.ret (.val .non)) ρ
theorem ds_retN : DS X W (.Return none pos) sRetN := ⟨tRetN, ps_retN, fun c F H σ ρ Dn S p => p F H σ (Same.refl _) S .non .non⟩
/-- an expression whose value is dropped -/
def sDrop (m : M D) : M Fl := fun ρ => (m ρ).bind fun _ ρ1 => .ok .next ρ1
theorem ds_expr (h : DV X W e m) (hs : swapsWith e none pos.line X.env = pure false := by rfl) : DS X W (.Expr e pos) (sDrop m) := by
  obtain ⟨t, p, k⟩ := h.run
  exact ⟨_, ps_expr p hs, fun c F H σ ρ Dn S q => k c F H σ ρ _ S ((PostS.bind q).imp fun F' H' ρ' s e1 S1 q1 v r => q1 F' H' σ (Same.refl _) S1)⟩
theorem ds_doc {x j pos pos'} : DS X W (.Expr (.Constant (.str x) j pos) pos') sNext := ⟨tNext, ps_doc, fun c F H σ ρ Dn S p => p F H σ (Same.refl _) S⟩
/-- if -/
def sIf (t : M Bool) (a b : M Fl) : M Fl := cIf t a b
theorem ds_if {t : Expr} {n : M Bool} (ht : DT X W t n) (ha : DSs X W sa a) (hb : DSs X W sb b) : DS X W (.If t sa sb pos) (sIf n a b) := by
  obtain ⟨tt, pt, kt⟩ := ht.run
  obtain ⟨ta, pa, ka⟩ := ha.run
  obtain ⟨tb, pb, kb⟩ := hb.run
  refine ⟨_, ps_if pt pa pb, fun c F H σ ρ Dn S q => kt c F H σ ρ _ S ((PostS.bind q).imp fun F' H' ρ' t e1 S1 q1 => ?_)⟩
  cases t with
  | true => rw [if_pos rfl]; exact ka c F' H' σ ρ' Dn S1 q1
  | false => rw [if_neg Bool.false_ne_true]; exact kb c F' H' σ ρ' Dn S1 q1
/-- targets -/
def gNm (i : Nat) : D → Rho → Option Rho := fun d ρ => some (ρ.set i (.val d))
theorem dg_name {i : Nat} {x : Str} (hN : X.N.Nodup) (hi : X.N[i]? = some x) (hx : Loc X.env.scope x) (hf : X.fn x = true ∨ X.env.scope.names.lookup x = some .local := by first | exact .inl rfl | exact .inr rfl | assumption) : DG X (.Name x pos) [i] (gNm i) :=
  ⟨_, pg_name hN hi hx hf, fun c F H σ ρ v d Q S r ⟨ρ', e, q⟩ => by
    cases e
    exact q F H _ (Same.refl _) (S.store r) But.set⟩
def gNone : List D → Rho → Option Rho
  | [], ρ => some ρ
  | _ :: _, _ => none
def gMore (g : D → Rho → Option Rho) (gs : List D → Rho → Option Rho) : List D → Rho → Option Rho
  | [], _ => none
  | d :: ds, ρ => (g d ρ).bind fun ρ1 => gs ds ρ1
structure DGs (X : Cx) (tgs : List Expr) (us : List Nat) (g : List D → Rho → Option Rho) : Prop where
  run : ∃ t, PGs X tgs t ∧ ∀ c F H σ ρ vs ds (Q : St → Hp → Prop), SR X.K c F H σ ρ → IsAll X.K F vs ds → (∃ ρ', g ds ρ = some ρ' ∧ ∀ F' H' σ', Same F F' → SR X.K c F' H' σ' ρ' → But us σ σ' → Q σ' H') → t vs σ H Q
theorem dgs_nil : DGs X [] [] gNone := ⟨gNil, pgs_nil, fun c F H σ ρ vs ds Q S r ⟨ρ', e, q⟩ => by
  cases r with
  | nil => cases e; exact ⟨rfl, q F H σ (Same.refl _) S But.refl⟩
  | cons _ _ => cases e⟩
theorem dgs_cons {tgs : List Expr} {us ws : List Nat} {g : D → Rho → Option Rho} {gs : List D → Rho → Option Rho} (h : DG X tg us g) (hs : DGs X tgs ws gs)
    (hst : (assignEach (tg :: tgs) X.env).map (·.2) = assign tg X.env :: (assignEach tgs X.env).map (·.2) := by rfl) : DGs X (tg :: tgs) (us ++ ws) (gMore g gs) := by
  obtain ⟨t, p, k⟩ := h.run
  obtain ⟨u, p2, k2⟩ := hs.run
  refine ⟨_, pgs_cons p p2 hst, fun c F H σ ρ vs ds Q S r ⟨ρ', e, q⟩ => ?_⟩
  cases r with
  | nil => cases e
  | @cons v vs d ds r1 rs =>
    have e' : (g d ρ).bind (fun ρ1 => gs ds ρ1) = some ρ' := e
    cases z : g d ρ with
    | none => rw [z] at e'; cases e'
    | some ρ1 =>
      rw [z] at e'
      refine ⟨_, _, rfl, k c F H σ ρ _ _ _ S r1 ⟨ρ1, z, fun F1 H1 σ1 e1 S1 b1 => ?_⟩⟩
      exact k2 c F1 H1 σ1 ρ1 _ _ Q S1 (rs.mono e1) ⟨ρ', e', fun F2 H2 σ2 e2 S2 b2 => q F2 H2 σ2 (e1.trans e2) S2 ((b1.more (by simp; intro i h; exact .inl h)).trans (b2.more (by simp; intro i h; exact .inr h)))⟩
def gTp (gs : List D → Rho → Option Rho) : D → Rho → Option Rho
  | .tup ds, ρ => gs ds ρ
  | _, _ => none
theorem dg_tup {tgs : List Expr} {k : Nat} {us : List Nat} {gs : List D → Rho → Option Rho} {n : Nat} (hc : X.calm = true) (h : DGs X tgs us gs) (hl : ∀ ds ρ ρ', gs ds ρ = some ρ' → ds.length = n)
    (hn : (assignEach tgs X.env).length = n := by rfl) (hst : (assignEach tgs X.env).findIdx? (·.1) = none := by rfl) : DG X (.Tuple tgs k pos) us (gTp gs) := by
  obtain ⟨t, p, kk⟩ := h.run
  refine ⟨_, pg_tup hc p hn hst, fun c F H σ ρ v d Q S r ⟨ρ', e, q⟩ => ?_⟩
  cases r with
  | tup s ra => exact ⟨_, _, rfl, sqT_mono S.fh s, by rw [ra.length]; exact hl _ _ _ e, kk c F H σ ρ _ _ Q S ra ⟨ρ', e, q⟩⟩
  | _ => cases e
theorem gNone_len : ∀ ds ρ ρ', gNone ds ρ = some ρ' → ds.length = 0 := fun ds ρ ρ' h => by
  cases ds with
  | nil => rfl
  | cons _ _ => cases h
theorem gMore_len {g : D → Rho → Option Rho} {gs : List D → Rho → Option Rho} {n : Nat} (h : ∀ ds ρ ρ', gs ds ρ = some ρ' → ds.length = n) : ∀ ds ρ ρ', gMore g gs ds ρ = some ρ' → ds.length = n + 1 := fun ds ρ ρ' e => by
  cases ds with
  | nil => cases e
  | cons d ds =>
    have e' : (g d ρ).bind (fun ρ1 => gs ds ρ1) = some ρ' := e
    cases z : g d ρ with
    | none => rw [z] at e'; cases e'
    | some ρ1 => rw [z] at e'; exact congrArg Nat.succ (h ds ρ1 ρ' e')
/-- x[e] = .., x a name of the def whose list is its own -/
def putAt (ds : List D) (i : Int) (d : D) : Option (List D) := (ixN ds.length i).map fun j => ds.set j d
def gSb (i : Nat) (mi : M D) : D → Rho → Option Rho := fun d ρ => match (ρ[i]?).bind Sl.mut with
  | none => none
  | some _ => match mi ρ with
    | .ok (.int k) ρ1 => match ρ1[i]? with
      | some s => match s.mut with
        | some ds => (putAt ds k d).map fun es => ρ1.set i (s.put es)
        | none => none
      | none => none
    | _ => none
theorem mut_at {K : PySem.W.Frag} {c : Ct} {F H : Hp} {σ : St} {ρ : Rho} (S : SR K c F H σ ρ) {i : Nat} {s : Sl} {ds : List D} (h : ρ[i]? = some s) (m : s.mut = some ds) : ∃ p xs, σ[i]? = some (some (.ref p)) ∧ F p = none ∧ H p = some (.lst xs) ∧ IsAll K F xs ds := by
  obtain ⟨p, xs, h1, h2, h3, h4, _⟩ := S.ow i s ds h m
  exact ⟨p, xs, h1, h2, h3, h4⟩
theorem dg_sub {i : Nat} {o ix : Expr} {mi : M D} (ho : PE X o (tVar i)) (hi : DV X W ix mi)
    (ha : ∀ v, assign (.Subscript o ix pos) X.env v = (do
      let ov ← holding [v] (eval o X.env)
      let iv ← holding [v, ov] (eval ix X.env)
      standAt pos
      holding [v, ov, iv] (setItem ov iv v)
      release [v, ov, iv] []) := by intro _; rfl) : DG X (.Subscript o ix pos) [] (gSb i mi) := by
  obtain ⟨t, p, k⟩ := hi.run
  refine ⟨_, pg_sub ho p set_list ha, fun c F H σ ρ v d Q S r ⟨ρ', e, q⟩ => ?_⟩
  unfold gSb at e
  cases z0 : (ρ[i]?).bind Sl.mut with
  | none => rw [z0] at e; cases e
  | some ds0 =>
    rw [z0] at e
    obtain ⟨s0, z1, z2⟩ := Option.bind_eq_some_iff.mp z0
    obtain ⟨p0, xs0, h0, _⟩ := mut_at S z1 z2
    refine ⟨_, h0, k c F H σ ρ _ S ?_⟩
    cases zm : mi ρ with
    | bad => rw [zm] at e; cases e
    | exc C x ρ1 => rw [zm] at e; cases e
    | ok dk ρ1 =>
      rw [zm] at e
      intro F1 H1 e1 S1 vk rk
      cases dk with
      | int kk =>
        cases rk
        cases z3 : ρ1[i]? with
        | none => simp only [z3] at e; cases e
        | some s1 =>
          cases z4 : s1.mut with
          | none => simp only [z3, z4] at e; cases e
          | some ds1 =>
            simp only [z3, z4] at e
            obtain ⟨es, z5, z6⟩ := Option.map_eq_some_iff.mp e
            obtain ⟨p1, xs1, h1, h2, h3, h4⟩ := mut_at S1 z3 z4
            rw [h0] at h1; cases h1
            unfold putAt at z5
            obtain ⟨j, z7, z8⟩ := Option.map_eq_some_iff.mp z5
            refine ⟨p0, xs1, kk, j, rfl, rfl, h3, by rw [h4.length]; exact z7, ?_⟩
            subst z8 z6
            exact q F1 _ σ e1 (S1.change z3 z4 h0 (IsAll.set (r.mono e1) j h4)) But.refl
      | _ => cases e
/-- target = value -/
def sAsg (m : M D) (g : D → Rho → Option Rho) : M Fl := fun ρ => (m ρ).bind fun d ρ1 => match g d ρ1 with
  | some ρ2 => .ok .next ρ2
  | none => .bad
theorem ds_asg {us : List Nat} {g : D → Rho → Option Rho} (h : DV X W e m) (hg : DG X tg us g) (hs : swapsWithSole [tg] e pos.line X.env = pure false := by rfl) (hw : swappedStores [tg] e X.env = pure none := by rfl)
    (h1 : (assignEach [tg] X.env).map (·.2) = [assign tg X.env] := by rfl) : DS X W (.Assign [tg] e pos) (sAsg m g) := by
  obtain ⟨t, p, k⟩ := h.run
  obtain ⟨u, p2, k2⟩ := hg.run
  refine ⟨_, ps_asg p p2 hs hw h1, fun c F H σ ρ Dn S q => k c F H σ ρ _ S ((PostS.bind q).imp fun F1 H1 ρ1 d e1 S1 q1 v r => ?_)⟩
  cases z : g d ρ1 with
  | none => simp only [z] at q1; exact q1.elim
  | some ρ2 =>
    simp only [z] at q1
    exact k2 c F1 H1 σ ρ1 v d _ S1 r ⟨ρ2, z, fun F2 H2 σ2 e2 S2 _ => q1 F2 H2 σ2 e2 S2⟩
/-- name = value, the value a fresh list or data -/
def sSet (i : Nat) (m : M Sl) : M Fl := fun ρ => (m ρ).bind fun s ρ1 => match s with
  | .val d => .ok .next (ρ1.set i (.val d))
  | .own ds => .ok .next (ρ1.set i (.own ds))
  | _ => .bad
theorem set_use {K : PySem.W.Frag} {c : Ct} {F : Hp} {σ : St} {Dn : Ends} {r : R Sl} {i : Nat} (q : PostS K c W F Dn (r.bind fun s ρ1 => match s with
  | .val d => .ok .next (ρ1.set i (.val d))
  | .own ds => .ok .next (ρ1.set i (.own ds))
  | _ => .bad)) : Post K c W F σ (fun F' H' ρ' s => ∀ v, Res K c F' H' σ ρ' v s → Dn.nx (σ.set i (some v)) H') r := by
  refine (PostS.bind q).imp fun F1 H1 ρ1 s e1 S1 q1 v r => ?_
  cases s with
  | val d => exact q1 F1 H1 _ (Same.refl _) (S1.store r)
  | own ds =>
    obtain ⟨p, xs, rfl, h1, h2, h3, h4, h5⟩ := r
    exact q1 F1 H1 _ (Same.refl _) (S1.storeOwn h1 h2 h3 h4 h5)
  | io ds => exact q1.elim
  | no => exact q1.elim
theorem ds_set {i : Nat} {x : Str} {m : M Sl} {pos' : Pos} (hN : X.N.Nodup) (hi : X.N[i]? = some x) (hx : Loc X.env.scope x) (h : DE X W e m) (hs : swapsWith e (some (.Name x pos')) pos.line X.env = pure false := by rfl)
    (hf : X.fn x = true ∨ X.env.scope.names.lookup x = some .local := by first | exact .inl rfl | exact .inr rfl | assumption) : DS X W (.Assign [.Name x pos'] e pos) (sSet i m) := by
  obtain ⟨t, p, k⟩ := h.run
  exact ⟨_, ps_set hN hi hx p hs hf, fun c F H σ ρ Dn S q => k c F H σ ρ _ S (set_use q)⟩
/-- a, b = x, y -/
def sPar (i j : Nat) (ms : M (List D)) : M Fl := fun ρ => (ms ρ).bind fun ds ρ1 => match ds with
  | [d, e] => .ok .next ((ρ1.set i (.val d)).set j (.val e))
  | _ => .bad
theorem ds_par {i j : Nat} {x y : Str} {ea eb : Expr} {ms : M (List D)} {px py pt : Pos} {kt k2 pt2} (hc : X.calm = true) (hN : X.N.Nodup) (hi : X.N[i]? = some x) (hj : X.N[j]? = some y) (hij : i ≠ j)
    (hx : X.env.scope.names.lookup x = some .local) (hy : X.env.scope.names.lookup y = some .local) (ha : DA X W [ea, eb] ms)
    (hw : swappedStores [.Tuple [.Name x px, .Name y py] kt pt] (.Tuple [ea, eb] k2 pt2) X.env = pure (some [x, y]))
    (hs : swapsWithSole [.Tuple [.Name x px, .Name y py] kt pt] (.Tuple [ea, eb] k2 pt2) pos.line X.env = pure false := by rfl) :
    DS X W (.Assign [.Tuple [.Name x px, .Name y py] kt pt] (.Tuple [ea, eb] k2 pt2) pos) (sPar i j ms) := by
  obtain ⟨t, p, k⟩ := ha.run
  refine ⟨_, ps_par hc hN hi hj hij hx hy p hw hs, fun c F H σ ρ Dn S q => k c F H σ ρ _ S ((PostS.bind q).imp fun F1 H1 ρ1 ds e1 S1 q1 vs rs => ?_)⟩
  cases rs with
  | nil => exact q1.elim
  | cons r1 rs =>
    cases rs with
    | nil => exact q1.elim
    | cons r2 rs =>
      cases rs with
      | nil => exact ⟨_, _, rfl, q1 F1 H1 _ (Same.refl _) ((S1.store r1).store r2)⟩
      | cons _ _ => exact q1.elim
/-- name op= e, by the operator's in-place rule -/
def sAug (i : Nat) (op : D → D → Option D) (m : M D) : M Fl := fun ρ => match ρ[i]? with
  | some (.val x) => (m ρ).bind fun y ρ1 => match op x y with
    | some z => .ok .next (ρ1.set i (.val z))
    | none => .bad
  | _ => .bad
theorem ds_aug {i : Nat} {x : Str} {o : Operator} {op : D → D → Option D} {pos' : Pos} (hN : X.N.Nodup) (hi : X.N[i]? = some x) (hx : Loc X.env.scope x) (h : DV X W e m) (ho : DOp X (inplaceOp o) op)
    (hf : X.fn x = true ∨ X.env.scope.names.lookup x = some .local := by first | exact .inl rfl | exact .inr rfl | assumption) : DS X W (.AugAssign (.Name x pos') o e pos) (sAug i op m) := by
  obtain ⟨t, p, k⟩ := h.run
  obtain ⟨r, hr, kr⟩ := ho
  have hip : PIp X o r := fun pins s σ H x y v u Q I rx ry hh => hr pins s σ H x y v u Q I rx ry hh
  refine ⟨_, ps_aug hN hi hx p hip hf, fun c F H σ ρ Dn S q => ?_⟩
  unfold sAug at q
  cases z : ρ[i]? with
  | none => rw [z] at q; exact q.elim
  | some sl =>
    rw [z] at q
    cases sl with
    | val d =>
      obtain ⟨v, h1, h2⟩ := S.vl i d z
      refine ⟨v, h1, k c F H σ ρ _ S ((PostS.bind q).imp fun F1 H1 ρ1 y e1 S1 q1 w rw_ => ?_)⟩
      cases z2 : op d y with
      | none => simp only [z2] at q1; exact q1.elim
      | some zz =>
        simp only [z2] at q1
        exact kr c F1 H1 σ ρ1 _ v w d y zz S1 (h2.mono e1) rw_ z2 fun v' F' H' e' S' i' => q1 F' H' _ e' (S'.store i')
    | _ => exact q.elim
end
end DL

end
section
namespace L2
open PySem PySem.Spec PyProof.Rows
/-! ### range of ints of any size -/
theorem turn_long {P : Program} {w : World} {K : PySem.W.Frag} {tg : Expr} (it : Addr) (lo : Int) (n : Nat) : Turn P w K tg (Itr lo n) [it] it (fun i h => IsLongIter h it (lo + (i : Nat) * 1) ((n : Int) - (i : Nat)) 1) where
  mem := by simp
  obj := fun i h st b hb => by
    have e : b = it := by simpa using hb
    subst e
    exact ⟨_, st, fun v z => by
      have z' : Data.fields _ = Data.cell v := z
      cases z'⟩
  keep := fun i h h' st k => k it (by simp) _ st
  item := by
    intro X hP hw hK hc i pins s σ H E I hf st hg
    subst hP hw hK
    obtain ⟨f0, f1, f2, f3, f4, f5⟩ := hf it (by simp)
    have W := Walks.longrange (prog := X.prog) (w := X.w) (I.ok.hd hc) it lo 1 n
    refine W.item i s _ _ hg st fun v h' tk hv st' kk => ?_
    obtain ⟨t, rfl⟩ := hv
    have I1 : Inv X pins σ H { s with heap := h', toks := tk } := I.turned (fun b o hb e => kk b o (by simpa using hb) e) f0 f1 f3 f4 f5
    refine ⟨_, rfl, go_of (s := { s with heap := h', toks := tk }) (n := "longrange_iterator") st' rfl rfl (by decide) ⟨.int (lo + i), H, I1, ⟨t, ?_⟩, ⟨rfl, rfl⟩, st', fun b hb => (hf b hb).1⟩⟩
    rw [Int.mul_one]
  done := by
    intro X hP hw hK hc i pins s σ H E I hf st hg
    subst hP hw hK
    obtain ⟨f0, f1, f2, f3, f4, f5⟩ := hf it (by simp)
    exact wpAny_pyNext_long_end (I.ok.hd hc) st (by have : n ≤ i := hg; omega) fun h' eb => ⟨rfl, I.turned (t' := s.toks) (fun b o hb e => eb b o hb e) f0 f1 f3 f4 f5⟩
  self := fun _ _ _ _ _ st h => wpAny_pyIter_longiter st h
section
variable {X : Cx} {tg : Expr}
theorem range_itA {pins : List (Addr × Obj)} {σ : St} {H : Hp} {s : Shared} {R : It → Hp → Prop} {E : Value → Shared → Prop} {lo hi : Int} {t u v : Tok} {tk : Nat} (I : Inv X pins σ H s)
    (q : R (Itr lo (hi - lo).toNat) H) : wpAny (model X.prog X.w) X.A (pyIter (.ref s.heap.objs.size)) (PIE X pins σ tg R) E { s with heap := s.heap.push { cls := .type "range", data := .fields #[.int lo t, .int hi u, .int 1 v] }, toks := tk } := by
  have e2 : (((hi - lo).toNat : Nat) : Int) = Builtin.Range.rangeSize lo hi 1 := by rw [rangeSize_one]; split <;> omega
  have I1 : Inv X pins σ H { s with heap := s.heap.push { cls := .type "range", data := .fields #[.int lo t, .int hi u, .int 1 v] }, toks := tk } := I.kept fun b o e => Heap.get?_push_of_some _ e
  cases hsm : Builtin.Range.small lo hi 1 with
  | true =>
    refine wpAny_pyIter_range (IsRange.new ..) hsm ?_
    refine ⟨(s.heap.push { cls := .type "range", data := .fields #[.int lo t, .int hi u, .int 1 v] }).objs.size, [(s.heap.push { cls := .type "range", data := .fields #[.int lo t, .int hi u, .int 1 v] }).objs.size], _, _, H, rfl,
      I1.kept (t' := tk) fun b o e => Heap.get?_push_of_some _ e, turn_range _ lo (hi - lo).toNat, ?_, fun b hb => ?_, q⟩
    · show IsRangeIter _ _ (lo + ((0 : Nat) : Int) * 1) ((((hi - lo).toNat : Nat) : Int) - ((0 : Nat) : Int)) 1
      rw [show lo + ((0 : Nat) : Int) * 1 = lo by simp, show (((hi - lo).toNat : Nat) : Int) - ((0 : Nat) : Int) = (((hi - lo).toNat : Nat) : Int) by simp, e2]
      exact Heap.get?_push_size _ rfl
    · have e : b = (s.heap.push { cls := .type "range", data := .fields #[.int lo t, .int hi u, .int 1 v] }).objs.size := by simpa using hb
      subst e
      exact I1.fpOk (Nat.le_refl _) (I1.hok.fresh (Nat.le_refl _))
  | false =>
    refine wpAny_pyIter_longrange (IsRange.new ..) hsm ?_
    refine ⟨(s.heap.push { cls := .type "range", data := .fields #[.int lo t, .int hi u, .int 1 v] }).objs.size, [(s.heap.push { cls := .type "range", data := .fields #[.int lo t, .int hi u, .int 1 v] }).objs.size], _, _, H, rfl,
      I1.kept (t' := tk) fun b o e => Heap.get?_push_of_some _ e, turn_long _ lo (hi - lo).toNat, ?_, fun b hb => ?_, q⟩
    · show IsLongIter _ _ (lo + ((0 : Nat) : Int) * 1) ((((hi - lo).toNat : Nat) : Int) - ((0 : Nat) : Int)) 1
      rw [show lo + ((0 : Nat) : Int) * 1 = lo by simp, show (((hi - lo).toNat : Nat) : Int) - ((0 : Nat) : Int) = (((hi - lo).toNat : Nat) : Int) by simp, e2]
      exact Heap.get?_push_size _ rfl
    · have e : b = (s.heap.push { cls := .type "range", data := .fields #[.int lo t, .int hi u, .int 1 v] }).objs.size := by simpa using hb
      subst e
      exact I1.fpOk (Nat.le_refl _) (I1.hok.fresh (Nat.le_refl _))
def iRng1A (ta : TA) : TI := fun σ H R => ta σ H fun vs H1 => ∃ j : Int, vs = [.int j] ∧ R (Itr 0 j.toNat) H1
def iRng2A (ta : TA) : TI := fun σ H R => ta σ H fun vs H1 => ∃ i j : Int, vs = [.int i, .int j] ∧ R (Itr i (j - i).toNat) H1
theorem pi_range1A {a : Expr} {ta : TA} {p pos : Pos} (hg : Gl X "range") (hm : X.mg "range" = none) (ha : PA X [a] ta) (hs : starEach [a] X.env = [(false, eval a X.env)] := by rfl) : PI X tg (.Call (.Name "range" p) [a] [] pos) (iRng1A ta) := by
  refine ⟨fun pins s σ H R I h => ?_⟩
  refine Call_ (ld_blt I hg hm boot_range (PyProof.Rows.callWith_type1 (thn (ha.run pos pins s σ H _ I h) fun us s1 ⟨vs, H1, I1, r1, q1⟩ => ?_) hs rfl))
  obtain ⟨j, e, q⟩ := q1
  subst e
  cases r1 with
  | cons r rr =>
    cases rr
    obtain ⟨t, rfl⟩ := r
    exact call_range_1 (range_itA I1 (by simpa using q))
theorem pi_range2A {a b : Expr} {ta : TA} {p pos : Pos} (hg : Gl X "range") (hm : X.mg "range" = none) (ha : PA X [a, b] ta) (hs : starEach [a, b] X.env = [(false, eval a X.env), (false, eval b X.env)] := by rfl) (hs2 : starEach [b] X.env = [(false, eval b X.env)] := by rfl) :
    PI X tg (.Call (.Name "range" p) [a, b] [] pos) (iRng2A ta) := by
  refine ⟨fun pins s σ H R I h => ?_⟩
  refine Call_ (ld_blt I hg hm boot_range (PyProof.Rows.callWith_type1 (thn (ha.run pos pins s σ H _ I h) fun us s1 ⟨vs, H1, I1, r1, q1⟩ => ?_) (by rw [hs, hs2]) (by rw [hs2]; rfl)))
  obtain ⟨i, j, e, q⟩ := q1
  subst e
  cases r1 with
  | cons r rr =>
    cases rr with
    | cons r' rr =>
      cases rr
      obtain ⟨t, rfl⟩ := r
      obtain ⟨t', rfl⟩ := r'
      exact call_range_2 (range_itA I1 q)
end
end L2
namespace DL
open PySem PySem.Spec L2

/-! ### what is walked -/
/-- J walks the data ds, from the frozen part F0 on -/
def IterD (K : PySem.W.Frag) (c : Ct) (J : It) (ds : List D) (F0 : Hp) : Prop := ∀ i F H σ ρ, Same F0 F → SR K c F H σ ρ →
  (∀ d, ds[i]? = some d → J.go i H ∧ ∀ x H', J.yld i H x H' → ∃ F', Same F F' ∧ SR K c F' H' σ ρ ∧ Is K F' x d) ∧ (ds.length ≤ i → J.stop i H)
structure DI (X : Cx) (W : WX) (tg iter : Expr) (m : M (List D)) : Prop where
  run : ∃ wi, PI X tg iter wi ∧ ∀ c F H σ ρ (Rr : It → Hp → Prop), SR X.K c F H σ ρ → Post X.K c W F σ (fun F' H' _ ds => ∀ J, (∀ c', IterD X.K c' J ds F') → Rr J H') (m ρ) → wi σ H Rr
def D.items : D → Option (List D)
  | .lst ds => some ds
  | .tup ds => some ds
  | .scr ns => some (ns.map D.int)
  | .str x => some (x.cps.toList.map fun c => .str ⟨#[c]⟩)
  | _ => none
def cItems (m : M D) : M (List D) := fun ρ => (m ρ).bind fun d ρ1 => match d.items with
  | some ds => .ok ds ρ1
  | none => .bad
section
variable {X : Cx} {W : WX} {tg iter e : Expr} {m : M D} {ms : M (List D)} {pos : Pos}
theorem pi_or {wi wj : TI} (h : PI X tg iter wi) (h' : PI X tg iter wj) : PI X tg iter (fun σ H Rr => wi σ H Rr ∨ wj σ H Rr) :=
  ⟨fun pins s σ H Rr I q => q.elim (h.run pins s σ H Rr I) (h'.run pins s σ H Rr I)⟩
theorem iter_lst {K : PySem.W.Frag} {a : Addr} {xs : List V} {ds : List D} {F : Hp} (s : F a = some (.lst xs)) (r : IsAll K F xs ds) (c : Ct) : IterD K c (Itl K a) ds F := fun i F1 H σ ρ e S => by
  have sH : SqL K H a xs := .of (S.fh _ _ (e _ _ s))
  refine ⟨fun d hd => ?_, fun hl => ⟨xs, sH, by rw [r.length]; exact hl⟩⟩
  obtain ⟨v, h1, h2⟩ := r.get hd
  refine ⟨⟨xs, v, sH, h1⟩, fun x H' y => ?_⟩
  obtain ⟨rfl, y⟩ := y
  have := y xs sH
  rw [h1] at this; cases this
  exact ⟨F1, Same.refl _, S, h2.mono e⟩
theorem iter_tup {K : PySem.W.Frag} {a : Addr} {xs : List V} {ds : List D} {F : Hp} (s : SqT K F a xs) (r : IsAll K F xs ds) (c : Ct) : IterD K c (Itt K a) ds F := fun i F1 H σ ρ e S => by
  have sH : SqT K H a xs := sqT_mono S.fh (sqT_mono e s)
  refine ⟨fun d hd => ?_, fun hl => ⟨xs, sH, by rw [r.length]; exact hl⟩⟩
  obtain ⟨v, h1, h2⟩ := r.get hd
  refine ⟨⟨xs, v, sH, h1⟩, fun x H' y => ?_⟩
  obtain ⟨rfl, y⟩ := y
  have := y xs sH
  rw [h1] at this; cases this
  exact ⟨F1, Same.refl _, S, h2.mono e⟩
theorem iter_scr {K : PySem.W.Frag} {a : Addr} {ns : List Int} {F : Hp} (s : SqL K F a (ns.map V.int)) (c : Ct) : IterD K c (Itl K a) (ns.map D.int) F := fun i F1 H σ ρ e S => by
  have sH : SqL K H a (ns.map V.int) := sqL_mono S.fh (sqL_mono e s)
  refine ⟨fun d hd => ?_, fun hl => ⟨_, sH, by simpa using hl⟩⟩
  rw [List.getElem?_map] at hd
  obtain ⟨n, h1, h2⟩ := Option.map_eq_some_iff.mp hd
  subst h2
  have h3 : (ns.map V.int)[i]? = some (.int n) := by rw [List.getElem?_map, h1]; rfl
  refine ⟨⟨_, _, sH, h3⟩, fun x H' y => ?_⟩
  obtain ⟨rfl, y⟩ := y
  have := y _ sH
  rw [h3] at this; cases this
  exact ⟨F1, Same.refl _, S, .int n⟩
theorem iter_str {K : PySem.W.Frag} {z : Str} {F : Hp} (c : Ct) : IterD K c (Its z) (z.cps.toList.map fun c => D.str ⟨#[c]⟩) F := fun i F1 H σ ρ e S => by
  refine ⟨fun d hd => ?_, fun hl => (show z.cps.size ≤ i by simpa using hl)⟩
  rw [List.getElem?_map] at hd
  obtain ⟨n, h1, h2⟩ := Option.map_eq_some_iff.mp hd
  subst h2
  have h3 : i < z.cps.size := by
    have := (List.getElem?_eq_some_iff.mp h1).1
    simpa using this
  refine ⟨h3, fun x H' y => ?_⟩
  obtain ⟨rfl, cc, y1, rfl⟩ := y
  have : z.cps[i]? = some n := by simpa using h1
  rw [this] at y1; cases y1
  exact ⟨F1, Same.refl _, S, .str _⟩
theorem di_any (h : DV X W iter m) : DI X W tg iter (cItems m) := by
  obtain ⟨te, pe, k⟩ := h.run
  refine ⟨_, pi_or (pi_list pe) (pi_or (pi_tup pe) (pi_str pe)), fun c F H σ ρ Rr S q => ?_⟩
  unfold cItems at q
  have hq := Post.bind q
  cases z : m ρ with
  | bad => rw [z] at hq; exact hq.elim
  | exc C x ρ1 =>
    rw [z] at hq
    refine .inl (k c F H σ ρ _ S ?_)
    rw [z]
    exact hq
  | ok d ρ1 =>
    rw [z] at hq
    cases d with
    | lst ds =>
      refine .inl (k c F H σ ρ _ S ?_)
      rw [z]
      intro F1 H1 e1 S1 v r
      cases r with
      | lst s ra => exact ⟨_, rfl, ⟨_, .of (S1.fh _ _ s)⟩, hq F1 H1 e1 S1 F1 H1 (Same.refl _) S1 _ (iter_lst s ra)⟩
    | scr ns =>
      refine .inl (k c F H σ ρ _ S ?_)
      rw [z]
      intro F1 H1 e1 S1 v r
      cases r with
      | scr s => exact ⟨_, rfl, ⟨_, sqL_mono S1.fh s⟩, hq F1 H1 e1 S1 F1 H1 (Same.refl _) S1 _ (iter_scr s)⟩
    | tup ds =>
      refine .inr (.inl (k c F H σ ρ _ S ?_))
      rw [z]
      intro F1 H1 e1 S1 v r
      cases r with
      | tup s ra => exact ⟨_, rfl, ⟨_, sqT_mono S1.fh s⟩, hq F1 H1 e1 S1 F1 H1 (Same.refl _) S1 _ (iter_tup s ra)⟩
    | str x =>
      refine .inr (.inr (k c F H σ ρ _ S ?_))
      rw [z]
      intro F1 H1 e1 S1 v r
      cases r with
      | str _ => exact ⟨x, rfl, hq F1 H1 e1 S1 F1 H1 (Same.refl _) S1 _ iter_str⟩
    | non => exact .inl (k c F H σ ρ _ S (by rw [z]; exact fun F1 H1 e1 S1 v r => (hq F1 H1 e1 S1).elim))
    | bl b => exact .inl (k c F H σ ρ _ S (by rw [z]; exact fun F1 H1 e1 S1 v r => (hq F1 H1 e1 S1).elim))
    | int i => exact .inl (k c F H σ ρ _ S (by rw [z]; exact fun F1 H1 e1 S1 v r => (hq F1 H1 e1 S1).elim))
    | ty n => exact .inl (k c F H σ ρ _ S (by rw [z]; exact fun F1 H1 e1 S1 v r => (hq F1 H1 e1 S1).elim))
    | ins C fs => exact .inl (k c F H σ ρ _ S (by rw [z]; exact fun F1 H1 e1 S1 v r => (hq F1 H1 e1 S1).elim))
    | exc C y => exact .inl (k c F H σ ρ _ S (by rw [z]; exact fun F1 H1 e1 S1 v r => (hq F1 H1 e1 S1).elim))
def span (lo : Int) (n : Nat) : List D := (List.range n).map fun (k : Nat) => D.int (lo + (k : Int))
theorem iter_span {K : PySem.W.Frag} {lo : Int} {n : Nat} {F : Hp} (c : Ct) : IterD K c (Itr lo n) (span lo n) F := fun i F1 H σ ρ e S => by
  unfold span
  refine ⟨fun d hd => ?_, fun hl => (show n ≤ i by simpa using hl)⟩
  rw [List.getElem?_map] at hd
  obtain ⟨k, h1, h2⟩ := Option.map_eq_some_iff.mp hd
  subst h2
  obtain ⟨h3, h4⟩ := List.getElem?_eq_some_iff.mp h1
  rw [List.getElem_range] at h4
  subst h4
  refine ⟨(show i < n by simpa using h3), fun x H' y => ?_⟩
  obtain ⟨rfl, rfl⟩ := y
  exact ⟨F1, Same.refl _, S, .int _⟩
def D.span1 : List D → Option (List D)
  | [.int j] => some (DL.span 0 j.toNat)
  | _ => none
def D.span2 : List D → Option (List D)
  | [.int i, .int j] => some (DL.span i (j - i).toNat)
  | _ => none
def cSpan (f : List D → Option (List D)) (ms : M (List D)) : M (List D) := fun ρ => (ms ρ).bind fun ds ρ1 => match f ds with
  | some es => .ok es ρ1
  | none => .bad
theorem span1_some {ds es : List D} (h : D.span1 ds = some es) : ∃ j, ds = [.int j] ∧ es = DL.span 0 j.toNat := by
  unfold D.span1 at h
  split at h
  · cases h; exact ⟨_, rfl, rfl⟩
  · cases h
theorem span2_some {ds es : List D} (h : D.span2 ds = some es) : ∃ i j, ds = [.int i, .int j] ∧ es = DL.span i (j - i).toNat := by
  unfold D.span2 at h
  split at h
  · cases h; exact ⟨_, _, rfl, rfl⟩
  · cases h
theorem di_range1 {a : Expr} {p : Pos} (hg : Gl X "range") (hm : X.mg "range" = none) (ha : DA X W [a] ms) (hs : starEach [a] X.env = [(false, eval a X.env)] := by rfl) : DI X W tg (.Call (.Name "range" p) [a] [] pos) (cSpan D.span1 ms) := by
  obtain ⟨ta, pa, ka⟩ := ha.run
  refine ⟨_, pi_range1A hg hm pa hs, fun c F H σ ρ Rr S q => ka c F H σ ρ _ S ((Post.bind q).imp fun F1 H1 ρ1 ds e1 S1 q1 vs rs => ?_)⟩
  cases z : D.span1 ds with
  | none => simp only [z] at q1; exact q1.elim
  | some es =>
    simp only [z] at q1
    obtain ⟨j, rfl, rfl⟩ := span1_some z
    cases rs with
    | cons r rs =>
      cases rs
      cases r
      exact ⟨j, rfl, q1 F1 H1 (Same.refl _) S1 _ fun c' => iter_span c'⟩
theorem di_range2 {a b : Expr} {p : Pos} (hg : Gl X "range") (hm : X.mg "range" = none) (ha : DA X W [a, b] ms) (hs : starEach [a, b] X.env = [(false, eval a X.env), (false, eval b X.env)] := by rfl) (hs2 : starEach [b] X.env = [(false, eval b X.env)] := by rfl) :
    DI X W tg (.Call (.Name "range" p) [a, b] [] pos) (cSpan D.span2 ms) := by
  obtain ⟨ta, pa, ka⟩ := ha.run
  refine ⟨_, pi_range2A hg hm pa hs hs2, fun c F H σ ρ Rr S q => ka c F H σ ρ _ S ((Post.bind q).imp fun F1 H1 ρ1 ds e1 S1 q1 vs rs => ?_)⟩
  cases z : D.span2 ds with
  | none => simp only [z] at q1; exact q1.elim
  | some es =>
    simp only [z] at q1
    obtain ⟨i, j, rfl, rfl⟩ := span2_some z
    cases rs with
    | cons r rs =>
      cases rs with
      | cons r2 rs =>
        cases rs
        cases r
        cases r2
        exact ⟨i, j, rfl, q1 F1 H1 (Same.refl _) S1 _ fun c' => iter_span c'⟩
end

/-! ### for, while -/
def goFor (g : D → Rho → Option Rho) (mb : M Fl) : List D → M Fl
  | [], ρ => .ok .next ρ
  | d :: ds, ρ => match g d ρ with
    | none => .bad
    | some ρ1 => (mb ρ1).bind fun fl ρ2 => match fl with
      | .next => goFor g mb ds ρ2
      | .cont => goFor g mb ds ρ2
      | .brk => .ok .next ρ2
      | .ret s => .ok (.ret s) ρ2
def sFor (mi : M (List D)) (g : D → Rho → Option Rho) (mb : M Fl) : M Fl := fun ρ => (mi ρ).bind fun ds ρ1 => goFor g mb ds ρ1
section
variable {X : Cx} {W : WX} {tg iter : Expr} {body : List Stmt} {mi : M (List D)} {g : D → Rho → Option Rho} {mb : M Fl} {pos : Pos}
theorem for_body {K : PySem.W.Frag} {c : Ct} {F : Hp} {Dn : Ends} {r : R Fl} {N : St → Hp → Prop} {k : Rho → R Fl} (p : PostS K c W F Dn (r.bind fun fl ρ2 => match fl with
      | .next => k ρ2
      | .cont => k ρ2
      | .brk => .ok .next ρ2
      | .ret s => .ok (.ret s) ρ2)) (h : ∀ F' H' σ' ρ', Same F F' → SR K c F' H' σ' ρ' → PostS K c W F' Dn (k ρ') → N σ' H') : PostS K c W F { Dn with nx := N, ct := N, bk := Dn.nx } r := by
  cases r with
  | ok fl ρ' =>
    cases fl with
    | next => exact fun F' H' σ' e S => h F' H' σ' ρ' e S (PostS.mono (r := k ρ') p e)
    | cont => exact fun F' H' σ' e S => h F' H' σ' ρ' e S (PostS.mono (r := k ρ') p e)
    | brk => exact p
    | ret s => exact p
  | exc C x ρ' => exact p
  | bad => exact p
theorem ds_for {us : List Nat} (hp : PassesOwn (model X.prog X.w) X.A X.env X.xe) (hc : X.calm = true) (hi : DI X W tg iter mi) (hg : DG X tg us g) (hb : DSs X W body mb) (hs : ∀ x, foldedSetIterable iter X.env x = pure x := by intro _; rfl) :
    DS X W (.For tg iter body [] pos) (sFor mi g mb) := by
  obtain ⟨wi, pi, ki⟩ := hi.run
  obtain ⟨t, pg, kg⟩ := hg.run
  obtain ⟨tb, pb, kb⟩ := hb.run
  refine ⟨_, ps_for hp hc pi pg pb hs, fun c F H σ ρ Dn S q => ki c F H σ ρ _ S ((PostS.bind q).imp fun F1 H1 ρ1 ds e1 S1 q1 J hJ => ?_)⟩
  refine ⟨fun i m σ H => m = ds.length - i ∧ i ≤ ds.length ∧ ∃ F ρ, Same F1 F ∧ SR X.K c F H σ ρ ∧ PostS X.K c W F Dn (goFor g mb (ds.drop i) ρ), ⟨ds.length, by simp, Nat.zero_le _, F1, ρ1, Same.refl _, S1, by simpa using q1⟩, ?_⟩
  rintro i m σ2 H2 ⟨rfl, hl, F2, ρ2, e2, S2, q2⟩
  have hit := hJ c i F2 H2 σ2 ρ2 e2 S2
  by_cases hlt : i < ds.length
  · have hd : ds[i]? = some ds[i] := by simp [hlt]
    obtain ⟨h1, h2⟩ := hit.1 _ hd
    have hdrop : ds.drop i = ds[i] :: ds.drop (i + 1) := List.drop_eq_getElem_cons hlt
    rw [hdrop] at q2
    refine .inr ⟨h1, fun σ' H' => ds.length - (i + 1) = ds.length - (i + 1) ∧ i + 1 ≤ ds.length ∧ ∃ F ρ, Same F1 F ∧ SR X.K c F H' σ' ρ ∧ PostS X.K c W F Dn (goFor g mb (ds.drop (i + 1)) ρ), fun σ' H' n => ⟨ds.length - (i + 1), by omega, n⟩, fun x H3 y => ?_⟩
    obtain ⟨F3, e3, S3, r3⟩ := h2 x H3 y
    unfold goFor at q2
    cases z : g ds[i] ρ2 with
    | none => simp only [z] at q2; exact q2.elim
    | some ρ3 =>
      simp only [z] at q2
      refine kg c F3 H3 σ2 ρ2 x _ _ S3 r3 ⟨ρ3, z, fun F4 H4 σ4 e4 S4 _ => ?_⟩
      refine kb c F4 H4 σ4 ρ3 _ S4 (for_body (PostS.mono q2 (e3.trans e4)) fun F5 H5 σ5 ρ5 e5 S5 q5 => ?_)
      exact ⟨rfl, hlt, F5, ρ5, ((e2.trans e3).trans e4).trans e5, S5, q5⟩
  · have e : i = ds.length := by omega
    subst e
    rw [List.drop_length] at q2
    exact .inl ⟨hit.2 (Nat.le_refl _), q2 F2 H2 σ2 (Same.refl _) S2⟩
/-- while, with a bound of the turns -/
def goWhile (mt : M Bool) (mb : M Fl) : Nat → M Fl
  | 0, _ => .bad
  | n + 1, ρ => (mt ρ).bind fun t ρ1 => if t then (mb ρ1).bind fun fl ρ2 => match fl with
      | .next => goWhile mt mb n ρ2
      | .cont => goWhile mt mb n ρ2
      | .brk => .ok .next ρ2
      | .ret s => .ok (.ret s) ρ2
    else .ok .next ρ1
open Classical in
noncomputable def sWhile (mt : M Bool) (mb : M Fl) : M Fl := fun ρ => if h : ∃ n, goWhile mt mb n ρ ≠ .bad then goWhile mt mb (Classical.choose h) ρ else .bad
theorem goWhile_more {mt : M Bool} {mb : M Fl} : ∀ (n : Nat) (ρ : Rho), goWhile mt mb n ρ ≠ .bad → goWhile mt mb (n + 1) ρ = goWhile mt mb n ρ
  | 0, ρ, h => absurd rfl h
  | n + 1, ρ, h => by
    unfold goWhile at h ⊢
    revert h
    cases mt ρ with
    | bad => exact fun _ => rfl
    | exc C x ρ1 => exact fun _ => rfl
    | ok t ρ1 =>
      cases t with
      | false => exact fun _ => rfl
      | true =>
        simp only [R.bind_ok, if_true]
        cases mb ρ1 with
        | bad => exact fun _ => rfl
        | exc C x ρ2 => exact fun _ => rfl
        | ok fl ρ2 =>
          cases fl with
          | next => exact fun h => goWhile_more n ρ2 h
          | cont => exact fun h => goWhile_more n ρ2 h
          | brk => exact fun _ => rfl
          | ret s => exact fun _ => rfl
theorem goWhile_le {mt : M Bool} {mb : M Fl} {ρ : Rho} {n : Nat} (h : goWhile mt mb n ρ ≠ .bad) : ∀ k, goWhile mt mb (n + k) ρ = goWhile mt mb n ρ
  | 0 => rfl
  | k + 1 => by
    have ih := goWhile_le h k
    have := goWhile_more (n + k) ρ (by rw [ih]; exact h)
    rw [← ih]
    exact this
theorem sWhile_of {mt : M Bool} {mb : M Fl} {ρ : Rho} {n : Nat} (h : goWhile mt mb n ρ ≠ .bad) : sWhile mt mb ρ = goWhile mt mb n ρ := by
  unfold sWhile
  have hx : ∃ n, goWhile mt mb n ρ ≠ .bad := ⟨n, h⟩
  rw [dif_pos hx]
  have h2 := Classical.choose_spec hx
  rcases Nat.le_total n (Classical.choose hx) with l | l
  · obtain ⟨k, e⟩ := Nat.le.dest l
    rw [← e]
    exact goWhile_le h k
  · obtain ⟨k, e⟩ := Nat.le.dest l
    rw [← goWhile_le h2 k, e]
theorem ds_while {t : Expr} {mt : M Bool} (hp : PassesOwn (model X.prog X.w) X.A X.env X.xe) (ht : DT X W t mt) (hb : DSs X W body mb) : DS X W (.While t body [] pos) (sWhile mt mb) := by
  obtain ⟨tt, pt, kt⟩ := ht.run
  obtain ⟨tb, pb, kb⟩ := hb.run
  refine ⟨_, ps_while hp pt pb, fun c F H σ ρ Dn S q => ?_⟩
  have hx : ∃ n, PostS X.K c W F Dn (goWhile mt mb n ρ) := by
    unfold sWhile at q
    split at q
    · exact ⟨_, q⟩
    · exact q.elim
  obtain ⟨n, q⟩ := hx
  refine ⟨fun m σ' H' => ∃ F' ρ', Same F F' ∧ SR X.K c F' H' σ' ρ' ∧ PostS X.K c W F' Dn (goWhile mt mb m ρ'), ⟨n, F, ρ, Same.refl _, S, q⟩, ?_⟩
  rintro m σ1 H1 ⟨F1, ρ1, e1, S1, q1⟩
  cases m with
  | zero => exact q1.elim
  | succ m =>
    unfold goWhile at q1
    refine kt c F1 H1 σ1 ρ1 _ S1 ((PostS.bind q1).imp fun F2 H2 ρ2 t e2 S2 q2 => ?_)
    cases t with
    | false =>
      rw [if_neg Bool.false_ne_true]
      exact q2 F2 H2 σ1 (Same.refl _) S2
    | true =>
      rw [if_pos rfl]
      simp only [if_true] at q2
      refine ⟨fun σ' H' => ∃ F' ρ', Same F F' ∧ SR X.K c F' H' σ' ρ' ∧ PostS X.K c W F' Dn (goWhile mt mb m ρ'), fun σ' H' h => ⟨m, Nat.lt_succ_self m, h⟩, ?_⟩
      exact kb c F2 H2 σ1 ρ2 _ S2 (for_body q2 fun F5 H5 σ5 ρ5 e5 S5 q5 => ⟨F5, ρ5, (e1.trans e2).trans e5, S5, q5⟩)
end
end DL

end
section
namespace DL
open PySem PySem.Spec L2

/-! ### canonical readings -/
def cnV (K : PySem.W.Frag) (W : WX) (m : M D) : TE := fun σ H Q => ∃ c F ρ, SR K c F H σ ρ ∧ Post K c W F σ (fun F' H' _ d => ∀ v, Is K F' v d → Q v H') (m ρ)
def cnG (K : PySem.W.Frag) (vs : List Nat) (g : D → Rho → Option Rho) : TG := fun v σ H Q => ∃ c F ρ d, SR K c F H σ ρ ∧ Is K F v d ∧ ∃ ρ', g d ρ = some ρ' ∧ ∀ F' H' σ', Same F F' → SR K c F' H' σ' ρ' → But vs σ σ' → Q σ' H'
def cnT (K : PySem.W.Frag) (W : WX) (m : M Bool) : TT := fun σ H Q => ∃ c F ρ, SR K c F H σ ρ ∧ Post K c W F σ (fun _ H' _ b => Q b H') (m ρ)
section
variable {X : Cx} {W : WX} {e : Expr}
theorem DV.canon {m : M D} (h : DV X W e m) : PE X e (cnV X.K W m) := by
  obtain ⟨t, p, k⟩ := h.run
  exact ⟨fun pins s σ H Q I ⟨c, F, ρ, S, q⟩ => p.run pins s σ H Q I (k c F H σ ρ Q S q)⟩
theorem DG.canon {vs : List Nat} {g : D → Rho → Option Rho} (h : DG X e vs g) : PG X e (cnG X.K vs g) := by
  obtain ⟨t, p, k⟩ := h.run
  exact ⟨fun pins s σ H v u Q I r ⟨c, F, ρ, d, S, i, q⟩ => p.run pins s σ H v u Q I r (k c F H σ ρ v d Q S i q)⟩
/-- a comprehension's tests -/
structure DTs (X : Cx) (W : WX) (es : List Expr) (m : M Bool) : Prop where
  run : PTs X es (cnT X.K W m)
def tTrue : M Bool := fun ρ => .ok true ρ
theorem dts_nil : DTs X W [] tTrue := ⟨⟨fun pins s σ H Q I ⟨c, F, ρ, S, q⟩ => pts_nil.run pins s σ H Q I (q F H (Same.refl _) S)⟩⟩
theorem dts_one {m : M Bool} (h : DT X W e m) : DTs X W [e] m := by
  obtain ⟨t, p, k⟩ := h.run
  exact ⟨⟨fun pins s σ H Q I ⟨c, F, ρ, S, q⟩ => (pts_one p).run pins s σ H Q I (k c F H σ ρ Q S q)⟩⟩
end

/-! ### a list of one's own while it grows -/
def Ct.push (c : Ct) (p : Addr) (o : HO) : Ct := { c with H := upd c.H p o }
section
variable {K : PySem.W.Frag} {c : Ct} {F H : Hp} {σ : St} {ρ : Rho} {p : Addr} {o : HO}
theorem SR.fresh3 (S : SR K c F H σ ρ) (h : H p = none) : c.H p = none ∧ c.F p = none ∧ c.io ≠ some p := by
  refine ⟨S.fresh h, ?_, fun e => S.ioh p e h⟩
  cases q : c.F p with
  | none => rfl
  | some o =>
    have := S.fh _ _ (S.ef _ _ q)
    rw [h] at this
    cases this
theorem SR.push (S : SR K c F H σ ρ) (h : H p = none) : SR K (c.push p o) F (upd H p o) σ ρ where
  fh := (S.allocH h).fh
  ef := S.ef
  eh := fun a u q e => by
    by_cases z : a = p
    · subst z
      have q' : upd c.H a o a = some u := q
      rw [upd_same] at q' ⊢
      exact q'
    · have q' : upd c.H p o a = some u := q
      rw [upd_ne z] at q' ⊢
      exact S.eh a u q' e
  nf := fun a q e => by
    by_cases z : a = p
    · subst z; exact S.freshF h
    · have q' : upd c.H p o a ≠ none := q
      rw [upd_ne z] at q'
      exact S.nf a q' e
  ioh := (S.allocH h).ioh
  vl := S.vl
  ow := fun i s ds e m => by
    obtain ⟨q, xs, h1, h2, h3, h4, h5, h6⟩ := S.ow i s ds e m
    have ne : q ≠ p := fun z => by subst z; rw [h3] at h; cases h
    refine ⟨q, xs, h1, h2, by rw [upd_ne ne]; exact h3, h4, fun z => ?_, h6⟩
    show upd c.H p o q = none
    rw [upd_ne ne]
    exact h5 z
  ne := S.ne
  len := S.len
theorem SR.pop (S : SR K (c.push p o) F H σ ρ) (hc : c.H p = none) : SR K c F H σ ρ where
  fh := S.fh
  ef := S.ef
  eh := fun a u q e => by
    have z : a ≠ p := fun z => by subst z; rw [hc] at q; cases q
    exact S.eh a u (by show upd c.H p o a = some u; rw [upd_ne z]; exact q) e
  nf := fun a q e => by
    have z : a ≠ p := fun z => by subst z; exact q hc
    exact S.nf a (by show upd c.H p o a ≠ none; rw [upd_ne z]; exact q) e
  ioh := S.ioh
  vl := S.vl
  ow := fun i s ds e m => by
    obtain ⟨q, xs, h1, h2, h3, h4, h5, h6⟩ := S.ow i s ds e m
    refine ⟨q, xs, h1, h2, h3, h4, fun z => ?_, h6⟩
    have q' : upd c.H p o q = none := h5 z
    by_cases w : q = p
    · subst w; rw [upd_same] at q'; cases q'
    · rw [upd_ne w] at q'; exact q'
  ne := S.ne
  len := S.len
theorem SR.pushed (S : SR K (c.push p o) F H σ ρ) (hi : c.io ≠ some p) : H p = some o := S.eh p o (by show upd c.H p o p = some o; exact upd_same) hi
theorem SR.pushedF (S : SR K (c.push p o) F H σ ρ) (hf : c.F p = none) : F p = none := S.nf p (by show upd c.H p o p ≠ none; rw [upd_same]; simp) hf
theorem SR.apart (S : SR K (c.push p o) F H σ ρ) (hi : c.io ≠ some p) {i : Nat} {s : Sl} {ds : List D} (e : ρ[i]? = some s) (m : s.mut = some ds) : σ[i]? ≠ some (some (.ref p)) := fun q => by
  obtain ⟨q', xs, h1, h2, h3, h4, h5, h6⟩ := S.ow i s ds e m
  rw [q] at h1; cases h1
  cases s with
  | own d =>
    cases m
    have z : upd c.H p o p = none := h5 rfl
    rw [upd_same] at z; cases z
  | io d => cases m; exact hi (h6 rfl)
  | val d => cases m
  | no => cases m
theorem SR.repush (S : SR K (c.push p o) F H σ ρ) (hi : c.io ≠ some p) (hf : c.F p = none) {o' : HO} : SR K (c.push p o') F (upd H p o') σ ρ where
  fh := same_upd S.fh (S.pushedF hf)
  ef := S.ef
  eh := fun a u q e => by
    have q' : upd c.H p o' a = some u := q
    by_cases z : a = p
    · subst z; rw [upd_same] at q' ⊢; exact q'
    · rw [upd_ne z] at q' ⊢
      exact S.eh a u (by show upd c.H p o a = some u; rw [upd_ne z]; exact q') e
  nf := fun a q e => by
    have q' : upd c.H p o' a ≠ none := q
    by_cases z : a = p
    · subst z; exact S.pushedF hf
    · rw [upd_ne z] at q'
      exact S.nf a (by show upd c.H p o a ≠ none; rw [upd_ne z]; exact q') e
  ioh := fun a e => by
    by_cases z : a = p
    · subst z; rw [upd_same]; simp
    · rw [upd_ne z]; exact S.ioh a e
  vl := S.vl
  ow := fun i s ds e m => by
    obtain ⟨q, xs, h1, h2, h3, h4, h5, h6⟩ := S.ow i s ds e m
    have ne : q ≠ p := fun z => by subst z; exact S.apart hi e m h1
    refine ⟨q, xs, h1, h2, by rw [upd_ne ne]; exact h3, h4, fun z => ?_, h6⟩
    have z' : upd c.H p o q = none := h5 z
    rw [upd_ne ne] at z'
    show upd c.H p o' q = none
    rw [upd_ne ne]
    exact z'
  ne := S.ne
  len := S.len

/-! ### forgotten slots -/
theorem SR.gone (S : SR K c F H σ ρ) (v : Nat) : SR K c F H (σ.set v none) (ρ.set v .no) where
  fh := S.fh
  ef := S.ef
  eh := S.eh
  nf := S.nf
  ioh := S.ioh
  vl := fun i d e => by
    by_cases z : v = i
    · subst z
      by_cases hi : v < ρ.length
      · rw [List.getElem?_set_self hi] at e; cases e
      · rw [List.getElem?_eq_none (by simpa using hi)] at e; cases e
    · rw [List.getElem?_set_ne z] at e ⊢
      exact S.vl i d e
  ow := fun i s ds e m => by
    by_cases z : v = i
    · subst z
      by_cases hi : v < ρ.length
      · rw [List.getElem?_set_self hi] at e; cases e; cases m
      · rw [List.getElem?_eq_none (by simpa using hi)] at e; cases e
    · rw [List.getElem?_set_ne z] at e ⊢
      exact S.ow i s ds e m
  ne := fun i j s t ds es q n e1 m1 e2 m2 h => by
    have back : ∀ (i : Nat) (s : Sl) (ds : List D), (ρ.set v .no)[i]? = some s → s.mut = some ds → v ≠ i ∧ ρ[i]? = some s := fun i s ds e m => by
      by_cases z : v = i
      · subst z
        by_cases hi : v < ρ.length
        · rw [List.getElem?_set_self hi] at e; cases e; cases m
        · rw [List.getElem?_eq_none (by simpa using hi)] at e; cases e
      · rw [List.getElem?_set_ne z] at e
        exact ⟨z, e⟩
    obtain ⟨z1, q1⟩ := back i s ds e1 m1
    obtain ⟨z2, q2⟩ := back j t es e2 m2
    rw [List.getElem?_set_ne z1] at h
    rw [List.getElem?_set_ne z2]
    exact S.ne i j s t ds es q n q1 m1 q2 m2 h
  len := by simp [S.len]
def wipeR (ρ : Rho) : List Nat → Rho
  | [] => ρ
  | v :: vs => (wipeR ρ vs).set v .no
theorem SR.wipe (S : SR K c F H σ ρ) : ∀ vs : List Nat, SR K c F H (L2.wipe σ vs) (wipeR ρ vs)
  | [] => S
  | v :: vs => (SR.wipe S vs).gone v
theorem wipeR_length (ρ : Rho) : ∀ vs, (wipeR ρ vs).length = ρ.length
  | [] => rfl
  | v :: vs => by simp [wipeR, wipeR_length ρ vs]
/-- the slots vs as they were -/
def unwipe (ρ1 ρ2 : Rho) : List Nat → Rho
  | [] => ρ2
  | v :: vs => (unwipe ρ1 ρ2 vs).set v (ρ1.getD v .no)
theorem unwipe_length {ρ1 ρ2 : Rho} : ∀ vs, (unwipe ρ1 ρ2 vs).length = ρ2.length
  | [] => rfl
  | v :: vs => by simp [unwipe, unwipe_length vs]
theorem unwipe_get {ρ1 ρ2 : Rho} {i : Nat} {s : Sl} : ∀ {vs : List Nat}, (unwipe ρ1 ρ2 vs)[i]? = some s → s ≠ .no → (i ∈ vs ∧ ρ1[i]? = some s) ∨ (i ∉ vs ∧ ρ2[i]? = some s)
  | [], h, n => .inr ⟨by simp, h⟩
  | v :: vs, h, n => by
    unfold unwipe at h
    by_cases z : v = i
    · subst z
      by_cases hi : v < (unwipe ρ1 ρ2 vs).length
      · rw [List.getElem?_set_self hi] at h
        cases h
        refine .inl ⟨by simp, ?_⟩
        rw [List.getD_eq_getElem?_getD] at n ⊢
        cases q : ρ1[v]? with
        | none => rw [q] at n; exact absurd rfl n
        | some t => rfl
      · rw [List.getElem?_eq_none (by simpa using hi)] at h; cases h
    · rw [List.getElem?_set_ne z] at h
      rcases unwipe_get h n with ⟨a, b⟩ | ⟨a, b⟩
      · exact .inl ⟨List.mem_cons_of_mem _ a, b⟩
      · exact .inr ⟨by simp only [List.mem_cons, not_or]; exact ⟨fun e => z e.symm, a⟩, b⟩
theorem SR.unwipe {F2 H2 : Hp} {ρ2 : Rho} {vs : List Nat} (S1 : SR K c F H σ ρ) (S2 : SR K c F2 H2 (L2.wipe σ vs) ρ2) (e : Same F F2) (hm : ∀ i ∈ vs, ∀ s ds, ρ[i]? = some s → s.mut ≠ some ds) : SR K c F2 H2 σ (unwipe ρ ρ2 vs) where
  fh := S2.fh
  ef := S2.ef
  eh := S2.eh
  nf := S2.nf
  ioh := S2.ioh
  vl := fun i d h => by
    rcases unwipe_get h (fun z => by cases z) with ⟨a, b⟩ | ⟨a, b⟩
    · obtain ⟨v, h1, h2⟩ := S1.vl i d b
      exact ⟨v, h1, h2.mono e⟩
    · obtain ⟨v, h1, h2⟩ := S2.vl i d b
      rw [wipe_get, if_neg a] at h1
      exact ⟨v, h1, h2⟩
  ow := fun i s ds h m => by
    rcases unwipe_get h (fun z => by subst z; cases m) with ⟨a, b⟩ | ⟨a, b⟩
    · exact absurd m (hm i a s ds b)
    · obtain ⟨p, xs, h1, h2⟩ := S2.ow i s ds b m
      rw [wipe_get, if_neg a] at h1
      exact ⟨p, xs, h1, h2⟩
  ne := fun i j s t ds es q n e1 m1 e2 m2 h => by
    rcases unwipe_get e1 (fun z => by subst z; cases m1) with ⟨a, b⟩ | ⟨a, b⟩
    · exact absurd m1 (hm i a s ds b)
    · rcases unwipe_get e2 (fun z => by subst z; cases m2) with ⟨a2, b2⟩ | ⟨a2, b2⟩
      · exact absurd m2 (hm j a2 t es b2)
      · have := S2.ne i j s t ds es q n b m1 b2 m2
        rw [wipe_get, wipe_get, if_neg a, if_neg a2] at this
        exact this h
  len := by
    rw [unwipe_length, S2.len, wipe_length]
end

/-! ### comprehensions -/
def noexc {α : Type} : R α → R α
  | .exc _ _ _ => .bad
  | r => r
abbrev W0 : WX := fun _ _ _ _ => False
theorem Post.noexc {K : PySem.W.Frag} {c : Ct} {W : WX} {F : Hp} {σ : St} {α : Type} {P : Hp → Hp → Rho → α → Prop} {r : R α} (h : Post K c W F σ P (noexc r)) : Post K c W0 F σ P r := by
  cases r with
  | ok a ρ => exact h
  | exc C x ρ => exact h.elim
  | bad => exact h
def goComp (vs : List Nat) (g : D → Rho → Option Rho) (mt : M Bool) (me : M D) : List D → List D → M (List D)
  | [], acc, ρ => .ok acc ρ
  | d :: ds, acc, ρ => match g d ρ with
    | none => .bad
    | some ρ1 => (noexc (mt ρ1)).bind fun b ρ2 => if b then (noexc (me ρ2)).bind fun x ρ3 => if acc.length < sizeLine then goComp vs g mt me ds (acc ++ [x]) (wipeR ρ3 vs) else .bad
      else goComp vs g mt me ds acc (wipeR ρ2 vs)
def noMut (vs : List Nat) (ρ : Rho) : Bool := vs.all fun i => match (ρ[i]?).bind Sl.mut with
  | none => true
  | some _ => false
theorem noMut_ok {vs : List Nat} {ρ : Rho} (h : noMut vs ρ = true) : ∀ i ∈ vs, ∀ s ds, ρ[i]? = some s → s.mut ≠ some ds := fun i hi s ds e m => by
  have := List.all_eq_true.mp h i hi
  rw [e] at this
  simp only [Option.bind_some, m] at this
  cases this
def cLc (vs : List Nat) (mi : M (List D)) (g : D → Rho → Option Rho) (mt : M Bool) (me : M D) : M Sl := fun ρ => (mi ρ).bind fun ds ρ1 => if noMut vs ρ1 then (goComp vs g mt me ds [] (wipeR ρ1 vs)).bind fun acc ρ2 => .ok (.own acc) (unwipe ρ1 ρ2 vs) else .bad
section
variable {X : Cx} {W : WX} {tg iter elt : Expr} {ifs : List Expr} {mi : M (List D)} {g : D → Rho → Option Rho} {mt : M Bool} {me : M D} {pos : Pos} {scope : Scope} {own : List (Str × Nat)}
/-- the reading of a comprehension -/
theorem lc_use {us : List Nat} {wi : TI} (ki : ∀ c F H σ ρ (Rr : It → Hp → Prop), SR X.K c F H σ ρ → Post X.K c W F σ (fun F' H' _ ds => ∀ J, (∀ c', IterD X.K c' J ds F') → Rr J H') (mi ρ) → wi σ H Rr) (hus : ∀ i ∈ us, i ∈ own.map (·.2))
    {c : Ct} {F H : Hp} {σ : St} {ρ : Rho} {Q : VK} (S : SR X.K c F H σ ρ) (q : Post X.K c W F σ (fun F' H' ρ' s => ∀ v, Res X.K c F' H' σ ρ' v s → Q v H') (cLc (own.map (·.2)) mi g mt me ρ)) :
    tLc wi (cnG X.K us g) (cnT X.K W0 mt) (cnV X.K W0 me) (own.map (·.2)) σ H Q := by
  refine ki c F H σ ρ _ S ((Post.bind q).imp fun F1 H1 ρ1 ds e1 S1 q1 J hJ => ?_)
  by_cases hn : noMut (own.map (·.2)) ρ1 = true
  case neg => rw [if_neg hn] at q1; exact q1.elim
  rw [if_pos hn] at q1
  intro Da hD
  obtain ⟨hcH, hcF, hio⟩ := S1.fresh3 hD
  refine ⟨fun i m H => m = ds.length - i ∧ i ≤ ds.length ∧ ∃ F ρ acc xs, Same F1 F ∧ IsAll X.K F xs acc ∧ SR X.K (c.push Da (.lst xs)) F H (wipe σ (own.map (·.2))) ρ ∧
    Post X.K c W F σ (fun F' H' ρ' s => ∀ v, Res X.K c F' H' σ ρ' v s → Q v H') ((goComp (own.map (·.2)) g mt me (ds.drop i) acc ρ).bind fun acc ρ2 => .ok (.own acc) (unwipe ρ1 ρ2 (own.map (·.2)))),
    ⟨ds.length, by simp, Nat.zero_le _, F1, wipeR ρ1 (own.map (·.2)), [], [], Same.refl _, .nil, (S1.push hD).wipe _, by simpa using q1⟩, ?_⟩
  rintro i m H2 ⟨rfl, hl, F2, ρ2, acc, xs, e2, ra, S2, q2⟩
  have hit := hJ _ i F2 H2 _ ρ2 e2 S2
  by_cases hlt : i < ds.length
  · have hd : ds[i]? = some ds[i] := by simp [hlt]
    obtain ⟨h1, h2⟩ := hit.1 _ hd
    have hdrop : ds.drop i = ds[i] :: ds.drop (i + 1) := List.drop_eq_getElem_cons hlt
    rw [hdrop] at q2
    refine .inr ⟨h1, fun H' => i + 1 ≤ ds.length ∧ ∃ F ρ acc xs, Same F1 F ∧ IsAll X.K F xs acc ∧ SR X.K (c.push Da (.lst xs)) F H' (wipe σ (own.map (·.2))) ρ ∧
      Post X.K c W F σ (fun F' H' ρ' s => ∀ v, Res X.K c F' H' σ ρ' v s → Q v H') ((goComp (own.map (·.2)) g mt me (ds.drop (i + 1)) acc ρ).bind fun acc ρ2 => .ok (.own acc) (unwipe ρ1 ρ2 (own.map (·.2)))),
      fun H' n => ⟨ds.length - (i + 1), by omega, rfl, n⟩, fun x H3 y => ?_⟩
    obtain ⟨F3, e3, S3, r3⟩ := h2 x H3 y
    unfold goComp at q2
    cases z : g ds[i] ρ2 with
    | none => simp only [z] at q2; exact q2.elim
    | some ρ3 =>
      simp only [z] at q2
      refine ⟨_, F3, ρ2, ds[i], S3, r3, ρ3, z, fun F4 H4 σ4 e4 S4 b4 => ?_⟩
      have hw : wipe σ4 (own.map (·.2)) = wipe σ (own.map (·.2)) := by
        rw [b4 _ hus]
        refine List.ext_getElem? fun j => ?_
        rw [wipe_get, wipe_get]
        by_cases hj : j ∈ own.map (·.2)
        · rw [if_pos hj, if_pos hj]; cases σ[j]? <;> rfl
        · rw [if_neg hj, if_neg hj]
      refine ⟨hw, _, F4, ρ3, S4, ?_⟩
      have q3 := PostL q2 (e3.trans e4)
      cases zt : mt ρ3 with
      | bad => rw [zt] at q3; exact q3.elim
      | exc C y ρ' => rw [zt] at q3; exact q3.elim
      | ok b ρ4 =>
        rw [zt] at q3
        intro F5 H5 e5 S5
        cases b with
        | false =>
          rw [if_neg Bool.false_ne_true]
          have S6 := S5.wipe (own.map (·.2))
          rw [hw] at S6
          exact ⟨hlt, F5, _, acc, xs, (((e2.trans e3).trans e4).trans e5), ra.mono ((e3.trans e4).trans e5), S6, PostL q3 e5⟩
        | true =>
          rw [if_pos rfl]
          refine ⟨_, F5, ρ4, S5, ?_⟩
          have q4 := PostL q3 e5
          have q4 : Post X.K c W F5 σ (fun F' H' ρ' s => ∀ v, Res X.K c F' H' σ ρ' v s → Q v H') (((noexc (me ρ4)).bind fun x ρ3 => if acc.length < sizeLine then goComp (own.map (·.2)) g mt me (ds.drop (i + 1)) (acc ++ [x]) (wipeR ρ3 (own.map (·.2))) else .bad).bind fun acc ρ2 => .ok (.own acc) (unwipe ρ1 ρ2 (own.map (·.2)))) := q4
          cases ze : me ρ4 with
          | bad => rw [ze] at q4; exact q4.elim
          | exc C y ρ' => rw [ze] at q4; exact q4.elim
          | ok x ρ5 =>
            rw [ze] at q4
            intro F6 H6 e6 S6 v r
            have q5 := PostL q4 e6
            have q5 : Post X.K c W F6 σ (fun F' H' ρ' s => ∀ v, Res X.K c F' H' σ ρ' v s → Q v H') ((if acc.length < sizeLine then goComp (own.map (·.2)) g mt me (ds.drop (i + 1)) (acc ++ [x]) (wipeR ρ5 (own.map (·.2))) else .bad).bind fun acc ρ2 => .ok (.own acc) (unwipe ρ1 ρ2 (own.map (·.2)))) := q5
            by_cases hz : acc.length < sizeLine
            · rw [if_pos hz] at q5
              refine ⟨xs, S6.pushed hio, by rw [ra.length]; exact hz, hlt, F6, _, acc ++ [x], xs ++ [v], ((((e2.trans e3).trans e4).trans e5).trans e6), (ra.mono (((e3.trans e4).trans e5).trans e6)).append (.cons r .nil), ?_, q5⟩
              have S7 := (S6.repush hio hcF (o' := .lst (xs ++ [v]))).wipe (own.map (·.2))
              rw [hw] at S7
              exact S7
            · rw [if_neg hz] at q5
              exact q5.elim
  · have e : i = ds.length := by omega
    subst e
    rw [List.drop_length] at q2
    refine .inl ⟨hit.2 (Nat.le_refl _), ?_⟩
    have S3 := S1.unwipe (S2.pop hcH) e2 (noMut_ok hn)
    refine q2 F2 H2 (Same.refl _) S3 _ ⟨Da, xs, rfl, S2.pushedF hcF, S2.pushed hio, ra, hcH, fun j s es h m hq => ?_⟩
    rcases unwipe_get h (fun z => by subst z; cases m) with ⟨a, b⟩ | ⟨a, b⟩
    · exact noMut_ok hn j a s es b m
    · have := S2.apart hio b m
      rw [wipe_get, if_neg a] at this
      exact this hq
where
  PostL {c : Ct} {W : WX} {F F1 : Hp} {σ : St} {P : Hp → Hp → Rho → Sl → Prop} {r : R Sl} (h : Post X.K c W F σ P r) (e : Same F F1) : Post X.K c W F1 σ P r := Post.mono h e
theorem de_lc {us : List Nat} (hc : X.calm = true) (hN : X.N.Nodup) (hi : DI X W tg iter mi) (ok : BlkOk X.N X.env.scope scope own)
    (hg : ∀ (s : Shared) (H : Hp) (C : Addr) (cl : List (Str × Addr)) (fp : List Addr), DG (X.blk s H scope (compEnvC scope cl C X.env) fp) tg us g) (ht : ∀ (s : Shared) (H : Hp) (C : Addr) (cl : List (Str × Addr)) (fp : List Addr), DTs (X.blk s H scope (compEnvC scope cl C X.env) fp) W0 ifs mt)
    (he : ∀ (s : Shared) (H : Hp) (C : Addr) (cl : List (Str × Addr)) (fp : List Addr), DV (X.blk s H scope (compEnvC scope cl C X.env) fp) W0 elt me) (hus : ∀ i ∈ us, i ∈ own.map (·.2) := by decide) (hs : ∀ x, foldedSetIterable iter X.env x = pure x := by intro _; rfl) :
    DE X W (.ListComp elt [⟨tg, iter, ifs, 0⟩] scope pos) (cLc (own.map (·.2)) mi g mt me) := by
  obtain ⟨wi, pi, ki⟩ := hi.run
  exact ⟨_, pe_lc hc hN pi ok (fun s H C cl fp => (hg s H C cl fp).canon) (fun s H C cl fp => (ht s H C cl fp).run) (fun s H C cl fp => (he s H C cl fp).canon) hs, fun c F H σ ρ Q S q => lc_use ki hus S q⟩
theorem ds_setLc {us : List Nat} {i : Nat} {y : Str} {py spos : Pos} (hc : X.calm = true) (hN : X.N.Nodup) (hy : X.N[i]? = some y) (hyl : X.env.scope.names.lookup y = some .local)
    (hsw : swapsWith (.ListComp elt [⟨tg, iter, ifs, 0⟩] scope pos) (some (.Name y py)) spos.line X.env = pure true) (hi : DI X W tg iter mi) (ok : BlkOk X.N X.env.scope scope own)
    (hg : ∀ (s : Shared) (H : Hp) (C : Addr) (cl : List (Str × Addr)) (fp : List Addr), DG (X.blk s H scope (compEnvC scope cl C X.env) fp) tg us g) (ht : ∀ (s : Shared) (H : Hp) (C : Addr) (cl : List (Str × Addr)) (fp : List Addr), DTs (X.blk s H scope (compEnvC scope cl C X.env) fp) W0 ifs mt)
    (he : ∀ (s : Shared) (H : Hp) (C : Addr) (cl : List (Str × Addr)) (fp : List Addr), DV (X.blk s H scope (compEnvC scope cl C X.env) fp) W0 elt me) (hus : ∀ i ∈ us, i ∈ own.map (·.2) := by decide) (hs : ∀ x, foldedSetIterable iter X.env x = pure x := by intro _; rfl) :
    DS X W (.Assign [.Name y py] (.ListComp elt [⟨tg, iter, ifs, 0⟩] scope pos) spos) (sSet i (cLc (own.map (·.2)) mi g mt me)) := by
  obtain ⟨wi, pi, ki⟩ := hi.run
  exact ⟨_, ps_setLc hc hN hy hyl hsw pi ok (fun s H C cl fp => (hg s H C cl fp).canon) (fun s H C cl fp => (ht s H C cl fp).run) (fun s H C cl fp => (he s H C cl fp).canon) hs, fun c F H σ ρ Dn S q => lc_use ki hus S (set_use q)⟩
end
end DL

end
section
namespace DL
open PySem PySem.Spec L2

/-! ### what a def does -/
inductive RF where
  | ok (s : Sl) (io : Option (List D)) | exc (C : Str) (x : D) (io : Option (List D)) | bad
/-- the heaps behind a call -/
structure After (K : PySem.W.Frag) (F H : Hp) (io : Option Addr) (F' H' : Hp) (ds : Option (List D)) : Prop where
  ff : Same F F'
  fh : Same F' H'
  hh : ∀ (b : Addr) (o : HO), H b = some o → io ≠ some b → H' b = some o
  nf : ∀ (b : Addr), H b ≠ none → F b = none → F' b = none
  io : ∀ (a : Addr), io = some a → ∃ xs es, ds = some es ∧ H' a = some (.lst xs) ∧ IsAll K F' xs es
def ResF (K : PySem.W.Frag) (H F' H' : Hp) (v : V) : Sl → Prop
  | .val d => Is K F' v d
  | .own ds => ∃ p xs, v = .ref p ∧ H p = none ∧ F' p = none ∧ H' p = some (.lst xs) ∧ IsAll K F' xs ds
  | _ => False
def PostF (K : PySem.W.Frag) (F H : Hp) (io : Option Addr) (Q : VK) (E : XK) : RF → Prop
  | .ok s ds => ∀ v F' H', After K F H io F' H' ds → ResF K H F' H' v s → Q v H'
  | .exc C x ds => ∀ d v F' H', After K F H io F' H' ds → F' d = some (.xd [(("value" : Str), v)]) → Is K F' v x → E (.ref (He.ga K C)) (some d) H'
  | .bad => False
/-- a def of values -/
def spV (K : PySem.W.Frag) (f : List D → RF) : Sp := fun vs H Q E => ∃ F ds, Same F H ∧ IsAll K F vs ds ∧ PostF K F H none Q E (f ds)
/-- a def that changes the list that is its first argument -/
def spIO (K : PySem.W.Frag) (f : List D → List D → RF) : Sp := fun vs H Q E => ∃ F a xs es vs' ds, vs = .ref a :: vs' ∧ Same F H ∧ F a = none ∧ H a = some (.lst xs) ∧ IsAll K F xs es ∧ IsAll K F vs' ds ∧ PostF K F H (some a) Q E (f es ds)
def ioOf (ρ : Rho) : Option (List D) := match (ρ[0]? : Option Sl) with
  | some (.io ds) => some ds
  | _ => none
def finF : R Fl → RF
  | .ok .next ρ => .ok (.val .non) (ioOf ρ)
  | .ok (.ret s) ρ => .ok s (ioOf ρ)
  | .exc C x ρ => .exc C x (ioOf ρ)
  | _ => .bad
/-- a body's meaning as a def: n names, of them p parameters -/
def runV (n p : Nat) (m : M Fl) (ds : List D) : RF := if ds.length = p then finF (m (ds.map Sl.val ++ List.replicate (n - p) Sl.no)) else .bad
def runIO (n p : Nat) (m : M Fl) (es ds : List D) : RF := if ds.length + 1 = p then finF (m (Sl.io es :: (ds.map Sl.val ++ List.replicate (n - p) Sl.no))) else .bad

section
variable {K : PySem.W.Frag} {F H : Hp} {σ : St} {ρ : Rho}
theorem get_start {α : Type} {vs : List α} {f : α → Sl} {n i : Nat} {s : Sl} (h : (vs.map f ++ List.replicate n Sl.no)[i]? = some s) : (∃ v, vs[i]? = some v ∧ s = f v) ∨ s = .no := by
  rw [List.getElem?_append] at h
  split at h
  · rw [List.getElem?_map] at h
    obtain ⟨v, h1, h2⟩ := Option.map_eq_some_iff.mp h
    exact .inl ⟨v, h1, h2.symm⟩
  · right
    have := List.getElem?_eq_some_iff.mp h
    obtain ⟨h1, h2⟩ := this
    rw [List.getElem_replicate] at h2
    exact h2.symm
theorem SR.startV {vs : List V} {ds : List D} {N : List Str} (e : Same F H) (r : IsAll K F vs ds) (hl : vs.length ≤ N.length) : SR K ⟨F, H, none⟩ F H (L2.start N vs) (ds.map Sl.val ++ List.replicate (N.length - ds.length) Sl.no) where
  fh := e
  ef := Same.refl F
  eh := fun a o q _ => q
  nf := fun a _ q => q
  ioh := fun a q => by cases q
  vl := fun i d q => by
    rcases get_start q with ⟨d', h1, h2⟩ | h
    · cases h2
      obtain ⟨v, h3, h4⟩ := r.get h1
      refine ⟨v, ?_, h4⟩
      unfold L2.start
      rw [List.getElem?_append_left (by simpa using (List.getElem?_eq_some_iff.mp h3).1), List.getElem?_map, h3]
      rfl
    · cases h
  ow := fun i s ds' q m => by
    rcases get_start q with ⟨d', h1, h2⟩ | h
    · subst h2; cases m
    · subst h; cases m
  ne := fun i j s t ds' es p n q m => by
    rcases get_start q with ⟨d', h1, h2⟩ | h
    · subst h2; cases m
    · subst h; cases m
  len := by
    unfold L2.start
    simp [r.length]
theorem SR.startIO {vs : List V} {ds es : List D} {N : List Str} {a : Addr} {xs : List V} (e : Same F H) (hF : F a = none) (hH : H a = some (.lst xs)) (rx : IsAll K F xs es) (r : IsAll K F vs ds) (hl : vs.length + 1 ≤ N.length) :
    SR K ⟨F, H, some a⟩ F H (L2.start N (.ref a :: vs)) (Sl.io es :: (ds.map Sl.val ++ List.replicate (N.length - (ds.length + 1)) Sl.no)) := by
  have hs : L2.start N (V.ref a :: vs) = some (V.ref a) :: (vs.map some ++ List.replicate (N.length - (vs.length + 1)) none) := by
    unfold L2.start
    rw [List.map_cons, List.cons_append, List.length_cons]
  rw [hs]
  refine ⟨e, Same.refl F, fun a o q _ => q, fun a _ q => q, fun b q => by cases q; rw [hH]; simp, fun i d q => ?_, fun i s ds' q m => ?_, fun i j s t ds' es' p n q m q2 m2 h => ?_, by simp [r.length]⟩
  · cases i with
    | zero => cases q
    | succ i =>
      rw [List.getElem?_cons_succ] at q ⊢
      rcases get_start q with ⟨d', h1, h2⟩ | h
      · cases h2
        obtain ⟨v, h3, h4⟩ := r.get h1
        refine ⟨v, ?_, h4⟩
        rw [List.getElem?_append_left (by simpa using (List.getElem?_eq_some_iff.mp h3).1), List.getElem?_map, h3]
        rfl
      · cases h
  · cases i with
    | zero => cases q; cases m; exact ⟨a, xs, rfl, hF, hH, rx, (fun z => by cases z), (fun _ => rfl)⟩
    | succ i =>
      rw [List.getElem?_cons_succ] at q
      rcases get_start q with ⟨d', h1, h2⟩ | h
      · subst h2; cases m
      · subst h; cases m
  · have z : ∀ (i : Nat) (s : Sl) (ds' : List D), (Sl.io es :: (ds.map Sl.val ++ List.replicate (N.length - (ds.length + 1)) Sl.no))[i]? = some s → s.mut = some ds' → i = 0 := fun i s ds' q m => by
      cases i with
      | zero => rfl
      | succ i =>
        rw [List.getElem?_cons_succ] at q
        rcases get_start q with ⟨d', h1, h2⟩ | h
        · subst h2; cases m
        · subst h; cases m
    exact absurd ((z i s ds' q m).trans (z j t es' q2 m2).symm) n
/-- what a body's end says to the caller -/
theorem SR.after0 {F' H' : Hp} {io : Option Addr} {ds : Option (List D)} (S : SR K ⟨F, H, io⟩ F' H' σ ρ) (hio : ∀ a, io = some a → ∃ es, ioOf ρ = some es ∧ ds = some es) : After K F H io F' H' ds where
  ff := S.ef
  fh := S.fh
  hh := fun b o q e => S.eh b o q e
  nf := fun b q e => S.nf b q e
  io := fun a e => by
    obtain ⟨es, h1, h2⟩ := hio a e
    unfold ioOf at h1
    cases q : ρ[0]? with
    | none => rw [q] at h1; cases h1
    | some s =>
      rw [q] at h1
      cases s with
      | io ds' =>
        cases h1
        obtain ⟨p, xs, g1, g2, g3, g4, g5, g6⟩ := S.ow 0 _ _ q rfl
        have e1 : io = some p := g6 rfl
        rw [e] at e1
        cases e1
        exact ⟨xs, _, h2, g3, g4⟩
      | _ => cases h1
theorem res_F {F' H' : Hp} {io : Option Addr} {v : V} {s : Sl} (r : Res K ⟨F, H, io⟩ F' H' σ ρ v s) : ResF K H F' H' v s := by
  cases s with
  | val d => exact r
  | own ds => obtain ⟨p, xs, h1, h2, h3, h4, h5, _⟩ := r; exact ⟨p, xs, h1, h5, h2, h3, h4⟩
  | io ds => exact r.elim
  | no => exact r.elim
end

section
variable {P : Program} {w : World} {K : PySem.W.Frag} {mg : Str → Option Value} {base : Heap} {x qual : Str} {params : Arguments} {body : List Stmt} {scope : Scope} {dvs : List V} {kws : List (Str × V)} {f : Addr} {fd : FuncData} {N ps : List Str} {k : Nat} {m : M Fl}
/-- what is to be shown of a body -/
def Body (P : Program) (w : World) (K : PySem.W.Frag) (mg : Str → Option Value) (base : Heap) (qual : Str) (body : List Stmt) (scope : Scope) (f : Addr) (N : List Str) (k : Nat) (m : M Fl) : Prop :=
  ∀ (cdv : Value) (A : Around) (outer : List Env) (s : Shared) (H : Hp) (E : XK), Room k (A.deeper (PyProof.Rows.envOfC qual scope s.heap.objs.size f cdv)) →
    DSs (cxOf (L2.CX P w) P w K mg base N qual scope f cdv A outer s H E) (fun cls d _ H' => E cls d H') body m
theorem ends_F {c : Ct} {F H : Hp} {io : Option Addr} {Q : VK} {E : XK} {r : R Fl} (hc : c = ⟨F, H, io⟩) (hio : ∀ a, io = some a → ∀ fl ρ, r = .ok fl ρ → ∃ es, ioOf ρ = some es) (hioE : ∀ a, io = some a → ∀ C y ρ, r = .exc C y ρ → ∃ es, ioOf ρ = some es)
    (p : PostF K F H io Q E (finF r)) : PostS K c (fun cls d _ H' => E cls d H') F { nx := fun _ H' => Q .non H', rt := Q } r := by
  subst hc
  cases r with
  | bad => exact p.elim
  | exc C y ρ' =>
    intro d v F' H' σ' e S hd hv
    exact p d v F' H' (S.after0 fun a q => by obtain ⟨es, h⟩ := hioE a q C y ρ' rfl; exact ⟨es, h, h⟩) hd hv
  | ok fl ρ' =>
    cases fl with
    | next =>
      intro F' H' σ' e S
      exact p .non F' H' (S.after0 fun a q => by obtain ⟨es, h⟩ := hio a q _ ρ' rfl; exact ⟨es, h, h⟩) .non
    | ret s =>
      intro F' H' σ' e S v r
      exact p v F' H' (S.after0 fun a q => by obtain ⟨es, h⟩ := hio a q _ ρ' rfl; exact ⟨es, h, h⟩) (res_F r)
    | brk => exact p.elim
    | cont => exact p.elim
theorem fn_V (F : FunD K x qual params body scope dvs kws f fd) (S : FnScope N ps scope) (hm : Body P w K mg base qual body scope f N k m) (hl : ps.length ≤ N.length := by decide) :
    FnOk P w K mg base (L2.CX P w) (k + 1) f fd ps (spV K (runV N.length ps.length m)) := by
  refine F.ok S (fun vs H Q E h => ?_) (fun cdv A outer s H vs Q E hr h => ?_)
  · obtain ⟨F0, ds, _, r, p⟩ := h
    rw [r.length]
    unfold runV at p
    split at p
    · assumption
    · exact p.elim
  · obtain ⟨F0, ds, e, r, p⟩ := h
    unfold runV at p
    split at p
    case isFalse => exact p.elim
    case isTrue hd =>
      obtain ⟨ts, pt, kt⟩ := (hm cdv A outer s H E hr).run
      refine ⟨ts, pt, kt ⟨F0, H, none⟩ F0 H _ _ _ (SR.startV e r (by rw [r.length, hd]; exact hl)) ?_⟩
      rw [hd]
      exact ends_F rfl (fun a q => by cases q) (fun a q => by cases q) p
theorem fn_IO (F : FunD K x qual params body scope dvs kws f fd) (S : FnScope N ps scope) (hm : Body P w K mg base qual body scope f N k m)
    (hio : ∀ (es ds : List D) (fl : Fl) (ρ : Rho), m (Sl.io es :: (ds.map Sl.val ++ List.replicate (N.length - ps.length) Sl.no)) = .ok fl ρ → ∃ fs, ioOf ρ = some fs)
    (hioE : ∀ (es ds : List D) (C : Str) (y : D) (ρ : Rho), m (Sl.io es :: (ds.map Sl.val ++ List.replicate (N.length - ps.length) Sl.no)) = .exc C y ρ → ∃ fs, ioOf ρ = some fs) (hl : ps.length ≤ N.length := by decide) :
    FnOk P w K mg base (L2.CX P w) (k + 1) f fd ps (spIO K (runIO N.length ps.length m)) := by
  refine F.ok S (fun vs H Q E h => ?_) (fun cdv A outer s H vs Q E hr h => ?_)
  · obtain ⟨F0, a, xs, es, vs', ds, rfl, _, _, _, _, r, p⟩ := h
    rw [List.length_cons, r.length]
    unfold runIO at p
    split at p
    · assumption
    · exact p.elim
  · obtain ⟨F0, a, xs, es, vs', ds, rfl, e, hF, hH, rx, r, p⟩ := h
    unfold runIO at p
    split at p
    case isFalse => exact p.elim
    case isTrue hd =>
      obtain ⟨ts, pt, kt⟩ := (hm cdv A outer s H E hr).run
      have S0 := SR.startIO (N := N) e hF hH rx r (by rw [r.length, hd]; exact hl)
      refine ⟨ts, pt, kt ⟨F0, H, some a⟩ F0 H _ _ _ S0 ?_⟩
      rw [hd]
      exact ends_F rfl (fun a q fl ρ z => hio es ds fl ρ z) (fun a q C y ρ z => hioE es ds C y ρ z) p
end

/-! ### calls -/
section
variable {X : Cx} {W : WX} {k : Nat} {f : Addr} {fd : FuncData} {ps : List Str} {g : List D → RF} {gi : List D → List D → RF} {x m : Str} {p pos apos : Pos} {e o : Expr} {es : List Expr} {ms : M (List D)} {mo : M D}
theorem SR.after {K : PySem.W.Frag} {c : Ct} {F H F' H' : Hp} {σ : St} {ρ : Rho} {ds : Option (List D)} (S : SR K c F H σ ρ) (A : After K F H none F' H' ds) : SR K c F' H' σ ρ where
  fh := A.fh
  ef := S.ef.trans A.ff
  eh := fun a o q e => A.hh a o (S.eh a o q e) (fun z => by cases z)
  nf := fun a q e => by
    refine A.nf a (fun z => ?_) (S.nf a q e)
    exact q (S.fresh z)
  ioh := fun a e => by
    cases q : H a with
    | none => exact absurd q (S.ioh a e)
    | some o => rw [A.hh a o q (fun z => by cases z)]; simp
  vl := fun i d q => by
    obtain ⟨v, h1, h2⟩ := S.vl i d q
    exact ⟨v, h1, h2.mono A.ff⟩
  ow := fun i s ds' q m => by
    obtain ⟨p, xs, h1, h2, h3, h4, h5⟩ := S.ow i s ds' q m
    exact ⟨p, xs, h1, A.nf p (by rw [h3]; simp) h2, A.hh p _ h3 (fun z => by cases z), h4.mono A.ff, h5⟩
  ne := S.ne
  len := S.len
theorem ResF.res {K : PySem.W.Frag} {c : Ct} {F H F' H' : Hp} {σ : St} {ρ : Rho} {v : V} {s : Sl} (S : SR K c F H σ ρ) (r : ResF K H F' H' v s) : Res K c F' H' σ ρ v s := by
  cases s with
  | val d => exact r
  | own ds =>
    obtain ⟨p, xs, h1, h2, h3, h4, h5⟩ := r
    exact ⟨p, xs, h1, h3, h4, h5, S.fresh h2, fun i s es q m h => by
      obtain ⟨p', xs', g1, g2, g3, _⟩ := S.ow i s es q m
      rw [h] at g1; cases g1
      rw [h2] at g3; cases g3⟩
  | io ds => exact r.elim
  | no => exact r.elim
def RF.to (r : RF) (ρ : Rho) : R Sl := match r with
  | .ok s _ => .ok s ρ
  | .exc C x _ => .exc C x ρ
  | .bad => .bad
def cFn (g : List D → RF) (ms : M (List D)) : M Sl := fun ρ => (ms ρ).bind fun ds ρ1 => (g ds).to ρ1
theorem call_use {K : PySem.W.Frag} {c : Ct} {F H : Hp} {σ : St} {ρ : Rho} {Q : VK} {r : RF} {vs : List V} {ds : List D} (S : SR K c F H σ ρ) (hg : g ds = r) (rs : IsAll K F vs ds)
    (q : Post K c W F σ (fun F' H' ρ' s => ∀ v, Res K c F' H' σ ρ' v s → Q v H') (r.to ρ)) : spV K g vs H Q (WE W σ) := by
  refine ⟨F, ds, S.fh, rs, ?_⟩
  rw [hg]
  cases r with
  | bad => exact q.elim
  | ok s ds' => exact fun v F' H' A r => q F' H' A.ff (S.after A) v (r.res S)
  | exc C y ds' => exact fun d v F' H' A hd hv => q d v F' H' A.ff (S.after A) hd hv
theorem de_call (F : FnOk X.prog X.w X.K X.mg X.base (L2.CX X.prog X.w) k f fd ps (spV X.K g)) (hr : Room k X.A) (hg : Gl X x) (hm : X.mg x = some (.ref f)) (hk : PySem.W.keepIn X.K (.ref f) = true) (hb : Binds X.K fd ps []) (tk : Takes X W)
    (ha : DA X W (e :: es) ms) (hdb : (x == ("__debug__" : Str)) = false := by decide) (he : starEach (e :: es) X.env = (false, eval e X.env) :: starEach es X.env := by rfl) (hpl : (backTo pos (starEach es X.env)).any (·.1) = false := by rfl) :
    DE X W (.Call (.Name x p) (e :: es) [] pos) (cFn g ms) := by
  obtain ⟨ta, pa, ka⟩ := ha.run
  refine ⟨_, pe_callSD (E := WE W) F hr hg hm hk hb .nil (fun σ => passAt tk σ) pa hdb he hpl, fun c F0 H σ ρ Q S q => ka c F0 H σ ρ _ S ((Post.bind q).imp fun F1 H1 ρ1 ds e1 S1 q1 vs rs => ?_)⟩
  rw [List.append_nil]
  exact call_use S1 rfl rs q1
/-- f(x, ..), x a name of the def whose list f changes -/
def cFnIO (i : Nat) (g : List D → List D → RF) (ms : M (List D)) : M Sl := fun ρ => match (ρ[i]?).bind Sl.mut with
  | none => .bad
  | some _ => (ms ρ).bind fun ds ρ1 => match ρ1[i]? with
    | none => .bad
    | some s => match s.mut with
      | none => .bad
      | some es => match g es ds with
        | .ok r (some fs) => .ok r (ρ1.set i (s.put fs))
        | .exc C x (some fs) => .exc C x (ρ1.set i (s.put fs))
        | _ => .bad
theorem SR.afterIO {K : PySem.W.Frag} {c : Ct} {F H F' H' : Hp} {σ : St} {ρ : Rho} {i : Nat} {s : Sl} {es fs : List D} {a : Addr} (S : SR K c F H σ ρ) (hi : ρ[i]? = some s) (hm : s.mut = some es) (ha : σ[i]? = some (some (.ref a))) (A : After K F H (some a) F' H' (some fs)) :
    SR K c F' H' σ (ρ.set i (s.put fs)) := by
  obtain ⟨p0, xs0, h1, h2, h3, h4, h5, h6⟩ := S.ow i s es hi hm
  rw [ha] at h1; cases h1
  obtain ⟨xs, fs', hf, hH, hx⟩ := A.io a rfl
  cases hf
  have hcH : ∀ o, c.H a = some o → c.io = some a := fun o q => by
    cases s with
    | own d => cases hm; rw [h5 rfl] at q; cases q
    | io d => cases hm; exact h6 rfl
    | val d => cases hm
    | no => cases hm
  refine ⟨A.fh, S.ef.trans A.ff, fun b o q e => ?_, fun b q e => A.nf b (fun z => q (S.fresh z)) (S.nf b q e), fun b e => ?_, fun j d q => ?_, fun j t ds q m => ?_, fun j l t u ds es' q n e1 m1 e2 m2 => ?_, by simp [S.len]⟩
  · have ne : b ≠ a := fun z => by subst z; exact e (hcH o q)
    exact A.hh b o (S.eh b o q e) (fun z => by cases z; exact ne rfl)
  · by_cases z : b = a
    · subst z; rw [hH]; simp
    · cases q : H b with
      | none => exact absurd q (S.ioh b e)
      | some o => rw [A.hh b o q (fun w => by cases w; exact z rfl)]; simp
  · by_cases z : i = j
    · subst z
      rw [List.getElem?_set_self (List.getElem?_eq_some_iff.mp hi).1] at q
      cases s <;> cases q
    · rw [List.getElem?_set_ne z] at q
      obtain ⟨v, g1, g2⟩ := S.vl j d q
      exact ⟨v, g1, g2.mono A.ff⟩
  · by_cases z : i = j
    · subst z
      rw [List.getElem?_set_self (List.getElem?_eq_some_iff.mp hi).1] at q
      cases s with
      | own d => cases q; cases m; cases hm; exact ⟨a, xs, ha, A.nf a (by rw [h3]; simp) h2, hH, hx, (fun _ => h5 rfl), (fun z => by cases z)⟩
      | io d => cases q; cases m; cases hm; exact ⟨a, xs, ha, A.nf a (by rw [h3]; simp) h2, hH, hx, (fun z => by cases z), (fun _ => h6 rfl)⟩
      | val d => cases hm
      | no => cases hm
    · rw [List.getElem?_set_ne z] at q
      obtain ⟨q', zs, g1, g2, g3, g4, g5⟩ := S.ow j t ds q m
      have ne : q' ≠ a := fun w => by subst w; exact S.ne i j s t es ds q' z hi hm q m ha g1
      exact ⟨q', zs, g1, A.nf q' (by rw [g3]; simp) g2, A.hh q' _ g3 (fun w => by cases w; exact ne rfl), g4.mono A.ff, g5⟩
  · have back : ∀ (j : Nat) (t : Sl) (ds : List D), (ρ.set i (s.put fs))[j]? = some t → t.mut = some ds → ∃ t' ds', ρ[j]? = some t' ∧ t'.mut = some ds' := fun j t ds e m => by
      by_cases z : i = j
      · subst z; exact ⟨s, es, hi, hm⟩
      · rw [List.getElem?_set_ne z] at e; exact ⟨t, ds, e, m⟩
    obtain ⟨t', ds', b1, b2⟩ := back j t ds e1 m1
    obtain ⟨u', es'', b3, b4⟩ := back l u es' e2 m2
    exact S.ne j l t' u' ds' es'' q n b1 b2 b3 b4
theorem ResF.resIO {K : PySem.W.Frag} {c : Ct} {F H F' H' : Hp} {σ : St} {ρ : Rho} {v : V} {r s : Sl} {i : Nat} {es fs : List D} (S : SR K c F H σ ρ) (hi : ρ[i]? = some s) (hm : s.mut = some es) (h : ResF K H F' H' v r) : Res K c F' H' σ (ρ.set i (s.put fs)) v r := by
  cases r with
  | val d => exact h
  | own ds =>
    obtain ⟨p, xs, h1, h2, h3, h4, h5⟩ := h
    refine ⟨p, xs, h1, h3, h4, h5, S.fresh h2, fun j t es' q m w => ?_⟩
    have back : ∃ t' ds', ρ[j]? = some t' ∧ t'.mut = some ds' := by
      by_cases z : i = j
      · subst z; exact ⟨s, es, hi, hm⟩
      · rw [List.getElem?_set_ne z] at q; exact ⟨t, es', q, m⟩
    obtain ⟨t', ds', b1, b2⟩ := back
    obtain ⟨p', xs', g1, g2, g3, _⟩ := S.ow j t' ds' b1 b2
    rw [w] at g1; cases g1
    rw [h2] at g3; cases g3
  | io ds => exact h.elim
  | no => exact h.elim
theorem de_callIO {i : Nat} {a : Expr} (F : FnOk X.prog X.w X.K X.mg X.base (L2.CX X.prog X.w) k f fd ps (spIO X.K gi)) (hr : Room k X.A) (hg : Gl X x) (hm : X.mg x = some (.ref f)) (hk : PySem.W.keepIn X.K (.ref f) = true) (hb : Binds X.K fd ps []) (tk : Takes X W)
    (h1 : PE X a (tVar i)) (ha : DA X W es ms) (hdb : (x == ("__debug__" : Str)) = false := by decide) (he : starEach (a :: es) X.env = (false, eval a X.env) :: starEach es X.env := by rfl) (hpl : (backTo pos (starEach es X.env)).any (·.1) = false := by rfl) :
    DE X W (.Call (.Name x p) (a :: es) [] pos) (cFnIO i gi ms) := by
  obtain ⟨ta, pa, ka⟩ := ha.run
  refine ⟨_, pe_callSD (E := WE W) F hr hg hm hk hb .nil (fun σ => passAt tk σ) (pa_cons h1 pa he) hdb he hpl, fun c F0 H σ ρ Q S q => ?_⟩
  unfold cFnIO at q
  cases z0 : (ρ[i]?).bind Sl.mut with
  | none => rw [z0] at q; exact q.elim
  | some es0 =>
    rw [z0] at q
    obtain ⟨s0, z1, z2⟩ := Option.bind_eq_some_iff.mp z0
    obtain ⟨p0, xs0, h0, _⟩ := mut_at S z1 z2
    refine ⟨_, h0, ka c F0 H σ ρ _ S ((Post.bind q).imp fun F1 H1 ρ1 ds e1 S1 q1 vs rs => ?_)⟩
    show spIO X.K gi ((V.ref p0 :: vs) ++ []) H1 Q (WE W σ)
    rw [List.append_nil]
    cases z3 : ρ1[i]? with
    | none => simp only [z3] at q1; exact q1.elim
    | some s1 =>
      cases z4 : s1.mut with
      | none => simp only [z3, z4] at q1; exact q1.elim
      | some es1 =>
        simp only [z3, z4] at q1
        obtain ⟨p1, xs1, g1, g2, g3, g4⟩ := mut_at S1 z3 z4
        rw [h0] at g1; cases g1
        refine ⟨F1, p0, xs1, es1, vs, ds, rfl, S1.fh, g2, g3, g4, rs, ?_⟩
        cases z5 : gi es1 ds with
        | bad => simp only [z5] at q1; exact q1.elim
        | ok r io =>
          cases io with
          | none => simp only [z5] at q1; exact q1.elim
          | some fs =>
            simp only [z5] at q1
            exact fun v F' H' A rr => q1 F' H' A.ff (S1.afterIO z3 z4 h0 A) v (rr.resIO S1 z3 z4)
        | exc C y io =>
          cases io with
          | none => simp only [z5] at q1; exact q1.elim
          | some fs =>
            simp only [z5] at q1
            exact fun d v F' H' A hd hv => q1 d v F' H' A.ff (S1.afterIO z3 z4 h0 A) hd hv
end
end DL

end
section
namespace L2
open PySem PySem.Spec
section
variable {X : Cx} {CX : CXT} {k : Nat} {f C : Addr} {fd : FuncData} {ps : List Str} {sp : Sp} {E : St → XK} {x m : Str} {p pos apos : Pos} {e o : Expr} {es : List Expr} {ta : TE} {t : TA}
/-- o.m(e, ..), what is raised wished for at the caller's slots -/
def tMethS (C : Addr) (sp : Sp) (m : Str) (E : St → XK) (ta : TE) (t : TA) : TE := fun σ H Q => ta σ H fun x H1 => ∃ a dx fs, x = .ref a ∧ H1 a = some (.ins C dx fs) ∧ fs.lookup m = none ∧
  t σ H1 fun vs H2 => sp (x :: vs) H2 Q (E σ)
theorem pe_methS {pl : Sem Bool} (he : PE X o ta) (c : Cls X.K C) (hm : Meth X.K C m f) (F : FnOk X.prog X.w X.K X.mg X.base CX k f fd ps sp) (hr : Room k X.A) (hb : Binds X.K fd ps []) (hx : ∀ σ, PassesAt CX X σ (E σ)) (ha : PA X (e :: es) t)
    (hst : starEach (e :: es) X.env = (false, eval e X.env) :: starEach es X.env := by rfl) (hpl : (backTo pos (starEach es X.env)).any (·.1) = false := by rfl)
    (ht : eval (.Call (.Attribute o m apos) (e :: es) [] pos) X.env = (do
      let ov ← eval o X.env
      standAt apos.atName
      let (f, first) ← holding [ov] (getMethod ov m pl)
      callWith pos f first (backTo pos (starEach (e :: es) X.env)) (backToKw pos (keywordEach [] X.env))) := by rfl) :
    PE X (.Call (.Attribute o m apos) (e :: es) [] pos) (tMethS C sp m E ta t) := by
  refine ⟨fun pins s σ H Q I h => ?_⟩
  refine PySem.W.methodCall_KW (pl := pl) (thn (he.run pins s σ H _ I h) fun u s1 ⟨x, H1, I1, rx, a, dx, fs, ex, ea, l, q⟩ => ?_) ht
  subst ex
  obtain rfl : u = Value.ref a := rx
  refine getmeth_ok I1 ea c hm l ?_
  refine PySem.W.callWith_K (first := [.ref a]) (h₀ := X.base) I.ok.mod.kin hm.kp (thn (ha.run pos pins s1 σ H1 _ I1 q) fun us s2 ⟨vs, H2, I2, r, q2⟩ => ⟨I2.kIn, ?_⟩) hst hpl
  exact run_fnSD (ds := []) (dvs := []) (us := .ref a :: us) (vs := .ref a :: vs) F hr hb .nil (hx σ) I2 (.cons rfl r) (by rw [List.append_nil]; exact q2)
theorem pe_methS0 {pl : Sem Bool} (he : PE X o ta) (c : Cls X.K C) (hm : Meth X.K C m f) (F : FnOk X.prog X.w X.K X.mg X.base CX k f fd ps sp) (hr : Room k X.A) (hb : Binds X.K fd ps []) (hx : ∀ σ, PassesAt CX X σ (E σ))
    (ht : eval (.Call (.Attribute o m apos) [] [] pos) X.env = (do
      let ov ← eval o X.env
      standAt apos.atName
      let (f, first) ← holding [ov] (getMethod ov m pl)
      callWith pos f first (backTo pos (starEach [] X.env)) (backToKw pos (keywordEach [] X.env))) := by rfl) :
    PE X (.Call (.Attribute o m apos) [] [] pos) (tMethS C sp m E ta tNil) := by
  refine ⟨fun pins s σ H Q I h => ?_⟩
  refine PySem.W.methodCall_KW (pl := pl) (thn (he.run pins s σ H _ I h) fun u s1 ⟨x, H1, I1, rx, a, dx, fs, ex, ea, l, q⟩ => ?_) ht
  subst ex
  obtain rfl : u = Value.ref a := rx
  refine getmeth_ok I1 ea c hm l ?_
  exact PySem.W.callWith_K0 (first := [.ref a]) I1.kIn hm.kp (run_fnSD (ds := []) (dvs := []) (us := [.ref a]) (vs := [.ref a]) F hr hb .nil (hx σ) I1 (.cons rfl .nil) (by rw [List.append_nil]; exact q))
/-- C(e, ..), what is raised wished for at the caller's slots -/
def tMakeS (C : Addr) (sp : Sp) (E : St → XK) (t : TA) : TE := fun σ H Q => t σ H fun vs H1 => ∀ x dx, H1 x = none → H1 dx = none → dx ≠ x →
  sp (.ref x :: vs) (upd (upd H1 dx (.own x)) x (.ins C dx [])) (fun v H2 => v = .non ∧ Q (.ref x) H2) E0
theorem pe_makeS (M : Mk X.K C f) (F : FnOk X.prog X.w X.K X.mg X.base CX k f fd ps sp) (hr : Room (k + 1) X.A) (hg : Gl X x) (hm : X.mg x = some (.ref C)) (hb : Binds X.K fd ps []) (hx : Passes CX X E0)
    (ha : PA X (e :: es) t) (hdb : (x == ("__debug__" : Str)) = false := by decide) (he : starEach (e :: es) X.env = (false, eval e X.env) :: starEach es X.env := by rfl) (hpl : (backTo pos (starEach es X.env)).any (·.1) = false := by rfl) :
    PE X (.Call (.Name x p) (e :: es) [] pos) (tMakeS C sp E t) := by
  have h := pe_make (p := p) (sp := sp) (dvs := []) (E := E0) M F hr hg hm hb .nil hx ha hdb he hpl
  refine ⟨fun pins s σ H Q I q => h.run pins s σ H Q I ?_⟩
  show t σ H fun vs H1 => _
  unfold tMakeS at q
  have e1 : (fun (vs : List V) (H1 : Hp) => ∀ x dx, H1 x = none → H1 dx = none → dx ≠ x → sp (.ref x :: (vs ++ [])) (upd (upd H1 dx (.own x)) x (.ins C dx [])) (fun v H2 => v = .non ∧ Q (.ref x) H2) E0) =
      (fun (vs : List V) (H1 : Hp) => ∀ x dx, H1 x = none → H1 dx = none → dx ≠ x → sp (.ref x :: vs) (upd (upd H1 dx (.own x)) x (.ins C dx [])) (fun v H2 => v = .non ∧ Q (.ref x) H2) E0) := by
    funext vs H1
    rw [List.append_nil]
  rw [e1]
  exact q
end
end L2
namespace DL
open PySem PySem.Spec L2

/-! ### instances -/
section
variable {X : Cx} {W : WX} {k : Nat} {f : Addr} {fd : FuncData} {ps : List Str} {g : List D → RF} {C x m fl : Str} {p pos apos : Pos} {e o : Expr} {es : List Expr} {ms : M (List D)} {mo : M D}
/-- o.f, a field of an instance of the class C -/
def D.fld (C fl : Str) : D → Option D
  | .ins C' fs => if C' = C then fs.lookup fl else none
  | _ => none
def cFld (C fl : Str) (mo : M D) : M D := fun ρ => (mo ρ).bind fun d ρ1 => ret (d.fld C fl) ρ1
theorem fld_ins {d y : D} (h : D.fld C fl d = some y) : ∃ fs, d = .ins C fs ∧ fs.lookup fl = some y := by
  cases d with
  | ins C' fs =>
    have h' : (if C' = C then fs.lookup fl else none) = some y := h
    by_cases e : C' = C
    · subst e; rw [if_pos rfl] at h'; exact ⟨fs, rfl, h'⟩
    · rw [if_neg e] at h'; cases h'
  | _ => cases h
theorem dv_fld (hc : Cls X.K (He.ga X.K C)) (hn : NoAttr X.K (He.ga X.K C) fl) (ho : DV X W o mo) (hb : attributeBase o fl X.env (eval o X.env) = eval o X.env := by rfl) : DV X W (.Attribute o fl pos) (cFld C fl mo) := by
  obtain ⟨t, pe, kk⟩ := ho.run
  refine ⟨_, pe_fld pe hb, fun c F H σ ρ Q S q => kk c F H σ ρ _ S ((Post.bind q).imp fun F1 H1 ρ1 d e1 S1 q1 v r => ?_)⟩
  cases z : D.fld C fl d with
  | none => rw [z] at q1; exact q1.elim
  | some y =>
    rw [z] at q1
    obtain ⟨fs, rfl, hl⟩ := fld_ins z
    cases r with
    | ins s t' =>
      obtain ⟨w, h1, h2⟩ := t'.look hl
      exact ⟨_, _, _, _, w, rfl, S1.fh _ _ s, hc, hn, h1, q1 F1 H1 (Same.refl _) S1 w h2⟩
def D.isIns (C m : Str) : D → Bool
  | .ins C' fs => decide (C' = C) && (fs.lookup m).isNone
  | _ => false
def cMeth (C m : Str) (g : List D → RF) (mo : M D) (ms : M (List D)) : M Sl := fun ρ => (mo ρ).bind fun d ρ1 => if d.isIns C m then (ms ρ1).bind fun ds ρ2 => (g (d :: ds)).to ρ2 else .bad
theorem isIns_ok {d : D} (h : d.isIns C m = true) : ∃ fs, d = .ins C fs ∧ fs.lookup m = none := by
  cases d with
  | ins C' fs =>
    have h' : (decide (C' = C) && (fs.lookup m).isNone) = true := h
    rw [Bool.and_eq_true] at h'
    have e : C' = C := of_decide_eq_true h'.1
    subst e
    exact ⟨fs, rfl, Option.isNone_iff_eq_none.mp h'.2⟩
  | _ => cases h
theorem meth_use {K : PySem.W.Frag} {pX : Cx} {ta : TA} {to : TE} (hK : X.K = K) (ko : ∀ c F H σ ρ (Q : VK), SR X.K c F H σ ρ → Post X.K c W F σ (fun F' H' _ d => ∀ v, Is X.K F' v d → Q v H') (mo ρ) → to σ H Q)
    (ka : ∀ c F H σ ρ (Q : List V → Hp → Prop), SR X.K c F H σ ρ → Post X.K c W F σ (fun F' H' _ ds => ∀ vs, IsAll X.K F' vs ds → Q vs H') (ms ρ) → ta σ H Q)
    {c : Ct} {F H : Hp} {σ : St} {ρ : Rho} {Q : VK} (S : SR X.K c F H σ ρ) (q : Post X.K c W F σ (fun F' H' ρ' s => ∀ v, Res X.K c F' H' σ ρ' v s → Q v H') (cMeth C m g mo ms ρ)) : tMethS (He.ga X.K C) (spV X.K g) m (WE W) to ta σ H Q := by
  refine ko c F H σ ρ _ S ((Post.bind q).imp fun F1 H1 ρ1 d e1 S1 q1 v r => ?_)
  by_cases hi : d.isIns C m = true
  case neg => rw [if_neg hi] at q1; exact q1.elim
  rw [if_pos hi] at q1
  obtain ⟨fs, rfl, hl⟩ := isIns_ok hi
  cases r with
  | ins s t' =>
    refine ⟨_, _, _, rfl, S1.fh _ _ s, t'.none hl, ?_⟩
    refine ka c F1 H1 σ ρ1 _ S1 ((Post.bind q1).imp fun F2 H2 ρ2 ds e2 S2 q2 vs rs => ?_)
    exact call_use S2 rfl (.cons (.ins (e2 _ _ s) (t'.mono e2)) rs) q2
theorem de_meth {pl : Sem Bool} (hc : Cls X.K (He.ga X.K C)) (hm : Meth X.K (He.ga X.K C) m f) (F : FnOk X.prog X.w X.K X.mg X.base (L2.CX X.prog X.w) k f fd ps (spV X.K g)) (hr : Room k X.A) (hb : Binds X.K fd ps []) (tk : Takes X W) (ho : DV X W o mo) (ha : DA X W (e :: es) ms)
    (hst : starEach (e :: es) X.env = (false, eval e X.env) :: starEach es X.env := by rfl) (hpl : (backTo pos (starEach es X.env)).any (·.1) = false := by rfl)
    (ht : eval (.Call (.Attribute o m apos) (e :: es) [] pos) X.env = (do
      let ov ← eval o X.env
      standAt apos.atName
      let (f, first) ← holding [ov] (getMethod ov m pl)
      callWith pos f first (backTo pos (starEach (e :: es) X.env)) (backToKw pos (keywordEach [] X.env))) := by rfl) : DE X W (.Call (.Attribute o m apos) (e :: es) [] pos) (cMeth C m g mo ms) := by
  obtain ⟨to, po, ko⟩ := ho.run
  obtain ⟨ta, pa, ka⟩ := ha.run
  exact ⟨_, pe_methS (E := WE W) po hc hm F hr hb (fun σ => passAt tk σ) pa hst hpl ht, fun c F0 H σ ρ Q S q => meth_use (X := X) (pX := X) rfl ko ka S q⟩
theorem de_meth0 {pl : Sem Bool} (hc : Cls X.K (He.ga X.K C)) (hm : Meth X.K (He.ga X.K C) m f) (F : FnOk X.prog X.w X.K X.mg X.base (L2.CX X.prog X.w) k f fd ps (spV X.K g)) (hr : Room k X.A) (hb : Binds X.K fd ps []) (tk : Takes X W) (ho : DV X W o mo)
    (ht : eval (.Call (.Attribute o m apos) [] [] pos) X.env = (do
      let ov ← eval o X.env
      standAt apos.atName
      let (f, first) ← holding [ov] (getMethod ov m pl)
      callWith pos f first (backTo pos (starEach [] X.env)) (backToKw pos (keywordEach [] X.env))) := by rfl) : DE X W (.Call (.Attribute o m apos) [] [] pos) (cMeth C m g mo aNil) := by
  obtain ⟨to, po, ko⟩ := ho.run
  exact ⟨_, pe_methS0 (E := WE W) po hc hm F hr hb (fun σ => passAt tk σ) ht, fun c F0 H σ ρ Q S q => meth_use (X := X) (pX := X) (ms := aNil) rfl ko (fun c F H σ ρ Q S p => p F H (Same.refl _) S [] .nil) S q⟩
/-- an __init__ that fills a new instance: what its fields are -/
def spNew (K : PySem.W.Frag) (C : Str) (f : List D → Option (List (Str × D))) : Sp := fun vs H Q _ => ∃ F a dx vs' ds gs, vs = .ref a :: vs' ∧ Same F H ∧ F a = none ∧ F dx = none ∧ dx ≠ a ∧ H a = some (.ins (He.ga K C) dx []) ∧ H dx = some (.own a) ∧ IsAll K F vs' ds ∧ f ds = some gs ∧
  ∀ F' H', Same F F' → Same F' H' → (∀ b o, H b = some o → b ≠ a → H' b = some o) → (∀ b, H b ≠ none → b ≠ a → b ≠ dx → F b = none → F' b = none) → (∃ fs, F' a = some (.ins (He.ga K C) dx fs) ∧ IsFs K F' fs gs) → Q .non H'
def cNew (C : Str) (f : List D → Option (List (Str × D))) (ms : M (List D)) : M D := fun ρ => (ms ρ).bind fun ds ρ1 => match f ds with
  | some gs => .ok (.ins C gs) ρ1
  | none => .bad
theorem dv_new {fn : List D → Option (List (Str × D))} (M : Mk X.K (He.ga X.K C) f) (F : FnOk X.prog X.w X.K X.mg X.base (L2.CX X.prog X.w) k f fd ps (spNew X.K C fn)) (hr : Room (k + 1) X.A) (hg : Gl X x) (hm : X.mg x = some (.ref (He.ga X.K C))) (hb : Binds X.K fd ps [])
    (ha : DA X W (e :: es) ms) (hdb : (x == ("__debug__" : Str)) = false := by decide) (he : starEach (e :: es) X.env = (false, eval e X.env) :: starEach es X.env := by rfl) (hpl : (backTo pos (starEach es X.env)).any (·.1) = false := by rfl) :
    DV X W (.Call (.Name x p) (e :: es) [] pos) (cNew C fn ms) := by
  obtain ⟨ta, pa, ka⟩ := ha.run
  refine ⟨_, pe_makeS (E := fun _ => E0) M F hr hg hm hb passL pa hdb he hpl, fun c F0 H σ ρ Q S q => ka c F0 H σ ρ _ S ((Post.bind q).imp fun F1 H1 ρ1 ds e1 S1 q1 vs rs => ?_)⟩
  intro a dx ha hd ne
  cases z : fn ds with
  | none => simp only [z] at q1; exact q1.elim
  | some gs =>
    simp only [z] at q1
    have hFa := S1.freshF ha
    have hFd := S1.freshF hd
    have hcA := S1.fresh ha
    have hcD := S1.fresh hd
    refine ⟨F1, a, dx, vs, ds, gs, rfl, ?_, hFa, hFd, ne, upd_same, by rw [upd_ne ne]; exact upd_same, rs, z, fun F' H' h1 h2 h3 h4 h5 => ⟨rfl, ?_⟩⟩
    · exact same_upd (same_upd S1.fh hFd) hFa
    · obtain ⟨fs, h6, h7⟩ := h5
      have up : ∀ b o, H1 b = some o → (upd (upd H1 dx (.own a)) a (.ins (He.ga X.K C) dx [])) b = some o ∧ b ≠ a ∧ b ≠ dx := fun b o q => by
        have n1 : b ≠ a := fun z => by subst z; rw [ha] at q; cases q
        have n2 : b ≠ dx := fun z => by subst z; rw [hd] at q; cases q
        exact ⟨by rw [upd_ne n1, upd_ne n2]; exact q, n1, n2⟩
      refine q1 F' H' h1 ?_ _ (.ins h6 h7)
      have A : After X.K F1 H1 none F' H' none := ⟨h1, h2, fun b o q _ => by
        obtain ⟨u1, u2, u3⟩ := up b o q
        exact h3 b o u1 u2, fun b q e => by
        cases w : H1 b with
        | none => exact absurd w q
        | some o =>
          obtain ⟨u1, u2, u3⟩ := up b o w
          exact h4 b (by rw [u1]; simp) u2 u3 e, fun a q => by cases q⟩
      exact S1.after A
end
end DL

end
set_option maxHeartbeats 4000000
section
/-! Errors of a program whose classes share one __init__ with super().__init__(text) and one field value. -/
namespace PySem
namespace DayX
open PySem.W PySem.Calls PyProof.Rows PySem.HandSPX
def iP (p1 p2 : Pos) : Arguments := { posonlyargs := [], args := [{ arg := "self", annotation := none, pos := p1 }, { arg := "value", annotation := none, pos := p2 }], vararg := none, kwonlyargs := [], kw_defaults := [], kwarg := none, defaults := [] }
def iB (q0 q1 q2 q3 q4 q5 q6 q7 q8 q9 : Pos) : List Stmt := [.Expr (.Call (.Attribute (.Call (.Name "super" q0) [] [] q1) "__init__" q2) [.Constant (.str "alldue") 0 q3] [] q4) q5, .Assign [.Attribute (.Name "self" q6) "value" q7] (.Name "value" q8) q9]
def HeT (q0 q1 q2 q3 q4 : Pos) : Prop := ∃ pl : Sem Bool, ∀ env : Env, eval (.Call (.Attribute (.Call (.Name "super" q0) [] [] q1) "__init__" q2) [.Constant (.str "alldue") 0 q3] [] q4) env = (do
      let ov ← attributeBase (.Call (.Name "super" q0) [] [] q1) "__init__" env (eval (.Call (.Name "super" q0) [] [] q1) env)
      standAt q2.atName
      let (f, first) ← holding [ov] (getMethod ov "__init__" pl)
      callWith q4 f first (backTo q4 (starEach [.Constant (.str "alldue") 0 q3] env)) [])
def iS : Scope := { kind := .function, names := [(PySem.Str.ofString "self", .local), (PySem.Str.ofString "value", .local), (PySem.Str.ofString "__class__", .free), (PySem.Str.ofString "super", .globalImplicit)], isGenerator := false, isCoroutine := false, more := [] }
/-- what the written part says of the class at C, over the class at D whose __init__ is at fI -/
structure Txt (prog : Program) (K : Frag) (mg : Str → Option Value) (C D fI : Addr) : Prop where
  cls : ∃ nm q N bs bm sn sub ab col dd k0 k1 k2 k3 k5, K.lookup C = some (excClassObj nm q C N bs bm true sn sub ab col dd k0 k1 k2 k3 k5 "ValueError.__new__") ∧ refsVE bm = true
  sa : findIn K (.ref C) "__setattr__" = some (some (.builtin "object.__setattr__"))
  noN : findIn K (.ref C) "value" = some none
  iC : findIn K (.ref C) "__init__" = some (some (.ref fI))
  tC : typeIn K (.ref fI) = some (.type "function")
  clD : (clsIn K D).isSome = true
  mroD : mroIn K C (.ref D) = some true
  sup : ks_superIn K C D "__init__" = some (some (.builtin "ValueError.__init__"))
  opq : nsIn K cStatics "thirdparty.any" = some none
  subV : subIn K (.ref C) (.type "ValueError") = some true
  top : (prog.main.scope.names.lookup ("super" : Str)).isSome = false
  mgS : mg "super" = none
  kC : keepIn K (.ref C) = true
  exC : subIn K (.ref C) (.type "BaseException") = some true
  tyC : typeIn K (.ref C) = some (.type "type")
  ga : findIn K (.ref C) "__getattribute__" = some (some (.builtin "BaseException.__getattribute__"))
  gg : findIn K (.ref C) "__getattr__" = some none
  hdC : hasDictIn K C = true
  fn : ∃ (oc : Value) (od : Option Addr) (osl : Array (Option Value)) (cc cda : Addr) (ccl cl : Value) (cdd cld : Option Addr) (vs : Array Value) (ccs csl : Array (Option Value)) (file : Str) (tf : Tok)
    (dV kV doc pm ct : Value) (an : Option Addr) (p1 p2 q0 q1 q2 q3 q4 q5 q6 q7 q8 q9 : Pos),
    K.lookup fI = some ⟨oc, od, .func (ksFn "__init__" "DayError.__init__" (iP p1 p2) (iB q0 q1 q2 q3 q4 q5 q6 q7 q8 q9) iS dV kV doc pm an (.ref cda) ct cc), osl⟩ ∧ codeIn K (.ref cda) "DayError.__init__" = true ∧
    K.lookup cda = some ⟨ccl, cdd, .fields vs, ccs⟩ ∧ vs[2]? = some (.str file tf) ∧ ((prog.main.file : Str) == file) = true ∧ K.lookup cc = some ⟨cl, cld, .cell (some (.ref D)), csl⟩ ∧
    (dV = .none ∧ kV = .none) ∧ HeT q0 q1 q2 q3 q4
theorem one_size (v : Value) : [v].length ≤ sizeLine := by
  rw [sizeLine_eq]
  exact (by decide : 1 ≤ 16777216)
theorem kept_but {K : Frag} {h h' : Heap} {x : Addr} (X : K.In h) (hx : K.lookup x = none) (k : ∀ b o, b ≠ x → h.get? b = some o → h'.get? b = some o) : K.In h' := fun a o e =>
  k a o (fun z => by rw [z, hx] at e; cases e) (X a o e)
structure InitEnd (h h' : Heap) (x C dx : Addr) (v : Value) : Prop where
  keep : ∀ b o, b ≠ x → h.get? b = some o → h'.get? b = some o
  obj : ∃ t1 : Addr, h'.get? x = some { cls := .ref C, dict := some dx, data := .fields #[.ref t1, .none, .none, .none, .bool false, .none] }
  dbig : h.objs.size ≤ dx
  dne : dx ≠ x
  ns : h'.Ns1 dx (fun y => if y = "value" then some v else none)
/-- a made error -/
structure OwnMade (h h' : Heap) (e C d : Addr) (v : Value) : Prop where
  keep : ∀ b o, h.get? b = some o → h'.get? b = some o
  new : h.objs.size ≤ e
  obj : ∃ oe vs, h'.get? e = some oe ∧ oe.cls = .ref C ∧ oe.dict = some d ∧ oe.data = .fields vs ∧ vs[1]? = some .none
  dbig : h.objs.size ≤ d
  dne : d ≠ e
  ns : h'.Ns1 d (fun y => if y = "value" then some v else none)
section
variable {prog : Program} {w : World} {A : Around} {E : Value → Shared → Prop} {h : Heap} {g : Array GenState} {d : Drawn} {t : Nat} {os : OsState}
theorem day_wrap {nm q : Str} {C N e t0 u : Addr} {bs bm : List Value} {sn : List Str} {sub : List Value} {ab : Bool} {col : Option Bool} {dd : Option Addr} {k0 k1 k2 k3 k5 : Option Value} {rest : List Value} {Q : Value → Shared → Prop}
    (hC : h.get? C = some (excClassObj nm q C N bs bm true sn sub ab col dd k0 k1 k2 k3 k5 "ValueError.__new__")) (he : h.get? e = some (excO C t0)) (hu : h.get? u = some (kxs_mw "ValueError.__init__" e)) (hrest : rest.length ≤ sizeLine)
    (hq : ∀ h' t1, (∀ b o, b ≠ e → h.get? b = some o → h'.get? b = some o) → h'.get? e = some (excO C t1) → Q .none ⟨h', g, d, t, os⟩) :
    wpAny (model prog w) A (call (.ref u) rest) Q E ⟨h, g, d, t, os⟩ := by
  refine wpAny_call (codeAny_of_tree ?_)
  show wpAny _ A.in1 (callAny (.ref u) ⟨rest, []⟩) _ _ _
  simp only [callAny]
  refine wpAny_bind (wpAny_load hu ?_)
  simp only [kxs_mw, show (Value.type "method-wrapper" == Value.type "method" || Value.type "method-wrapper" == Value.type "builtin_function_or_method" || Value.type "method-wrapper" == Value.type "method-wrapper") = true by decide, if_true]
  refine KFB.if_so (by decide) ?_
  refine wpAny_bind (check_bound_init F.excBase_ValueError.toExcCallFacts hC he rfl ?_)
  refine wpAny_bind (wpAny_pure (wpAny_pure ?_))
  refine ⟨plainId_quiet F.excBase_ValueError.init.plain _, codeAny_builtin F.excBase_ValueError.initEntry ?_⟩
  exact exc_init_tree (cls := .ref C) (t0 := t0) (dv := none) (c2 := .none) (c3 := .none) (b4 := .bool false) he hrest fun h' k e' _ => hq h' _ k e'
end
section
variable {prog : Program} {w : World} {A : Around} {R : Result → Shared → Prop} {s : Shared} {K : Frag} {mg mb : Str → Option Value} {C D fI : Addr}
theorem day_init (T : Txt prog K mg C D fI) {x t0 : Addr} {v : Value} (X : K.In s.heap) (hlim : s.heap.NoLimit) (hg : s.heap.Ns mainGlobals mg) (hb : s.heap.Ns builtinsNs mb) (hmb : mb "super" = some (.type "super")) (hx : s.heap.get? x = some (excO C t0)) (hnx : K.lookup x = none) (hroom : A.depth < recursionLimit)
    (hq : ∀ h' tk dx, InitEnd s.heap h' x C dx v → R (.ok (.ret .none)) { s with heap := h', toks := tk }) :
    codeAny (model prog w) A (.call (.ref fI) ⟨[.ref x, v], []⟩) R s := by
  obtain ⟨oc, od, osl, cc, cda, ccl, cl, cdd, cld, vs, ccs, csl, file, tf, dV, kV, doc, pm, ct, an, p1, p2, q0, q1, q2, q3, q4, q5, q6, q7, q8, q9, ho, hcd, hcode, hvs, hfile, hcell, ⟨rfl, rfl⟩, ⟨pl, het⟩⟩ := T.fn
  obtain ⟨nm, q, N, bs, bm, sn, sub, ab, col, dd, k0, k1, k2, k3, k5, hC, hbm⟩ := T.cls
  have hcl : clsIn K C = some { name := nm, bases := bs, mro := .ref C :: bm, ns := N, qualname := q, hasDict := true, slotNames := sn, subclasses := sub, abstract := ab, collection := col, hasDel := false } := by unfold clsIn; rw [hC] <;> rfl
  refine ks_codeAny_call_defAt (fd := ksFn "__init__" "DayError.__init__" (iP p1 p2) (iB q0 q1 q2 q3 q4 q5 q6 q7 q8 q9) iS .none .none doc pm an (.ref cda) ct cc) (body := iB q0 q1 q2 q3 q4 q5 q6 q7 q8 q9) (binds := [("self", .ref x), ("value", v)]) hroom (X _ _ ho) rfl hlim (codeRec_of X hcd) rfl
    (BindsTo.of_eq (by first | rfl | with_unfolding_all rfl)) (show ∀ x ∈ iS.names, x.2 ≠ .cell by decide +kernel) (by first | decide | decide +kernel | (intro y hy; simp at hy; rcases hy with rfl | rfl <;> rfl)) (fun h₁ hns k => ?_) rfl rfl rfl
  obtain ⟨cdD, hD⟩ := Option.isSome_iff_exists.mp T.clD
  obtain ⟨hh, g, d, t, os⟩ := s
  obtain ⟨oD, hD1, hD2⟩ : ∃ oD, hh.get? D = some oD ∧ oD.data = .cls cdD := by
    unfold clsIn at hD
    split at hD
    · rename_i c d cd' sl ho
      cases hD
      exact ⟨_, X _ _ ho, rfl⟩
    · cases hD
  have X1 : K.In h₁ := X.keeps k
  have hx1 := k _ _ hx
  have hxL : hh.objs.size ≠ x := Nat.ne_of_gt (Heap.lt_size hx)
  -- super().__init__('alldue')
  refine ks_wpAt_execs_cons (ks_wpAt_Expr_any (ks_wpAt_MethodCall (pl := pl) ?_ (het _)))
  refine ks_wpAt_super_base (env := ksEnv "DayError.__init__" iS hh.objs.size fI (.ref cda) cc) (f := fI) (cc := cda) rfl rfl (by decide) rfl (X1 _ _ ho) rfl rfl rfl (X1 _ _ hcode) rfl hvs hfile T.top ?_
  refine ks_loadName_global rfl rfl (loadGlobal_builtin (env := ksEnv "DayError.__init__" iS hh.objs.size fI (.ref cda) cc) (hg.keeps k) T.mgS (hb.keeps k) hmb ⟨rfl, ?_⟩)
  refine wpAny_loadName_free rfl rfl rfl ⟨_, X1 _ _ hcell, rfl⟩ ?_
  refine wpAny_loadName_local (v := .ref x) rfl rfl hns (by first | rfl | with_unfolding_all rfl | kernel_rfl) ?_
  refine ks_wpAny_isType_cls (k _ _ hD1) hD2 ⟨rfl, ?_⟩
  refine ks_wpAny_call_super (k _ _ hD1) hD2 hx1 rfl (fun c e => by cases e) (looks_mroIn X1 T.mroD) (fun h2 e2 kk => ?_)
  have X2 : K.In h2 := X1.keeps kk
  have hx2 := kk _ _ hx1
  have I2 : InstAt h2 x (excO C t0) C none := ⟨hx2, rfl, rfl, trivial⟩
  have hm := T.sup
  unfold ks_superIn at hm
  rw [hcl] at hm
  refine kxs_getMethod kxs_ValueError e2 (looks_opaque X2 T.opq) (l₀ := .ref C :: bm) (fun A Q E s k q => wpAny_bind ((looks_clsIn X2 hcl) A _ E s k (wpAny_pure q))) rfl X2 hm (I2.type.andThen (looks_subIn X2 T.subV)) (ks_ne X2 I2 hcl) (by decide) ?_
  have k3 : ∀ b o, h2.get? b = some o → (h2.push (kxs_mw "ValueError.__init__" x)).get? b = some o := fun b o e => Heap.get?_push_of_some _ e
  have hu3 : (h2.push (kxs_mw "ValueError.__init__" x)).get? h2.objs.size = some (kxs_mw "ValueError.__init__" x) := Heap.get?_push_at rfl rfl
  refine kxs_callWith (i := "ValueError.__init__") (x := x) (by first | rfl | decide) ?_
  rw [show backTo q4 (starEach [Expr.Constant (Const.str "alldue") 0 q3] (callEnv (ksFn "__init__" "DayError.__init__" (iP p1 p2) (iB q0 q1 q2 q3 q4 q5 q6 q7 q8 q9) iS .none .none doc pm an (.ref cda) ct cc) hh.objs.size fI)) =
    [(false, eval (Expr.Constant (Const.str "alldue") 0 q3) (callEnv (ksFn "__init__" "DayError.__init__" (iP p1 p2) (iB q0 q1 q2 q3 q4 q5 q6 q7 q8 q9) iS .none .none doc pm an (.ref cda) ct cc) hh.objs.size fI))] from rfl]
  refine evalArgs_plain (spliced_cons (wpAny_Constant_str (wpAny_pure ⟨hu3, ?_⟩)))
  refine day_wrap (X2.keeps k3 _ _ hC) (k3 _ _ hx2) hu3 (one_size _) fun h4 t1 k4 hx4 => ?_
  -- self.value = value
  have keep4 : ∀ b o, b ≠ x → hh.get? b = some o → h4.get? b = some o := fun b o n e => k4 b o n (k3 _ _ (kk _ _ (k b o e)))
  have X4 : K.In h4 := kept_but X hnx keep4
  have hns4 : h4.Ns hh.objs.size (fun y => [(("self" : Str), Value.ref x), (("value" : Str), v)].reverse.lookup y) := by
    obtain ⟨oL, es, ep, hL, r⟩ := hns
    exact ⟨oL, es, ep, k4 _ _ hxL (k3 _ _ (kk _ _ hL)), r⟩
  refine wpAt_of_wpAny (wpAny_execs_cons (plainObj_wpAny_Assign_Attribute ?_))
  refine wpAny_Name (wpAny_loadName_local (v := v) rfl rfl hns4 (by first | rfl | with_unfolding_all rfl | kernel_rfl) ?_)
  refine wpAny_Name (wpAny_loadName_local (v := .ref x) rfl rfl hns4 (by first | rfl | with_unfolding_all rfl | kernel_rfl) ?_)
  refine set_plain X4 (ox := excO C t1) (od := none) ⟨hx4, rfl, rfl, trivial⟩ T.sa ?_
  refine exc_osa X4 hx4 hcl (show refsVE (.ref C :: bm) = true from hbm) rfl T.noN (fun h5 tk5 dx k5 dn dne hx5 hn5 => ?_)
  show wpAny _ _ (execs _ _) _ _ _
  have z4 : hh.objs.size < h4.objs.size := hns4.lt
  exact wpAny_execs_nil (hq h5 tk5 dx ⟨fun b o n e => k5 b o n (keep4 b o n e), ⟨_, hx5⟩, Nat.le_of_lt (Nat.lt_of_lt_of_le z4 dn), dne, hn5⟩)
theorem day_made (T : Txt prog K mg C D fI) {v : Value} (X : K.In s.heap) (hlim : s.heap.NoLimit) (hg : s.heap.Ns mainGlobals mg) (hb : s.heap.Ns builtinsNs mb) (hmb : mb "super" = some (.type "super")) (hroom : A.depth + 1 < recursionLimit)
    (hq : ∀ h' tk e d, OwnMade s.heap h' e C d v → R (.ok (.ret (.ref e))) { s with heap := h', toks := tk }) :
    codeAny (model prog w) A (.call (.ref C) ⟨[v], []⟩) R s := by
  obtain ⟨nm, q, N, bs, bm, sn, sub, ab, col, dd, k0, k1, k2, k3, k5, hC, hbm⟩ := T.cls
  obtain ⟨hp, g, dr, tk, os⟩ := s
  have k : ∀ b o, hp.get? b = some o → ((hp.push (kdv_tup [v])).push (excO C hp.objs.size)).get? b = some o := fun b o e => Heap.get?_push_of_some _ (Heap.get?_push_of_some _ e)
  have hget : ((hp.push (kdv_tup [v])).push (excO C hp.objs.size)).get? (hp.objs.size + 1) = some (excO C hp.objs.size) := by heap_get
  have hnx : K.lookup (hp.objs.size + 1) = none := by
    cases e : K.lookup (hp.objs.size + 1) with
    | none => rfl
    | some o =>
      have z : hp.get? (hp.objs.size + 1) = some o := X _ _ e
      exact absurd (Nat.lt_of_succ_lt (Heap.lt_size z)) (Nat.lt_irrefl _)
  refine call_own F.excBase_ValueError (fun X => refsVE_contains X bm hbm) (X _ _ hC) (looks_findIn X T.iC) (fun self => bind_fn X self T.tC) (one_size v) ?_
  refine day_init (s := ⟨(hp.push (kdv_tup [v])).push (excO C hp.objs.size), g, dr, tk, os⟩) T (X.keeps k) (hlim.keeps k) (hg.keeps k) (hb.keeps k) hmb hget hnx ?_ fun h' tk' dx ⟨k', ⟨t1, hx⟩, dn, dne, hns⟩ => ?_
  · show A.depth + 1 < recursionLimit
    exact hroom
  · have old : ∀ b o, hp.get? b = some o → h'.get? b = some o := fun b o e => k' b o (Nat.ne_of_lt (Nat.lt_succ_of_lt (Heap.lt_size e))) (k b o e)
    have z : hp.objs.size + 1 + 1 ≤ dx := by
      first
        | (simpa only [Heap.size_push] using dn)
        | exact dn
        | (have q := dn; rw [Heap.size_push, Heap.size_push] at q; exact q)
    exact ⟨rfl, hq h' tk' (hp.objs.size + 1) dx ⟨old, Nat.le_succ _, ⟨_, _, hx, rfl, rfl, rfl, rfl⟩, Nat.le_trans (Nat.le_trans (Nat.le_succ _) (Nat.le_succ _)) z, dne, hns⟩⟩
end
end DayX
end PySem

end
set_option maxHeartbeats 2000000
section
namespace L2
open PySem PySem.Spec PyProof.Rows
theorem relO_value {v : V} {v' : Value} (r : RelV v v') (f : Str) : RelO (List.lookup f [(("value" : Str), v)]) (if f = "value" then some v' else none) := by
  by_cases hw : f = "value"
  · subst hw
    rw [if_pos rfl]
    have q : List.lookup ("value" : Str) [(("value" : Str), v)] = some v := by simp [List.lookup]
    rw [q]
    exact r
  · rw [if_neg hw]
    have qw : (f == ("value" : Str)) = false := by simpa using hw
    have q2 : List.lookup f [(("value" : Str), v)] = none := by simp [List.lookup, qw]
    rw [q2]
    trivial
section
variable {X : Cx} {C D fI : Addr}
/-- C(e) -/
def tMkDay (C : Addr) (ta : TA) : St → Hp → XK → Prop := fun σ H Q => ta σ H fun vs H1 => ∃ v, vs = [v] ∧ ∀ d, H1 d = none → Q (.ref C) (some d) (upd H1 d (.xd [(("value" : Str), v)]))
theorem pmk_day {x : Str} {a : Expr} {ta : TA} {p pos : Pos} {k : Nat} (T : PySem.DayX.Txt X.prog X.K X.mg C D fI) (gC : X.mg x = some (.ref C)) (hr : Room k X.A) (ha : PA X [a] ta) (hg : Gl X x) (hdb : (x == ("__debug__" : Str)) = false := by decide)
    (he : starEach (a :: []) X.env = (false, eval a X.env) :: starEach [] X.env := by rfl) (hpl : (backTo pos (starEach [] X.env)).any (·.1) = false := by rfl) :
    PMk X (.Call (.Name x p) [a] [] pos) (tMkDay C ta) := by
  intro pins s σ H Q I h
  refine wpAny_Call_Name_kw (ld_glob I hg gC ?_ hdb)
  refine PySem.W.callWith_K (h₀ := X.base) I.ok.mod.kin T.kC (thn (ha.run pos pins s σ H _ I h) fun us s1 hh => ?_) he hpl
  obtain ⟨vs, H1, I1, r1, v, ev, q1⟩ := hh
  subst ev
  refine ⟨I1.kIn, ?_⟩
  cases r1 with
  | cons rv rn =>
    rename_i v' us'
    cases rn
    show wpAny _ _ (call (.ref C) [v']) _ _ _
    have hlim := I1.nolimit
    obtain ⟨mb, hb1, hb2⟩ := I1.ok.mod.blt
    have hgl := I1.ok.mod.glob.keeps I1.bk
    have hbl := hb1.keeps I1.bk
    obtain ⟨hp, g, dr, tk, os⟩ := s1
    refine wpAny_call (PySem.DayX.day_made T I1.kIn hlim hgl hbl ((hb2 _ (by decide)).trans (by first | rfl | kernel_rfl)) (by have := hr.dp; omega) fun h' tk' e d M => ?_)
    show MkP X pins σ Q (.ref e) ⟨h', g, dr, tk', os⟩
    obtain ⟨oe, fv, hoe, hc, hd, hdat, h1⟩ := M.obj
    have hns := M.ns
    obtain ⟨G', g1, g2⟩ := restrict h' fun b => decide (b ≠ e)
    have gk : ∀ b, b ≠ e → G'.get? b = h'.get? b := fun b hb => g1 b (decide_eq_true hb)
    have ge : G'.get? e = none := g2 e (by simp)
    have old : ∀ b o, hp.get? b = some o → G'.get? b = some o := fun b o q => (gk b (Nat.ne_of_lt (Nat.lt_of_lt_of_le (Heap.lt_size q) M.new))).trans (M.keep b o q)
    have ob : ObjOk X.prog X.w (upd H1 d (.xd [(("value" : Str), v)])) G' d (.xd [(("value" : Str), v)]) :=
      ⟨_, hns.at (fun o q => (gk d M.dne).trans q), fun f => relO_value rv f⟩
    have J : Inv X pins σ (upd H1 d (.xd [(("value" : Str), v)])) ⟨G', g, dr, tk', os⟩ := I1.laid (t' := tk') old M.dbig ob
    refine ⟨e, oe, fv, ⟨G', g, dr, tk', os⟩, _, .ref C, some d, rfl, J, fun b o q => ?_, ge, hoe, ⟨hc, hd⟩, hdat, h1, ?_, rfl, I1.bare, raises_own T.exC T.tyC, q1 d (I1.hok.fresh M.dbig)⟩
    · by_cases hb : b = e
      · have q' : G'.get? b = some o := q
        rw [hb, ge] at q'; cases q'
      · exact (gk b hb).symm.trans q
    · rw [upd_ne (Ne.symm M.dne)]
      exact I1.hok.fresh M.new
/-- raise C(e) -/
def tRaiseDay (C : Addr) (W : WX) (ta : TA) : TS := fun _ σ H => tMkDay C ta σ H fun cls d H' => W cls d σ H'
theorem ps_raiseDay {x : Str} {a : Expr} {ta : TA} {W : WX} {p pos pos2 : Pos} {k : Nat} (hc : X.calm = true) (T : PySem.DayX.Txt X.prog X.K X.mg C D fI) (gC : X.mg x = some (.ref C)) (hr : Room k X.A) (tk : Takes X W) (ha : PA X [a] ta) (hg : Gl X x) (hdb : (x == ("__debug__" : Str)) = false := by decide)
    (he : starEach (a :: []) X.env = (false, eval a X.env) :: starEach [] X.env := by rfl) (hpl : (backTo pos (starEach [] X.env)).any (·.1) = false := by rfl) :
    PS X (.Raise (some (.Call (.Name x p) [a] [] pos)) none pos2) (tRaiseDay C W ta) := ps_raise hc tk (pmk_day T gC hr ha hg hdb he hpl)
end

/-! ### a caught exception, tracked -/
/-- what is true of an exception object -/
def ExV (cls : Value) (d : Option Addr) (a : Addr) (h : Heap) : Prop := ∃ oe vs, h.get? a = some oe ∧ oe.cls = cls ∧ oe.dict = d ∧ oe.data = .fields vs
theorem exV_ok {P : Program} {w : World} {H : Hp} {h : Heap} {a : Addr} {cls : Value} {d : Option Addr} {oe : Obj} {vs : Array Value} (e : h.get? a = some oe) (z : Zc cls d oe) (hd : oe.data = .fields vs) : ObjOk P w H h a (.ext (ExV cls d a)) :=
  ⟨⟨oe, vs, e, z.1, z.2, hd⟩, ⟨oe, e⟩, fun _ _ ⟨o, v, q, r⟩ k => ⟨o, v, k o q, r⟩⟩
section
variable {X : Cx} {pins : List (Addr × Obj)} {σ : St} {H : Hp} {s : Shared}
theorem Inv.track {a : Addr} {o : HO} (I : Inv X pins σ H s) (n0 : X.s_0.heap.get? a = none) (na : H a = none) (nL : a ≠ X.env.locals) (nC : ∀ x c, X.env.cells.lookup x = some c → c ≠ a) (nP : ∀ p ∈ X.pn ++ pins, p.1 ≠ a)
    (new : ObjOk X.prog X.w (upd H a o) s.heap a o) : Inv X pins σ (upd H a o) s where
  ok := I.ok
  os := I.os
  bare := I.bare
  base := {
    keep := I.base.keep
    slot := I.base.slot
    free := fun b u q n hx => by
      rw [upd_ne (fun z => by subst z; rw [n0] at q; cases q)]
      exact I.base.free b u q n hx
    there := I.base.there
    tups := fun b xs q => by rw [upd_ne (ne_of_none (I.base.tups b xs q) na)]; exact I.base.tups b xs q
    frzs := fun b u v q => by rw [upd_ne (ne_of_none (I.base.frzs b u v q) na)]; exact I.base.frzs b u v q
    tbls := fun b ps q => by
      obtain ⟨m, z⟩ := I.base.tbls b ps q
      exact ⟨m, by rw [upd_ne (ne_of_none z na)]; exact z⟩ }
  loc := I.loc
  cell := I.cell
  free := by rw [upd_ne (Ne.symm nL)]; exact I.free
  freeC := fun x c e => by rw [upd_ne (nC x c e)]; exact I.freeC x c e
  pin := fun p hp => by
    obtain ⟨h1, h2, h3⟩ := I.pin p hp
    exact ⟨h1, by rw [upd_ne (nP p hp)]; exact h2, h3⟩
  hok := I.hok.laidN (fun _ _ q => q) na new
  len := I.len
/-- into the suite, the exception tracked -/
theorem Inv.suiteT {a : Addr} (I : Inv X pins σ H s) : Inv (X.suite a (X.pn ++ pins)) [] σ H s :=
  ⟨I.ok.suite _ _, I.os, I.bare, I.base, I.loc, I.cell, I.free, I.freeC, fun p hp => I.pin p (by rw [List.append_nil] at hp; exact hp), I.hok, I.len⟩
theorem Inv.unsuiteT {a : Addr} {pn' : List (Addr × Obj)} (I : Inv (X.suite a (X.pn ++ pins)) pn' σ H s) (ok : X.Ok) : Inv X pins σ H s :=
  ⟨ok, I.os, I.bare, I.base, I.loc, I.cell, I.free, I.freeC, fun p hp => I.pin p (List.mem_append_left _ hp), I.hok, I.len⟩
end
abbrev TB := List (Addr × Obj) → (Value → Shared → Prop) → TS
/-- what the clause 'except x as n' wishes of an exception of the body: slot i is n's -/
def wTrk (K : PySem.W.Frag) (c : Value) (i : Nat) (ts : Addr → List (Addr × Obj) → TS) (Wout : WX) (D : Ends) : WX := fun cls d σ H =>
  ∃ b, PySem.W.exmOne K cls c = some b ∧ (b = true → ∀ a pn, H a = none → ts a pn { nx := fun σ' H' => D.nx (σ'.set i none) H', rt := D.rt, bk := fun σ' H' => D.bk (σ'.set i none) H', ct := fun σ' H' => D.ct (σ'.set i none) H' } (σ.set i (some (.ref a))) (upd H a (.ext (ExV cls d a)))) ∧
    (b = false → Wout cls d σ H)
section
variable {X : Cx} {x n : Str} {c : Value} {i : Nat} {body suite : List Stmt} {b₀ : Stmt} {np pos pos' : Pos} {tb : WX → TB} {ts : Addr → List (Addr × Obj) → TS} {Wout : WX}
theorem ps_try_trk (hex : X.ex = []) (hs : X.stack = X.env :: X.outer) (hf : X.env.frame = some X.env.locals) (hN : X.N.Nodup) (hi : X.N[i]? = some n) (hln : X.env.kindOf n = some .local) (hc : Names X x c) (tk : Takes X Wout)
    (hb : ∀ (W : WX) (pn : List (Addr × Obj)) (xe : Value → Shared → Prop), Takes (X.tr pn xe) W → PassesOwn (model X.prog X.w) X.A X.env xe → PSs (X.tr pn xe) body (tb W pn xe))
    (hsu : ∀ (a : Addr) (pn : List (Addr × Obj)), PSs (X.suite a pn) (b₀ :: suite) (ts a pn)) :
    PS X (.Try body [.ExceptHandler (some (.Name x np)) (some n) (b₀ :: suite) pos'] [] [] pos)
      (fun D σ H => ∀ pn xe, Takes (X.tr pn xe) (wTrk X.K c i ts Wout D) → PassesOwn (model X.prog X.w) X.A X.env xe → tb (wTrk X.K c i ts Wout D) pn xe D σ H) := by
  refine ⟨fun pins s σ H D I h => ?_⟩
  have ok := I.ok
  have hfr : X.A.frames = some (X.env :: X.outer) := by rw [ok.frames, hs]
  have hloc : Loc X.env.scope n := .inl hln
  have TK : Takes (X.tr (X.pn ++ pins) (fun e s₁ => wpAny (model X.prog X.w) X.A (noteFrame e X.env) (fun _ s₂ => wpAny (model X.prog X.w) X.A (setFlight e none) (fun _ s₃ =>
    wpAny (model X.prog X.w) X.A (handleBy e X.env [.ExceptHandler (some (.Name x np)) (some n) (b₀ :: suite) pos']) (SP X pins D) X.xe s₃) X.xe s₂) X.xe s₁)) (wTrk X.K c i ts Wout D) := fun u s' xx => by
    -- the catch
    obtain ⟨a, B, sI, pins', σ', H', cls, d, rfl, J', nb, up, sky, na, os, ag, b, hb1, hyes, hno⟩ := xx
    have J : Inv X pins σ' H' sI := J'.ofTry ok
    have sky' : Sky B (X.env :: X.outer) a (Zc cls d) X.env.locals s'.heap := by rw [← hs]; exact sky
    show wpAny (model X.prog X.w) X.A (noteFrame (.ref a) X.env) _ _ _
    refine Sky.land Zc.steady hfr hf sky' fun h3 fl3 up3 => ?_
    have J3 : Inv X pins σ' H' { s' with heap := h3 } := J.landed nb fl3.1 (up.trans up3) os ag
    obtain ⟨oe3, vs3, he3, hz3, hd3⟩ := fl3.there
    have notFr : ∀ {h : Heap} {o : Obj} {vs : Array Value}, h.FunFrames B (X.env :: X.outer) → h.get? a = some o → o.data = .fields vs → a ∉ frs (X.env :: X.outer) := fun {h o vs} ff e dd hm => by
      obtain ⟨_, o', e', hnf⟩ := ff.mem hm
      rw [e] at e'; cases e'
      exact hnf _ dd
    have nfr := notFr fl3.2.2.1 he3 hd3
    have nL : a ≠ X.env.locals := fun z => nfr (List.mem_filterMap.mpr ⟨X.env, List.mem_cons_self, by rw [hf, z]⟩)
    have nF : a ∉ X.fs := fun hm => by
      obtain ⟨e, he, q⟩ := List.mem_filterMap.mp hm
      exact nfr (List.mem_filterMap.mpr ⟨e, List.mem_cons_of_mem _ he, q⟩)
    have nI : sI.heap.get? a = none := by
      cases q : sI.heap.get? a with
      | none => rfl
      | some o =>
        have z := nb a o q (by show a ∉ frs X.stack; rw [hs]; exact nfr)
        rw [fl3.2.1] at z
        cases z
    have n0 : X.s_0.heap.get? a = none := by
      cases q : X.s_0.heap.get? a with
      | none => rfl
      | some o =>
        obtain ⟨o', z⟩ := J.base.there a o q (by rw [hex]; exact fun z => nomatch z)
        rw [nI] at z
        cases z
    have nP : ∀ p ∈ X.pn ++ pins, p.1 ≠ a := fun p hp z => by
      have w := (J.pin p hp).1
      rw [z, nI] at w
      cases w
    have S3 := J3.suite he3 hd3 na nL nF
    refine wpAny_handleBy_cons (codeAny_handlers_test ?_) (by intro q; cases q)
    have LT : PySem.W.Looks (model X.prog X.w) h3 (typeOf (.ref a)) cls := fun A Q E s k q => wpAny_typeOf_ref (k _ _ he3) (by rw [hz3.1]; exact q)
    have LM := PySem.W.exm_one (M := model X.prog X.w) (J3.kIn) LT hb1
    have test : ∀ {Q : Value → Shared → Prop} {E : Value → Shared → Prop}, Q c { s' with heap := h3 } → wpAny (model X.prog X.w) (X.A.mark (some (.ref a))) (eval (.Name x np) X.env) Q E { s' with heap := h3 } := fun {Q E} q => by
      obtain ⟨hg, hdbg, hm | ⟨hm, hv, hnn⟩⟩ := hc
      · exact ld_glob (X := X.suite a ((a, oe3) :: (X.pn ++ pins))) S3 hg hm q hdbg
      · exact ld_blt (X := X.suite a ((a, oe3) :: (X.pn ++ pins))) S3 hg hm hv q hnn hdbg
    refine test (LM.here ?_)
    cases b with
    | true =>
      refine codeAny_handlers_suite_as ?_
      refine HandSPX.lands_againZ fl3 fun h4 fl4 up4 => ?_
      have J4 : Inv X pins σ' H' { s' with heap := h4 } := J.landed nb fl4.1 ((up.trans up3).trans up4) os ag
      obtain ⟨oe4, vs4, he4, hz4, hd4⟩ := fl4.there
      have nC : ∀ x c, X.env.cells.lookup x = some c → c ≠ a := fun x c e z => by
        obtain ⟨v, o, q, w⟩ := J4.cell x c e
        rw [z] at q
        have q' : h4.get? a = some o := q
        rw [he4] at q'
        cases q'
        rw [hd4] at w
        cases w
      have S4 := (J4.track (o := .ext (ExV cls d a)) n0 na nL nC nP (exV_ok he4 hz4 hd4)).suiteT (a := a)
      refine store_ok (X := X.suite a (X.pn ++ pins)) (v := .ref a) S4 hN hi hloc rfl (fun s5 S5 => ?_) (.inr hln)
      refine wpAny_mono ((hsu a (X.pn ++ pins)).run [] s5 _ _ _ S5 (hyes rfl a (X.pn ++ pins) na)) (fun f s6 hsp => ?_) (fun _ _ z => False.elim z)
      have end_ : ∀ {σ6 : St} {H6 : Hp} {Q : Shared → Prop}, Inv (X.suite a (X.pn ++ pins)) [] σ6 H6 s6 → (∀ s7, Inv X pins (σ6.set i none) H6 s7 → Q s7) →
          wpAny (model X.prog X.w) X.A (do bindName X.env n .none; unbindBehindTheSuite X.env n pos') (fun _ s7 => Q s7) X.xe s6 := fun {σ6 H6 Q} S6 hq => gone_ok (S6.unsuiteT ok) hN hi hln hq
      cases f with
      | next =>
        obtain ⟨σ6, H6, S6, q6⟩ := hsp
        exact end_ S6 fun s7 J7 => ⟨_, _, J7, q6⟩
      | brk =>
        obtain ⟨σ6, H6, S6, q6⟩ := hsp
        exact end_ S6 fun s7 J7 => ⟨_, _, J7, q6⟩
      | cont =>
        obtain ⟨σ6, H6, S6, q6⟩ := hsp
        exact end_ S6 fun s7 J7 => ⟨_, _, J7, q6⟩
      | ret u =>
        obtain ⟨v6, σ6, H6, S6, r6, q6⟩ := hsp
        exact end_ S6 fun s7 J7 => ⟨_, _, _, J7, r6, q6⟩
    | false =>
      show wpAny _ X.A (handleBy (.ref a) X.env []) _ _ _
      refine wpAny_handleBy_nil ?_
      obtain ⟨k1, k2, k3, oe, vs, T, oT, ts', he, hz, hd, h1, hr⟩ := id fl3
      unfold PySem.passOn
      refine wpAny_bind (wpAny_field he hd h1 ?_)
      rw [if_neg (show ¬ ((Value.ref T == Value.none) = true) from by simp)]
      have fin : wpAny (model X.prog X.w) X.A (setFlight (.ref a) X.env.frame) (fun _ s4 => wpAny (model X.prog X.w) X.A (throw (.ref a) : Sem Flow) (SP X pins D) X.xe s4) X.xe { s' with heap := h3 } := by
        rw [hf]
        refine HandSPX.setFlight_upZ fl3 fun h4 hh4 up4 => wpAny_throw (tk _ _ ?_)
        exact ⟨a, B, sI, pins, σ', H', cls, d, rfl, J, nb, (up.trans up3).trans up4, .inr (.inr (by rw [hs]; exact hh4)), na, os, ag, hno rfl⟩
      first
        | exact wpAny_bind (wpAny_pure (wpAny_bind fin))
        | exact wpAny_bind fin
  refine wpAny_Try_except ?_
  refine wpAny_mono ((hb (wTrk X.K c i ts Wout D) (X.pn ++ pins) (fun e s₁ => wpAny (model X.prog X.w) X.A (noteFrame e X.env) (fun _ s₂ => wpAny (model X.prog X.w) X.A (setFlight e none) (fun _ s₃ =>
    wpAny (model X.prog X.w) X.A (handleBy e X.env [.ExceptHandler (some (.Name x np)) (some n) (b₀ :: suite) pos']) (SP X pins D) X.xe s₃) X.xe s₂) X.xe s₁) TK PassesOwn.looking).run [] s σ H D (I.toTry _) (h _ _ TK PassesOwn.looking)) (fun f s1 hsp => ?_) (fun e s1 he => he)
  · cases f with
    | next =>
      obtain ⟨σ', H', J', q⟩ := hsp
      exact wpAny_execs_nil ⟨σ', H', J'.ofTry ok, q⟩
    | brk =>
      obtain ⟨σ', H', J', q⟩ := hsp
      exact ⟨σ', H', J'.ofTry ok, q⟩
    | cont =>
      obtain ⟨σ', H', J', q⟩ := hsp
      exact ⟨σ', H', J'.ofTry ok, q⟩
    | ret u =>
      obtain ⟨v, σ', H', J', r, q⟩ := hsp
      exact ⟨v, σ', H', J'.ofTry ok, r, q⟩
end
end L2

namespace DL
open PySem PySem.Spec L2
section
variable {X : Cx} {W : WX} {x n : Str} {a : Expr} {m : M D} {p pos pos2 : Pos} {k : Nat} {C : Str} {Cd fI : Addr}
/-- raise C(e) -/
def sRaise (C : Str) (m : M D) : M Fl := fun ρ => (m ρ).bind fun d ρ1 => .exc C d ρ1
theorem ds_raise (hc : X.calm = true) (T : PySem.DayX.Txt X.prog X.K X.mg (He.ga X.K C) Cd fI) (gC : X.mg C = some (.ref (He.ga X.K C))) (hr : Room k X.A) (tk : Takes X W) (ha : DV X W a m) (hg : Gl X C) (hdb : (C == ("__debug__" : Str)) = false := by decide)
    (hst : starEach (a :: []) X.env = (false, eval a X.env) :: starEach [] X.env := by rfl) (hpl : (backTo pos (starEach [] X.env)).any (·.1) = false := by rfl) :
    DS X W (.Raise (some (.Call (.Name C p) [a] [] pos)) none pos2) (sRaise C m) := by
  obtain ⟨t, pe, kk⟩ := ha.run
  refine ⟨_, ps_raiseDay hc T gC hr tk (pa_cons pe pa_nil hst) hg hdb hst hpl, fun c F H σ ρ Dn S q => ?_⟩
  refine kk c F H σ ρ _ S ((PostS.bind q).imp fun F1 H1 ρ1 d1 e1 S1 q1 v r => ?_)
  refine ⟨v, rfl, fun d hd => ?_⟩
  have hF := S1.freshF hd
  exact q1 d v _ _ σ (same_new hF) (S1.alloc hd) upd_same (r.mono (same_new hF))
/-- a slot emptied -/
theorem SR.unset {K : PySem.W.Frag} {c : Ct} {F H : Hp} {σ : St} {ρ : Rho} (S : SR K c F H σ ρ) (i : Nat) : SR K c F H (σ.set i none) (ρ.set i .no) where
  fh := S.fh
  ef := S.ef
  eh := S.eh
  nf := S.nf
  ioh := S.ioh
  vl := fun j e q => by
    by_cases z : i = j
    · subst z
      by_cases hi : i < ρ.length
      · rw [List.getElem?_set_self hi] at q; cases q
      · rw [List.getElem?_eq_none (by simpa using hi)] at q; cases q
    · rw [List.getElem?_set_ne z] at q
      rw [List.getElem?_set_ne z]
      exact S.vl j e q
  ow := fun j s ds q m => by
    by_cases z : i = j
    · subst z
      by_cases hi : i < ρ.length
      · rw [List.getElem?_set_self hi] at q; cases q; cases m
      · rw [List.getElem?_eq_none (by simpa using hi)] at q; cases q
    · rw [List.getElem?_set_ne z] at q
      rw [List.getElem?_set_ne z]
      exact S.ow j s ds q m
  ne := fun j k s t ds es p n e1 m1 e2 m2 => by
    have own : ∀ (j : Nat) (s : Sl) (ds : List D), (ρ.set i .no)[j]? = some s → s.mut = some ds → i ≠ j ∧ ρ[j]? = some s := fun j s ds e m => by
      by_cases z : i = j
      · subst z
        by_cases hi : i < ρ.length
        · rw [List.getElem?_set_self hi] at e; cases e; cases m
        · rw [List.getElem?_eq_none (by simpa using hi)] at e; cases e
      · rw [List.getElem?_set_ne z] at e; exact ⟨z, e⟩
    obtain ⟨z1, q1⟩ := own j s ds e1 m1
    obtain ⟨z2, q2⟩ := own k t es e2 m2
    rw [List.getElem?_set_ne z1, List.getElem?_set_ne z2]
    exact S.ne j k s t ds es p n q1 m1 q2 m2
  len := by simp [S.len]
/-- try: body / except x as n: suite -/
def sTry (t : Str → Option Bool) (i : Nat) (body suite : M Fl) : M Fl := fun ρ => match body ρ with
  | .exc C x ρ1 => match t C with
    | some true => match suite (ρ1.set i (.val (.exc C x))) with
      | .ok (.ret s) ρ2 => .ok (.ret s) ρ2
      | .ok fl ρ2 => .ok fl (ρ2.set i .no)
      | _ => .bad
    | some false => .exc C x ρ1
    | none => .bad
  | r => r
theorem ds_try {t : Str → Option Bool} {i : Nat} {body suite : List Stmt} {b₀ : Stmt} {mb ms : M Fl} {cv : Value} {np pos' : Pos} (hex : X.ex = []) (hs : X.stack = X.env :: X.outer) (hf : X.env.frame = some X.env.locals) (hN : X.N.Nodup) (hi : X.N[i]? = some n) (hln : X.env.kindOf n = some .local) (hc : Names X x cv) (tk : Takes X W)
    (ht : ∀ C b, t C = some b → PySem.W.exmOne X.K (.ref (He.ga X.K C)) cv = some b)
    (hb : ∀ (W' : WX) (pn : List (Addr × Obj)) (xe : Value → Shared → Prop), Takes (X.tr pn xe) W' → PassesOwn (model X.prog X.w) X.A X.env xe → DSs (X.tr pn xe) W' body mb)
    (hsu : ∀ (a : Addr) (pn : List (Addr × Obj)), DSs (X.suite a pn) (fun _ _ _ _ => False) (b₀ :: suite) ms) :
    DS X W (.Try body [.ExceptHandler (some (.Name x np)) (some n) (b₀ :: suite) pos'] [] [] pos) (sTry t i mb ms) := by
  classical
  let tb : WX → TB := fun W' pn xe => if h : Takes (X.tr pn xe) W' ∧ PassesOwn (model X.prog X.w) X.A X.env xe then Classical.choose (hb W' pn xe h.1 h.2).run else fun _ _ _ => False
  let ts : Addr → List (Addr × Obj) → TS := fun a pn => Classical.choose (hsu a pn).run
  refine ⟨_, ps_try_trk (tb := tb) (ts := ts) hex hs hf hN hi hln hc tk (fun W' pn xe h1 h2 => ?_) (fun a pn => (Classical.choose_spec (hsu a pn).run).1), fun c F H σ ρ Dn S q pn xe h1 h2 => ?_⟩
  · show PSs _ _ (tb W' pn xe)
    have e : tb W' pn xe = Classical.choose (hb W' pn xe h1 h2).run := dif_pos ⟨h1, h2⟩
    rw [e]
    exact (Classical.choose_spec (hb W' pn xe h1 h2).run).1
  · have e : tb (wTrk X.K cv i ts W Dn) pn xe = Classical.choose (hb _ pn xe h1 h2).run := dif_pos ⟨h1, h2⟩
    rw [e]
    refine (Classical.choose_spec (hb _ pn xe h1 h2).run).2 c F H σ ρ Dn S ?_
    unfold sTry at q
    cases z : mb ρ with
    | ok fl ρ1 => rw [z] at q; exact q
    | bad => rw [z] at q; exact q
    | exc C y ρ1 =>
      rw [z] at q
      intro d v F1 H1 σ1 e1 S1 hd hv
      cases zt : t C with
      | none => simp only [zt] at q; exact q.elim
      | some b =>
        simp only [zt] at q
        refine ⟨b, ht C b zt, fun eb a pn2 ha => ?_, fun eb => ?_⟩
        · subst eb
          have hF := S1.freshF ha
          have hda : d ≠ a := fun z => by rw [z, hF] at hd; cases hd
          have S2 := S1.alloc (o := .ext (ExV (.ref (He.ga X.K C)) (some d) a)) ha
          have IsE : Is X.K (upd F1 a (.ext (ExV (.ref (He.ga X.K C)) (some d) a))) (.ref a) (.exc C y) :=
            .exc upd_same (by rw [upd_ne hda]; exact hd) (hv.mono (same_new hF))
          refine (Classical.choose_spec (hsu a pn2).run).2 c _ _ _ _ _ (S2.store (i := i) IsE) ?_
          dsimp only at q
          have e2 : Same F (upd F1 a (.ext (ExV (.ref (He.ga X.K C)) (some d) a))) := e1.trans (same_new hF)
          cases zs : ms (ρ1.set i (.val (.exc C y))) with
          | bad => rw [zs] at q; exact q.elim
          | exc C' y' ρ2 => rw [zs] at q; exact q.elim
          | ok fl ρ2 =>
            rw [zs] at q
            cases fl with
            | ret s => exact fun F' H' σ' e' S' => q F' H' σ' (e2.trans e') S'
            | next => exact fun F' H' σ' e' S' => q F' H' (σ'.set i none) (e2.trans e') (S'.unset i)
            | brk => exact fun F' H' σ' e' S' => q F' H' (σ'.set i none) (e2.trans e') (S'.unset i)
            | cont => exact fun F' H' σ' e' S' => q F' H' (σ'.set i none) (e2.trans e') (S'.unset i)
        · subst eb
          exact q d v F1 H1 σ1 e1 S1 hd hv
end
end DL

end
section
namespace L2
open PySem PySem.Spec PyProof.Rows
section
variable {X : Cx} {C : Addr} {σ : St} {H : Hp} {s : Shared} {pins : List (Addr × Obj)}
theorem exV_at {a d : Addr} {v : V} {f : Str} (I : Inv X pins σ H s) (ha : H a = some (.ext (ExV (.ref C) (some d) a))) (hd : H d = some (.xd [(f, v)])) :
    ∃ (oe od : Obj) (mA : Str → Option Value), PySem.W.InstAt s.heap a oe C (some od) ∧ (∀ name, PySem.W.lookIn name od = some (mA name)) ∧ ∀ g, RelO (List.lookup g [(f, v)]) (mA g) := by
  have x1 : ObjOk X.prog X.w H s.heap a (.ext (ExV (.ref C) (some d) a)) := I.hok a _ ha
  obtain ⟨⟨oe, vs, e1, e2, e3, e4⟩, _, _⟩ := x1
  have x2 : ObjOk X.prog X.w H s.heap d (.xd [(f, v)]) := I.hok d _ hd
  obtain ⟨mA, hns, hr⟩ := x2
  obtain ⟨od, ho, hl⟩ := lookIn_ns hns
  exact ⟨oe, od, mA, ⟨e1, e2, by unfold PySem.W.notCls; rw [e4] <;> rfl, by rw [e3]; exact ho⟩, hl, hr⟩
/-- e.value -/
def tValue (X : Cx) (te : TE) : TE := fun σ H Q => te σ H fun x H1 => ∃ (a d C D fI : Addr) (v : V), PySem.DayX.Txt X.prog X.K X.mg C D fI ∧ x = .ref a ∧ H1 a = some (.ext (ExV (.ref C) (some d) a)) ∧ H1 d = some (.xd [(("value" : Str), v)]) ∧ Q v H1
theorem pe_value {e : Expr} {te : TE} {pos : Pos} (he : PE X e te) (hb : attributeBase e "value" X.env (eval e X.env) = eval e X.env := by rfl) : PE X (.Attribute e "value" pos) (tValue X te) := by
  refine ⟨fun pins s σ H Q I h => ?_⟩
  refine attr_of hb (thn (he.run pins s σ H _ I h) fun u s1 hh => ?_)
  obtain ⟨x, H1, I1, rx, a, d, C, D, fI, v, T, ex, ea, ed, q⟩ := hh
  subst ex
  obtain rfl : u = Value.ref a := rx
  obtain ⟨oe, od, mA, J, hl, hr⟩ := exV_at I1 ea ed
  have l : List.lookup ("value" : Str) [(("value" : Str), v)] = some v := by simp [List.lookup]
  obtain ⟨u, hu, ru⟩ := RelO.some_of (v := v) (o := mA "value") (by rw [← l]; exact hr "value")
  exact HandSPX.exc_get I1.kIn J T.ga T.gg T.exC (PySem.W.findObj_own T.hdC T.noN rfl (by rw [hl, hu])) (handed_of ru) ⟨v, H1, I1.tok _, ru, q⟩
end
end L2
namespace PySem.W
open PySem PySem.Spec PySem.Calls PyProof.Rows
section
variable {prog : Program} {w : World} {A : Around} {E : Value → Shared → Prop} {s : Shared} {K : Frag} {x D : Addr} {ox od : Obj}
theorem dl_classE {Q : Option Value → Shared → Prop} (hga : findIn K (.ref D) "__getattribute__" = some (some (.builtin "BaseException.__getattribute__"))) (hgt : findIn K (.ref D) "__getattr__" = some none) (hsub : subIn K (.ref D) (.type "BaseException") = some true)
    (hdct : hasDictIn K D = true) (ha : findIn K (.ref D) "__class__" = some (some (.builtin "object.__class__")))
    (hn : specialIn K (.builtin "object.__class__") "__get__" = some (some (.builtin "getset_descriptor.__get__"))) (htk : takesIn K (.builtin "object.__class__") = some true) (hm : mroIn K D (.type "object") = some true)
    (X : K.In s.heap) (I : InstAt s.heap x ox D (some od)) (h : Q (some (.ref D)) { s with toks := s.toks + 1 }) : wpAny (model prog w) A (getAttr? (.ref x) "__class__") Q E s := by
  have hf : findObj K D (some od) "__class__" = some (.bind (.builtin "getset_descriptor.__get__") (.builtin "object.__class__")) := findObj_data (by obtain ⟨cd, hc, _⟩ := any_some hdct; rw [hc]; rfl) ha hn htk
  obtain ⟨hp, g, d, t, os⟩ := s
  have L0 := I.type (M := model prog w)
  have L1 := looks_findIn (M := model prog w) X hga
  have L2 := looks_findIn (M := model prog w) X hgt
  have L3 := looks_find (M := model prog w) X I hf
  have sub : Looks (model prog w) hp (isInstance (.ref x) (.type "BaseException")) true := L0.andThen (looks_subIn X hsub)
  have hx0 : (false && onTheHeap (Value.builtin "BaseException.__getattribute__")) = false := rfl
  have hx2 : (Value.builtin "BaseException.__getattribute__" == Value.builtin "object.__getattribute__") = false := by decide +kernel
  have hx1 : (onTheHeap (Value.ref D) && Value.builtin "BaseException.__getattribute__" == Value.builtin "object.__getattribute__") = false := by rw [hx2]; rfl
  unfold getAttr? getAttrBy? getAttrBy
  refine wpAny_bind (wpAny_mkText (wpAny_bind (wpAny_attempt (wpAny_holding (wpAny_bind (L0.at (wpAny_bind (L1.at ?_))))))))
  show wpAny _ _ (if (onTheHeap (Value.ref D) && Value.builtin "BaseException.__getattribute__" == Value.builtin "object.__getattribute__") = true then _ else _) _ _ _
  rw [hx1, if_neg Bool.false_ne_true]
  unfold getAttrByItsOwn hookBefore
  refine wpAny_bind ?_
  rw [if_pos (show onTheHeap (Value.ref D) = true from rfl)]
  refine L2.at ?_
  refine wpAny_bind (wpAny_attempt (wpAny_holding ?_))
  unfold callGetattribute
  rw [hx0, if_neg Bool.false_ne_true]
  unfold boundAndCalled
  rw [PySem.F.excAttr_ValueError.ga.bind (.ref x)]
  refine wpAny_bind (wpAny_pure ?_)
  show wpAny _ _ (call (.builtin "BaseException.__getattribute__") [.ref x, .str "__class__" t]) _ _ _
  refine wpAny_call (codeAny_call_builtin PySem.F.excAttr_ValueError.ga.plain PySem.F.entry_bexc_ga ?_)
  refine @check_slot (model prog w) _ _ ⟨hp, g, d, t + 1, os⟩ "BaseException.__getattribute__" "BaseException" "__getattribute__" (.ref x) [.str "__class__" t] [] _ (by decide +kernel) (by decide +kernel) sub (PySem.F.args_bexc_ga (.ref x) (.str "__class__" t)) ?_
  unfold Builtin.«object.__getattribute__»
  refine wpAny_bind (wpAny_of_eq (a := ((Value.ref x : Value), [Value.str "__class__" t])) (by first | rfl | (simp only [slotArgs]; rfl)) ?_)
  refine wpAny_bind (wpAny_pure (wpAny_bind (L0.at (wpAny_bind (L3.at ?_)))))
  show wpAny _ _ (holding [Value.builtin "object.__class__"] (call (.builtin "getset_descriptor.__get__") [.builtin "object.__class__", .ref x, .ref D]) >>= ret) _ _ _
  refine wpAny_bind (wpAny_holding (wpAny_call (class_get (s := ⟨hp, g, d, t + 1, os⟩) (ox := ox) (od := some od) X I hm ?_)))
  refine wpAny_pure ?_
  show wpAny _ _ (handedOut (.ref D)) _ _ _
  rw [handedOut_of (v := .ref D) rfl]
  first
    | exact wpAny_pure (wpAny_pure h)
    | exact wpAny_pure h
    | exact wpAny_pure (wpAny_bind (wpAny_pure (wpAny_pure h)))
theorem dl_kitE (hga : findIn K (.ref D) "__getattribute__" = some (some (.builtin "BaseException.__getattribute__"))) (hgt : findIn K (.ref D) "__getattr__" = some none) (hsub : subIn K (.ref D) (.type "BaseException") = some true) (hdct : hasDictIn K D = true) (ha : findIn K (.ref D) "__class__" = some (some (.builtin "object.__class__")))
    (hn : specialIn K (.builtin "object.__class__") "__get__" = some (some (.builtin "getset_descriptor.__get__"))) (htk : takesIn K (.builtin "object.__class__") = some true) (hm : mroIn K D (.type "object") = some true) :
    KitX K (.ref x) (.ref D) (fun h => ∃ ox od, InstAt h x ox D (some od)) where
  ty := fun _ _ _ ⟨_, _, I⟩ => I.type
  it := fun _ _ X _ => by
    obtain ⟨cdD, hcD, _⟩ := any_some hdct
    unfold clsIn at hcD
    split at hcD
    · rename_i c' d' cd' sl' ho
      intro A' Q' E' s' k q
      unfold isType loadHead
      exact wpAny_bind (wpAny_loadPart (k _ _ (X _ _ ho)) (wpAny_pure q))
    · cases hcD
  ne := fun h tp dd its n sl X htp => by
    obtain ⟨cdD, hcD, _⟩ := any_some hdct
    refine Bool.eq_false_iff.mpr fun q => ?_
    have e : D = tp := Value.ref.inj (beq_iff_eq.mp q)
    subst e
    unfold clsIn at hcD
    split at hcD
    · rename_i c' d' cd' sl' ho
      have z := (X _ _ ho).symm.trans htp
      cases z
    · cases hcD
  ca := fun X ⟨_, _, I⟩ k => dl_classE hga hgt hsub hdct ha hn htk hm X I k
end
end PySem.W
namespace L2
open PySem PySem.Spec PyProof.Rows
/-- isinstance(x, c), x an error -/
def rIsX (K : PySem.W.Frag) : List V → Hp → VK → Prop := fun xs H Q => ∃ (a d C : Addr) (f : Str) (v c : V) (u : Value) (b : Bool), xs = [.ref a, c] ∧ ClsV c u ∧ ExcC K C ∧ H a = some (.ext (ExV (.ref C) (some d) a)) ∧ H d = some (.xd [(f, v)]) ∧ PySem.W.kitOne K (.ref C) u = some b ∧ Q (.bl b) H
/-- isinstance(x, c), any x -/
def rIsD (K : PySem.W.Frag) : List V → Hp → VK → Prop := fun xs H Q => rIsi K xs H Q ∨ rIsX K xs H Q
theorem call_isD {X : Cx} : CallR X (.builtin "isinstance") (rIsD X.K) := by
  intro pins s σ H xs us Q I r h
  rcases h with h | h
  · exact call_isi pins s σ H xs us Q I r h
  · obtain ⟨a, d, C, f, v, c, u, b, rfl, k, T, ea, ed, e, q⟩ := h
    obtain ⟨u1, u2, rfl, r1, r2⟩ := vals2 r
    have e2 := k.eq r2
    subst e2
    cases (show u1 = Value.ref a from r1)
    obtain ⟨oe, od, mA, J, _, _⟩ := exV_at I ea ed
    exact PySem.W.kia_one (PySem.W.dl_kitE T.hg T.hk T.hs T.hd T.ha T.hn T.ht T.hm) I.kIn ⟨oe, od, J⟩ e (fun z => nomatch z) fun tk => ⟨.bl b, H, I.tok tk, rfl, q⟩
end L2
namespace DL
open PySem PySem.Spec L2
/-! ### e.value, isinstance -/
/-- a name that stands for a class: a built-in type, or an error class with the answer for each error class -/
inductive Ty where
  | b (n : String) | o (tbl : List (Str × Bool))
def D.tyName : D → Option String
  | .non => some "NoneType"
  | .bl _ => some "bool"
  | .int _ => some "int"
  | .str _ => some "str"
  | .lst _ => some "list"
  | .scr _ => some "list"
  | .tup _ => some "tuple"
  | _ => none
def isB (t n : String) : Bool := t == n || (t == "bool" && n == "int")
def Ty.ask (t : Ty) (d : D) : Option Bool := match d.tyName with
  | some a => match t with
    | .b n => some (isB a n)
    | .o _ => some false
  | none => match t, d with
    | .o tbl, .exc C _ => tbl.lookup C
    | _, _ => none
def bTypes : List String := ["int", "bool", "str", "list", "tuple"]
/-- what the written part says of it -/
inductive TyOk (K : PySem.W.Frag) : Ty → V → Value → Prop where
  | b {n : String} (h : n ∈ bTypes) : TyOk K (.b n) (.ty n) (.type n)
  | o {tbl : List (Str × Bool)} {C : Addr} (h1 : ∀ a ∈ ["NoneType", "bool", "int", "str", "list", "tuple"], PySem.W.kitOne K (.type a) (.ref C) = some false)
      (h2 : ∀ p ∈ tbl, ExcC K (He.ga K p.1) ∧ PySem.W.kitOne K (.ref (He.ga K p.1)) (.ref C) = some p.2) : TyOk K (.o tbl) (.ref C) (.ref C)
theorem kitB_ok : ∀ a ∈ ["NoneType", "bool", "int", "str", "list", "tuple"], ∀ n ∈ bTypes, kitB a n = some (isB a n) := by decide +kernel
theorem tyName_mem {d : D} {a : String} (h : d.tyName = some a) : a ∈ ["NoneType", "bool", "int", "str", "list", "tuple"] := by
  cases d <;> simp [D.tyName] at h <;> subst h <;> decide
theorem is_ty {K : PySem.W.Frag} {H : Hp} {v : V} {d : D} {a : String} (r : Is K H v d) (h : d.tyName = some a) : TyX K H v (.type a) := by
  cases r with
  | non => cases h; exact .base .non
  | bl b => cases h; exact .base (.bl b)
  | int i => cases h; exact .base (.int i)
  | str x => cases h; exact .base (.str x)
  | ty n => cases h
  | lst s t => cases h; exact .base (.lst s)
  | tup s t =>
    cases h
    rcases s with (s | ⟨o, s⟩) | s
    · exact .base (.tup s)
    · exact .fTuple s
    · obtain ⟨o, _, _, h1, h2, _⟩ := s
      exact .kTuple h1 h2
  | ins s t => cases h
  | exc s t u => cases h
  | scr s =>
    cases h
    rcases s with (s | ⟨o, s⟩) | s
    · exact .base (.lst s)
    · exact .base (.frz s)
    · obtain ⟨o, _, _, h1, h2, _⟩ := s
      exact .kList h1 h2
section
variable {X : Cx} {W : WX} {a ce : Expr} {m : M D} {p pos : Pos} {t : Ty} {cv : V} {cu : Value}
def cIs (t : Ty) (m : M D) : M D := fun ρ => (m ρ).bind fun d ρ1 => ret ((t.ask d).map D.bl) ρ1
theorem tyOk_cls {K : PySem.W.Frag} (h : TyOk K t cv cu) : ClsV cv cu := by
  cases h with
  | b h => exact .ty _
  | o h1 h2 => exact .own _
theorem is_use {c : Ct} {F H : Hp} {σ : St} {ρ : Rho} {Q : VK} {x : V} {d : D} {b : Bool} (T : TyOk X.K t cv cu) (S : SR X.K c F H σ ρ) (r : Is X.K F x d) (h : t.ask d = some b) (q : Q (.bl b) H) : rIsD X.K [x, cv] H Q := by
  unfold Ty.ask at h
  cases z : d.tyName with
  | some a =>
    rw [z] at h
    have ty := is_ty (r.mono S.fh) z
    refine .inl ⟨x, cv, .type a, cu, b, rfl, tyOk_cls T, ty, ?_, q⟩
    cases T with
    | b hn =>
      cases h
      exact kit_ty (kitB_ok a (tyName_mem z) _ hn)
    | o h1 h2 =>
      cases h
      exact h1 a (tyName_mem z)
  | none =>
    rw [z] at h
    cases T with
    | b hn => cases h
    | @o tbl C h1 h2 =>
      cases r with
      | @exc a d' C' v y s1 s2 s3 =>
        have h' : tbl.lookup C' = some b := h
        have hm : (C', b) ∈ tbl := by
          clear h1 h2 z h
          induction tbl with
          | nil => cases h'
          | cons p l ih =>
            obtain ⟨k, w⟩ := p
            rw [List.lookup_cons] at h'
            cases e : (C' == k) with
            | true =>
              rw [e] at h'
              cases h'
              rw [eq_of_beq e]
              exact List.mem_cons_self
            | false =>
              rw [e] at h'
              exact List.mem_cons_of_mem _ (ih h')
        obtain ⟨g1, g2⟩ := h2 _ hm
        exact .inr ⟨a, d', _, "value", v, _, _, b, rfl, .own _, g1, S.fh _ _ s1, S.fh _ _ s2, g2, q⟩
      | _ => cases h
theorem dv_is (T : TyOk X.K t cv cu) (hg : Gl X "isinstance") (hm : X.mg "isinstance" = none) (ha : DV X W a m) (hc : PE X ce (tC cv))
    (he : starEach (a :: [ce]) X.env = (false, eval a X.env) :: starEach [ce] X.env := by rfl) (he2 : starEach (ce :: []) X.env = (false, eval ce X.env) :: starEach [] X.env := by rfl) (hpl : (backTo pos (starEach [ce] X.env)).any (·.1) = false := by rfl) :
    DV X W (.Call (.Name "isinstance" p) [a, ce] [] pos) (cIs t m) := by
  obtain ⟨te, pe, k⟩ := ha.run
  refine ⟨_, pe_callB call_isD hg hm (by first | rfl | kernel_rfl) (pa_cons pe (pa_cons hc pa_nil he2) he) (by decide) (by decide) he hpl, fun c F H σ ρ Q S q => ?_⟩
  refine k c F H σ ρ _ S ((Post.bind q).imp fun F1 H1 ρ1 d1 e1 S1 q1 v r => ?_)
  cases z : t.ask d1 with
  | none => rw [z] at q1; exact q1.elim
  | some b =>
    rw [z] at q1
    exact is_use T S1 r z (q1 F1 H1 (Same.refl _) S1 (.bl b) (.bl b))
/-- e.value -/
def D.value (cs : List Str) : D → Option D
  | .exc C x => if C ∈ cs then some x else none
  | _ => none
def cValue (cs : List Str) (m : M D) : M D := fun ρ => (m ρ).bind fun d ρ1 => ret (d.value cs) ρ1
theorem dv_value {cs : List Str} {Dd fI : Addr} (T : ∀ C ∈ cs, PySem.DayX.Txt X.prog X.K X.mg (He.ga X.K C) Dd fI) (ha : DV X W a m) (hb : attributeBase a "value" X.env (eval a X.env) = eval a X.env := by rfl) : DV X W (.Attribute a "value" pos) (cValue cs m) := by
  obtain ⟨te, pe, k⟩ := ha.run
  refine ⟨_, pe_value pe hb, fun c F H σ ρ Q S q => k c F H σ ρ _ S ((Post.bind q).imp fun F1 H1 ρ1 d1 e1 S1 q1 v r => ?_)⟩
  cases r with
  | @exc a' d' C' v' y s1 s2 s3 =>
    by_cases hC : C' ∈ cs
    · have e : D.value cs (.exc C' y) = some y := if_pos hC
      rw [e] at q1
      exact ⟨a', d', _, Dd, fI, v', T _ hC, rfl, S1.fh _ _ s1, S1.fh _ _ s2, q1 F1 H1 (Same.refl _) S1 v' s3⟩
    · have e : D.value cs (.exc C' y) = none := if_neg hC
      rw [e] at q1
      exact q1.elim
  | _ => exact q1.elim
end
end DL

end
section
namespace L2
open PySem PySem.Spec PyProof.Rows
section
variable {X : Cx}
/-- sum(t), t a tuple of ints -/
def rSumT (K : PySem.W.Frag) : List V → Hp → VK → Prop := fun vs H Q => ∃ (a : Addr) (ns : List Int), vs = [V.ref a] ∧ SqT K H a (ns.map V.int) ∧ Q (.int ns.sum) H
theorem cr_sumT (hc : X.calm = true) : CallR X (.builtin "sum") (rSumT X.K) := by
  intro pins s σ H vs us Q I r h
  obtain ⟨a, ns, rfl, hs, q⟩ := h
  obtain ⟨its, rv, hl, _⟩ := I.tuple hs
  rw [Vals.ref1 r]
  have hi := rv.ints
  obtain ⟨xs, e⟩ := hi.allInts.items
  have hn : numsOf (intItems xs).toList = ns := by rw [← e]; exact hi.numsOf
  rw [nums_intItems] at hn
  rw [e] at hl
  refine PySem.W.ktm_sumG (I.ok.hd hc) hl fun h' tk t' hk => ?_
  refine ⟨.int _, H, I.kept hk, ⟨_, rfl⟩, ?_⟩
  rw [preSum_eq, List.take_of_length_le (by simp), hn]
  exact q
def rSumA (K : PySem.W.Frag) : List V → Hp → VK → Prop := fun vs H Q => rSum K vs H Q ∨ rSumT K vs H Q
theorem cr_sumA (hc : X.calm = true) : CallR X (.builtin "sum") (rSumA X.K) := by
  intro pins s σ H vs us Q I r h
  rcases h with h | h
  · exact cr_sum hc pins s σ H vs us Q I r h
  · exact cr_sumT hc pins s σ H vs us Q I r h
/-- str(x), repr(x) of an int, a bool, None; str of a text -/
def txtV : V → Option Str
  | .int i => if i.natAbs.log2 < 1920 then some (toString i) else none
  | .bl b => some (if b then "True" else "False")
  | .non => some "None"
  | _ => none
def rRepr : List V → Hp → VK → Prop := fun xs H Q => ∃ x t, xs = [x] ∧ txtV x = some t ∧ Q (.str t) H
theorem cr_repr : CallR X (.builtin "repr") rRepr := by
  intro pins s σ H xs us Q I r h
  obtain ⟨x, t, rfl, e, q⟩ := h
  obtain ⟨u, rfl, rx⟩ := vals1 r
  cases x with
  | int i =>
    obtain ⟨tk, rfl⟩ := rx
    have e : (if i.natAbs.log2 < 1920 then some (Str.ofString (toString i)) else none) = some t := e
    by_cases hz : i.natAbs.log2 < 1920
    · rw [if_pos hz] at e
      cases e
      exact P.repr_of_int hz ⟨.str _, H, I.tok _, ⟨_, rfl⟩, q⟩
    · rw [if_neg hz] at e
      cases e
  | bl b =>
    cases rx
    cases e
    exact P.repr_of_bool ⟨.str _, H, I.tok _, ⟨_, rfl⟩, q⟩
  | non =>
    cases rx
    cases e
    exact P.repr_of_none ⟨.str _, H, I.tok _, ⟨_, rfl⟩, q⟩
  | _ => cases e
def rStr : List V → Hp → VK → Prop := fun xs H Q => (∃ i, xs = [.int i] ∧ i.natAbs.log2 < 1920 ∧ Q (.str (toString i)) H) ∨ ∃ a, xs = [.str a] ∧ Q (.str a) H
theorem cr_str : CallR X (.type "str") rStr := by
  intro pins s σ H xs us Q I r h
  rcases h with h | h
  · exact call_str_int pins s σ H xs us Q I r h
  · exact SkE.call_str_str pins s σ H xs us Q I r h
end
end L2
namespace DL
open PySem PySem.Spec L2
/-! ### built-in calls on data -/
/-- all ints -/
def D.ints : List D → Option (List Int)
  | [] => some []
  | .int i :: ds => (D.ints ds).map (i :: ·)
  | _ :: _ => none
theorem ints_some : ∀ {ds : List D} {ns : List Int}, D.ints ds = some ns → ds = ns.map D.int
  | [], ns, h => by cases h; rfl
  | d :: ds, ns, h => by
    cases d with
    | int i =>
      obtain ⟨ms, h1, h2⟩ := Option.map_eq_some_iff.mp h
      subst h2
      rw [ints_some h1]
      rfl
    | _ => cases h
theorem is_ints {K : PySem.W.Frag} {F : Hp} : ∀ {vs : List V} {ns : List Int}, IsAll K F vs (ns.map D.int) → vs = ns.map V.int
  | _, [], .nil => rfl
  | _, n :: ns, .cons r t => by
    cases r
    rw [is_ints t]
    rfl
def D.bls : List D → Option (List Bool)
  | [] => some []
  | .bl b :: ds => (D.bls ds).map (b :: ·)
  | _ :: _ => none
theorem bls_some : ∀ {ds : List D} {bs : List Bool}, D.bls ds = some bs → ds = bs.map D.bl
  | [], ns, h => by cases h; rfl
  | d :: ds, ns, h => by
    cases d with
    | bl i =>
      obtain ⟨ms, h1, h2⟩ := Option.map_eq_some_iff.mp h
      subst h2
      rw [bls_some h1]
      rfl
    | _ => cases h
theorem is_bls {K : PySem.W.Frag} {F : Hp} : ∀ {vs : List V} {bs : List Bool}, IsAll K F vs (bs.map D.bl) → vs = bs.map V.bl
  | _, [], .nil => rfl
  | _, n :: ns, .cons r t => by
    cases r
    rw [is_bls t]
    rfl
section
variable {X : Cx}
/-- one argument -/
theorem is_one {K : PySem.W.Frag} {F : Hp} {vs : List V} {d : D} (r : IsAll K F vs [d]) : ∃ v, vs = [v] ∧ Is K F v d := by
  cases r with
  | cons r t => cases t; exact ⟨_, rfl, r⟩
theorem is_two {K : PySem.W.Frag} {F : Hp} {vs : List V} {d e : D} (r : IsAll K F vs [d, e]) : ∃ v w, vs = [v, w] ∧ Is K F v d ∧ Is K F w e := by
  cases r with
  | cons r t => cases t with
    | cons r2 t => cases t; exact ⟨_, _, rfl, r, r2⟩
def opLen : List D → Option D
  | [.lst ds] => some (.int ds.length)
  | [.tup ds] => some (.int ds.length)
  | [.scr ns] => some (.int ns.length)
  | [.str x] => if x.length ≤ sizeLine then some (.int x.length) else none
  | _ => none
theorem dc_len : DCall X (fun xs H Q => ∃ x n, xs = [x] ∧ LenV X.K x H n ∧ Q (.int n) H) opLen := fun c F H σ ρ Q xs ds z S r h q => by
  unfold opLen at h
  split at h
  · cases h
    obtain ⟨v, rfl, r1⟩ := is_one r
    cases r1 with
    | lst s t => exact ⟨_, _, rfl, .inl ⟨_, .of (S.fh _ _ s), rfl⟩, by rw [t.length]; exact q _ F H (Same.refl _) S (.int _)⟩
  · cases h
    obtain ⟨v, rfl, r1⟩ := is_one r
    cases r1 with
    | tup s t => exact ⟨_, _, rfl, .inr ⟨_, sqT_mono S.fh s, rfl⟩, by rw [t.length]; exact q _ F H (Same.refl _) S (.int _)⟩
  · cases h
    obtain ⟨v, rfl, r1⟩ := is_one r
    cases r1 with
    | scr s => exact ⟨_, _, rfl, .inl ⟨_, sqL_mono S.fh s, rfl⟩, by rw [List.length_map]; exact q _ F H (Same.refl _) S (.int _)⟩
  · split at h
    · rename_i hz
      cases h
      obtain ⟨v, rfl, r1⟩ := is_one r
      cases r1
      exact ⟨_, _, rfl, ⟨hz, rfl⟩, q _ F H (Same.refl _) S (.int _)⟩
    · cases h
  · cases h
def opSum : List D → Option D
  | [.lst ds] => (D.ints ds).map fun ns => .int ns.sum
  | [.tup ds] => (D.ints ds).map fun ns => .int ns.sum
  | [.scr ns] => some (.int ns.sum)
  | _ => none
theorem dc_sum : DCall X (rSumA X.K) opSum := fun c F H σ ρ Q xs ds z S r h q => by
  unfold opSum at h
  split at h
  · obtain ⟨ns, h1, h2⟩ := Option.map_eq_some_iff.mp h
    subst h2
    obtain ⟨v, rfl, r1⟩ := is_one r
    rw [ints_some h1] at r1
    cases r1 with
    | lst s t => exact .inl ⟨_, ns, rfl, by rw [← is_ints t]; exact .of (S.fh _ _ s), q _ F H (Same.refl _) S (.int _)⟩
  · obtain ⟨ns, h1, h2⟩ := Option.map_eq_some_iff.mp h
    subst h2
    obtain ⟨v, rfl, r1⟩ := is_one r
    rw [ints_some h1] at r1
    cases r1 with
    | tup s t => exact .inr ⟨_, ns, rfl, by rw [← is_ints t]; exact sqT_mono S.fh s, q _ F H (Same.refl _) S (.int _)⟩
  · cases h
    obtain ⟨v, rfl, r1⟩ := is_one r
    cases r1 with
    | scr s => exact .inl ⟨_, _, rfl, sqL_mono S.fh s, q _ F H (Same.refl _) S (.int _)⟩
  · cases h
/-- max(xs), min(xs) of a list of ints -/
def maxI : List Int → Int
  | [] => 0
  | n :: ns => ns.foldl max n
def minI : List Int → Int
  | [] => 0
  | n :: ns => ns.foldl min n
theorem maxI_eq {ns : List Int} {m : Int} (h1 : m ∈ ns) (h2 : ∀ y ∈ ns, y ≤ m) : maxI ns = m := by
  cases ns with
  | nil => cases h1
  | cons n ns =>
    have key : ∀ (l : List Int) (a m : Int), (m = a ∨ m ∈ l) → a ≤ m → (∀ y ∈ l, y ≤ m) → l.foldl max a = m := by
      intro l
      induction l with
      | nil => intro a m h _ _; rcases h with h | h; exact h.symm; cases h
      | cons b l ih =>
        intro a m h ha hl
        have hb := hl b (List.mem_cons_self)
        refine ih (max a b) m ?_ (by omega) fun y hy => hl y (List.mem_cons_of_mem _ hy)
        rcases h with h | h
        · left; omega
        · rcases List.mem_cons.mp h with h | h
          · left; omega
          · exact .inr h
    exact key ns n m (by rcases List.mem_cons.mp h1 with h | h; exact .inl h; exact .inr h) (h2 n List.mem_cons_self) fun y hy => h2 y (List.mem_cons_of_mem _ hy)
theorem minI_eq {ns : List Int} {m : Int} (h1 : m ∈ ns) (h2 : ∀ y ∈ ns, m ≤ y) : minI ns = m := by
  cases ns with
  | nil => cases h1
  | cons n ns =>
    have key : ∀ (l : List Int) (a m : Int), (m = a ∨ m ∈ l) → m ≤ a → (∀ y ∈ l, m ≤ y) → l.foldl min a = m := by
      intro l
      induction l with
      | nil => intro a m h _ _; rcases h with h | h; exact h.symm; cases h
      | cons b l ih =>
        intro a m h ha hl
        have hb := hl b (List.mem_cons_self)
        refine ih (min a b) m ?_ (by omega) fun y hy => hl y (List.mem_cons_of_mem _ hy)
        rcases h with h | h
        · left; omega
        · rcases List.mem_cons.mp h with h | h
          · left; omega
          · exact .inr h
    exact key ns n m (by rcases List.mem_cons.mp h1 with h | h; exact .inl h; exact .inr h) (h2 n List.mem_cons_self) fun y hy => h2 y (List.mem_cons_of_mem _ hy)
def opMax1 : List D → Option D
  | [.lst ds] => (D.ints ds).bind fun ns => if ns = [] then none else some (.int (maxI ns))
  | _ => none
def opMin1 : List D → Option D
  | [.lst ds] => (D.ints ds).bind fun ns => if ns = [] then none else some (.int (minI ns))
  | _ => none
theorem dc_max1 : DCall X (rMax X.K) opMax1 := fun c F H σ ρ Q xs ds z S r h q => by
  unfold opMax1 at h
  split at h
  · obtain ⟨ns, h1, h2⟩ := Option.bind_eq_some_iff.mp h
    split at h2
    · cases h2
    · rename_i hne
      cases h2
      obtain ⟨v, rfl, r1⟩ := is_one r
      rw [ints_some h1] at r1
      cases r1 with
      | lst s t => exact ⟨_, ns, rfl, by rw [← is_ints t]; exact .of (S.fh _ _ s), List.length_pos_iff.mpr hne, fun m m1 m2 => by rw [← maxI_eq m1 m2]; exact q _ F H (Same.refl _) S (.int _)⟩
  · cases h
theorem dc_min1 : DCall X (rMin X.K) opMin1 := fun c F H σ ρ Q xs ds z S r h q => by
  unfold opMin1 at h
  split at h
  · obtain ⟨ns, h1, h2⟩ := Option.bind_eq_some_iff.mp h
    split at h2
    · cases h2
    · rename_i hne
      cases h2
      obtain ⟨v, rfl, r1⟩ := is_one r
      rw [ints_some h1] at r1
      cases r1 with
      | lst s t => exact ⟨_, ns, rfl, by rw [← is_ints t]; exact .of (S.fh _ _ s), List.length_pos_iff.mpr hne, fun m m1 m2 => by rw [← minI_eq m1 m2]; exact q _ F H (Same.refl _) S (.int _)⟩
  · cases h
def opMax2 : List D → Option D
  | [.int i, .int j] => some (.int (if j > i then j else i))
  | _ => none
def opMin2 : List D → Option D
  | [.int i, .int j] => some (.int (if j < i then j else i))
  | _ => none
theorem dc_max2 : DCall X (fun xs H Q => ∃ i j, xs = [.int i, .int j] ∧ Q (.int (if j > i then j else i)) H) opMax2 := fun c F H σ ρ Q xs ds z S r h q => by
  unfold opMax2 at h
  split at h
  · cases h
    obtain ⟨v, w, rfl, r1, r2⟩ := is_two r
    cases r1
    cases r2
    exact ⟨_, _, rfl, q _ F H (Same.refl _) S (.int _)⟩
  · cases h
theorem dc_min2 : DCall X (fun xs H Q => ∃ i j, xs = [.int i, .int j] ∧ Q (.int (if j < i then j else i)) H) opMin2 := fun c F H σ ρ Q xs ds z S r h q => by
  unfold opMin2 at h
  split at h
  · cases h
    obtain ⟨v, w, rfl, r1, r2⟩ := is_two r
    cases r1
    cases r2
    exact ⟨_, _, rfl, q _ F H (Same.refl _) S (.int _)⟩
  · cases h
def opAbs : List D → Option D
  | [.int i] => some (.int (if i < 0 then -i else i))
  | _ => none
theorem dc_abs : DCall X (fun xs H Q => ∃ i, xs = [.int i] ∧ Q (.int (if i < 0 then -i else i)) H) opAbs := fun c F H σ ρ Q xs ds z S r h q => by
  unfold opAbs at h
  split at h
  · cases h
    obtain ⟨v, rfl, r1⟩ := is_one r
    cases r1
    exact ⟨_, rfl, q _ F H (Same.refl _) S (.int _)⟩
  · cases h
def opInt : List D → Option D
  | [.int i] => some (.int i)
  | [.bl b] => some (.int (if b then 1 else 0))
  | _ => none
theorem dc_int : DCall X (fun xs H Q => (∃ i, xs = [.int i] ∧ Q (.int i) H) ∨ ∃ k, xs = [.bl k] ∧ Q (.int (if k then 1 else 0)) H) opInt := fun c F H σ ρ Q xs ds z S r h q => by
  unfold opInt at h
  split at h
  · cases h
    obtain ⟨v, rfl, r1⟩ := is_one r
    cases r1
    exact .inl ⟨_, rfl, q _ F H (Same.refl _) S (.int _)⟩
  · cases h
    obtain ⟨v, rfl, r1⟩ := is_one r
    cases r1
    exact .inr ⟨_, rfl, q _ F H (Same.refl _) S (.int _)⟩
  · cases h
def divmodOk (i j : Int) : Bool := decide (0 < j) && !Builtin.divisionGoesByPylong i j
def opDivmod : List D → Option D
  | [.int i, .int j] => if 0 < j ∧ Builtin.divisionGoesByPylong i j = false then some (.tup [.int (i / j), .int (i % j)]) else none
  | _ => none
theorem dc_divmod : DCall X (fun xs H Q => ∃ i j, xs = [.int i, .int j] ∧ CDivP i j ∧ ∀ p, H p = none → Q (.ref p) (upd H p (.tup [.int (i / j), .int (i % j)]))) opDivmod := fun c F H σ ρ Q xs ds z S r h q => by
  unfold opDivmod at h
  split at h
  · rename_i i j
    by_cases hc : 0 < j ∧ Builtin.divisionGoesByPylong i j = false
    · rw [if_pos hc] at h
      cases h
      obtain ⟨v, w, rfl, r1, r2⟩ := is_two r
      cases r1
      cases r2
      refine ⟨_, _, rfl, hc, fun p hp => ?_⟩
      exact q _ _ _ (same_new (S.freshF hp)) (S.alloc hp) (.tup (.of upd_same) (.cons (.int _) (.cons (.int _) .nil)))
    · rw [if_neg hc] at h
      cases h
  · cases h
def opTuple : List D → Option D
  | [.lst ds] => some (.tup ds)
  | [.tup ds] => some (.tup ds)
  | [.scr ns] => some (.tup (ns.map D.int))
  | _ => none
theorem dc_tuple : DCall X (fun xs H Q => ∃ p ys, xs = [.ref p] ∧ ((SqL X.K H p ys ∧ ∀ l, H l = none → Q (.ref l) (upd H l (.tup ys))) ∨ (SqT X.K H p ys ∧ Q (.ref p) H))) opTuple := fun c F H σ ρ Q xs ds z S r h q => by
  unfold opTuple at h
  split at h
  · cases h
    obtain ⟨v, rfl, r1⟩ := is_one r
    cases r1 with
    | lst s t => exact ⟨_, _, rfl, .inl ⟨.of (S.fh _ _ s), fun p hp => q _ _ _ (same_new (S.freshF hp)) (S.alloc hp) (.tup (.of upd_same) (t.mono (same_new (S.freshF hp))))⟩⟩
  · cases h
    obtain ⟨v, rfl, r1⟩ := is_one r
    cases r1 with
    | tup s t => exact ⟨_, _, rfl, .inr ⟨sqT_mono S.fh s, q _ F H (Same.refl _) S (.tup s t)⟩⟩
  · cases h
    obtain ⟨v, rfl, r1⟩ := is_one r
    cases r1 with
    | scr s => exact ⟨_, _, rfl, .inl ⟨sqL_mono S.fh s, fun p hp => q _ _ _ (same_new (S.freshF hp)) (S.alloc hp) (.tup (.of upd_same) (IsAll.ints _))⟩⟩
  · cases h
def opList : List D → Option (List D)
  | [.lst ds] => some ds
  | [.tup ds] => some ds
  | [.scr ns] => some (ns.map D.int)
  | _ => none
theorem dc_list : DCallL X (fun xs H Q => ∃ p ys, xs = [.ref p] ∧ (SqL X.K H p ys ∨ SqT X.K H p ys) ∧ ∀ l, H l = none → Q (.ref l) (upd H l (.lst ys))) opList := fun c F H σ ρ Q xs ds z S r h q => by
  unfold opList at h
  split at h
  · cases h
    obtain ⟨v, rfl, r1⟩ := is_one r
    cases r1 with
    | lst s t => exact ⟨_, _, rfl, .inl (.of (S.fh _ _ s)), fun p hp => q _ F _ (Same.refl _) (S.allocH hp) (res_own S hp t)⟩
  · cases h
    obtain ⟨v, rfl, r1⟩ := is_one r
    cases r1 with
    | tup s t => exact ⟨_, _, rfl, .inr (sqT_mono S.fh s), fun p hp => q _ F _ (Same.refl _) (S.allocH hp) (res_own S hp t)⟩
  · cases h
    obtain ⟨v, rfl, r1⟩ := is_one r
    cases r1 with
    | scr s => exact ⟨_, _, rfl, .inl (sqL_mono S.fh s), fun p hp => q _ F _ (Same.refl _) (S.allocH hp) (res_own S hp (IsAll.ints _))⟩
  · cases h
def opAny : List D → Option D
  | [.lst ds] => (D.bls ds).map fun bs => .bl (bs.any id)
  | _ => none
def opAll : List D → Option D
  | [.lst ds] => (D.bls ds).map fun bs => .bl (bs.all id)
  | _ => none
theorem dc_any : DCall X (rAny X.K) opAny := fun c F H σ ρ Q xs ds z S r h q => by
  unfold opAny at h
  split at h
  · obtain ⟨ns, h1, h2⟩ := Option.map_eq_some_iff.mp h
    subst h2
    obtain ⟨v, rfl, r1⟩ := is_one r
    rw [bls_some h1] at r1
    cases r1 with
    | lst s t => exact ⟨_, ns, rfl, by rw [← is_bls t]; exact .of (S.fh _ _ s), q _ F H (Same.refl _) S (.bl _)⟩
  · cases h
theorem dc_all : DCall X (rAll X.K) opAll := fun c F H σ ρ Q xs ds z S r h q => by
  unfold opAll at h
  split at h
  · obtain ⟨ns, h1, h2⟩ := Option.map_eq_some_iff.mp h
    subst h2
    obtain ⟨v, rfl, r1⟩ := is_one r
    rw [bls_some h1] at r1
    cases r1 with
    | lst s t => exact ⟨_, ns, rfl, by rw [← is_bls t]; exact .of (S.fh _ _ s), q _ F H (Same.refl _) S (.bl _)⟩
  · cases h
def opRepr : List D → Option D
  | [.int i] => if i.natAbs.log2 < 1920 then some (.str (toString i)) else none
  | [.bl b] => some (.str (if b then "True" else "False"))
  | [.non] => some (.str "None")
  | _ => none
theorem dc_repr : DCall X rRepr opRepr := fun c F H σ ρ Q xs ds z S r h q => by
  unfold opRepr at h
  split at h
  · rename_i i
    by_cases hz : i.natAbs.log2 < 1920
    · rw [if_pos hz] at h
      cases h
      obtain ⟨v, rfl, r1⟩ := is_one r
      cases r1
      exact ⟨_, _, rfl, if_pos hz, q _ F H (Same.refl _) S (.str _)⟩
    · rw [if_neg hz] at h
      cases h
  · cases h
    obtain ⟨v, rfl, r1⟩ := is_one r
    cases r1
    exact ⟨_, _, rfl, rfl, q _ F H (Same.refl _) S (.str _)⟩
  · cases h
    obtain ⟨v, rfl, r1⟩ := is_one r
    cases r1
    exact ⟨_, _, rfl, rfl, q _ F H (Same.refl _) S (.str _)⟩
  · cases h
def opStr : List D → Option D
  | [.int i] => if i.natAbs.log2 < 1920 then some (.str (toString i)) else none
  | [.str x] => some (.str x)
  | _ => none
theorem dc_str : DCall X rStr opStr := fun c F H σ ρ Q xs ds z S r h q => by
  unfold opStr at h
  split at h
  · rename_i i
    by_cases hz : i.natAbs.log2 < 1920
    · rw [if_pos hz] at h
      cases h
      obtain ⟨v, rfl, r1⟩ := is_one r
      cases r1
      exact .inl ⟨_, rfl, hz, q _ F H (Same.refl _) S (.str _)⟩
    · rw [if_neg hz] at h
      cases h
  · cases h
    obtain ⟨v, rfl, r1⟩ := is_one r
    cases r1
    exact .inr ⟨_, rfl, q _ F H (Same.refl _) S (.str _)⟩
  · cases h
/-- sorted(xs) of ints -/
def sortI (ns : List Int) : List Int := ns.mergeSort (fun a b => decide (a ≤ b))
theorem sortI_eq {ns ms : List Int} (h1 : ms.Perm ns) (h2 : ms.Pairwise (· ≤ ·)) : ms = sortI ns := by
  have p1 : (sortI ns).Perm ns := List.mergeSort_perm ns _
  have p2 : (sortI ns).Pairwise (· ≤ ·) := by
    have := List.pairwise_mergeSort (le := fun a b : Int => decide (a ≤ b)) (fun a b c => by simp; omega) (fun a b => by simp; omega) ns
    exact this.imp fun h => of_decide_eq_true h
  exact List.Perm.eq_of_pairwise (fun a b _ _ h1 h2 => Int.le_antisymm h1 h2) h2 p2 (h1.trans p1.symm)
def opSorted : List D → Option (List D)
  | [.lst ds] => (D.ints ds).map fun ns => (sortI ns).map D.int
  | _ => none
theorem dc_sorted : DCallL X (rSortedI X.K) opSorted := fun c F H σ ρ Q xs ds z S r h q => by
  unfold opSorted at h
  split at h
  · obtain ⟨ns, h1, h2⟩ := Option.map_eq_some_iff.mp h
    subst h2
    obtain ⟨v, rfl, r1⟩ := is_one r
    rw [ints_some h1] at r1
    cases r1 with
    | lst s t =>
      refine ⟨_, ns, rfl, by rw [← is_ints t]; exact .of (S.fh _ _ s), fun ms p m1 m2 hp => ?_⟩
      rw [sortI_eq m1 m2]
      exact q _ F _ (Same.refl _) (S.allocH hp) (res_own S hp (IsAll.ints _))
  · cases h
end
end DL

end
section
namespace PySem
open Sem (wp)
open AutoSeq1 (wpAny_loadPart')
section
variable {prog : Program} {w : World} {A : Around} {E : Value → Shared → Prop} {s : Shared}
theorem dl_extend_long {R : Result → Shared → Prop} {r : Addr} {a b c : Int} {t u v : Tok} {n : Nat} (hh : A.handled = none) (hr : IsRange s.heap r a b c t u v) (hsmall : Builtin.Range.small a b c = false)
    (hn : Builtin.Range.rangeSize a b c = n) (hlen : n ≤ 2 ^ 24) (S : Addr) (res : Value) (c₀ : Nat) (hS : s.heap.get? S = some { cls := .type "list", data := .seq #[] c₀ })
    (hR : ∀ h' tk acc' c', (∀ b o, b ≠ S → s.heap.get? b = some o → h'.get? b = some o) → h'.get? S = some { cls := .type "list", dict := none, data := .seq acc' c', slots := #[] } →
      ItemsOf (fun i v => ∃ t, v = .int (a + i * c) t) acc' n → R (.ok (.ret res)) { s with heap := h', toks := tk }) :
    wpAny (model prog w) A.in1 (Builtin.List.listExtendWith (.ref S) (.ref r) res)
      (fun fin s' => match fin with | .done f => R (.ok f) s' | .again c' => c'.quiet = true ∧ codeAny (model prog w) A c' R s') (fun e s' => R (.error e) s') s := by
  have hSr : S ≠ r := fun e => by rw [e, hr] at hS; simp at hS
  have hSlt : S < s.heap.objs.size := Heap.lt_size hS
  have hSI : S ≠ s.heap.objs.size := Nat.ne_of_lt hSlt
  have hSf : S ∉ [s.heap.objs.size] := fun hm => hSI (List.mem_singleton.mp hm)
  have W := (Walks.longrange (prog := prog) (w := w) (A := A.in1) hh s.heap.objs.size a c n).toS

  have key : ∀ (h : Heap) (c₁ tk : Nat), IsLongIter h s.heap.objs.size (a + ((0 : Nat) : Int) * c) ((n : Int) - ((0 : Nat) : Int)) c → (∀ b o, b ≠ S → s.heap.get? b = some o → h.get? b = some o) →
      h.get? S = some { cls := .type "list", data := .seq #[] c₁ } → codeAny (model prog w) A (.builtin "list.extend.loop" ⟨[.ref S, .ref s.heap.objs.size, res], []⟩) R { s with heap := h, toks := tk } := by
    intro h c₁ tk hit hk hS₁
    refine codeAny_extend_loopS W (by rw [sizeLine_eq]; omega) S hSf res n 0 _ #[] c₁ rfl (Nat.zero_le _) hit hS₁ (ItemsOf.nil _) fun s' acc' c' hm hS' hacc => ?_
    rw [Moved.eq_with hm]
    refine hR s'.heap s'.toks acc' c' (fun b o hb e => hm.heap b o (fun hmem => ?_) (hk b o hb e)) hS' hacc
    rcases List.mem_cons.mp hmem with e' | hmem
    · exact hb e'
    · exact absurd (Heap.lt_size e) (by rw [List.mem_singleton.mp hmem]; exact Nat.lt_irrefl _)
  unfold Builtin.List.listExtendWith
  refine wpAny_bind (wpAny_typeOf (T := "range") ⟨_, hr, rfl⟩ ?_)
  have h1 : Builtin.List.listSameRef (.ref S) (.ref r) = false := by simp [Builtin.List.listSameRef, hSr]
  have h2 : (Value.type "range" == Value.type "list") = false := by decide
  have h3 : (Value.type "range" == Value.type "tuple") = false := by decide
  simp only [h1, h2, h3, Bool.or_false, Bool.false_eq_true, if_false]
  refine wpAny_bind (wpAny_pyIter_longrange hr hsmall ?_)
  refine wpAny_bind (wpAny_holding (wpAny_hint_range (n := n) (Heap.get?_push_of_some _ hr) hn hlen ?_))
  have hit₁ : IsLongIter (s.heap.push { cls := .type "longrange_iterator", data := .fields #[rawInt a, rawInt (Builtin.Range.rangeSize a b c), rawInt c] }) s.heap.objs.size (a + ((0 : Nat) : Int) * c) ((n : Int) - ((0 : Nat) : Int)) c := by
    show IsLongIter _ _ _ _ _; rw [hn]; simpa using Heap.get?_push_size _ rfl
  have hS₁ := Heap.get?_push_of_some { cls := .type "longrange_iterator", data := .fields #[rawInt a, rawInt (Builtin.Range.rangeSize a b c), rawInt c] } hS
  refine wpAny_ite_split (fun _ => ?_) (fun _ => wpAny_pure ⟨plainId_quiet F.plain_extend_loop _, key _ c₀ _ hit₁ (fun b o _ e => Heap.get?_push_of_some _ e) hS₁⟩)
  refine wpAny_bind (wpAny_rule ?_)
  refine wpAny_bind ?_
  show wpAny _ _ (updateSeq S (·.push .none) >>= fun _ => updateSeq S (·.pop)) _ _ _
  refine wpAny_bind (wpAny_updateSeq hS₁ rfl ?_)
  have hS₂ := Heap.get?_update_self (Obj.mapSeq (·.push Value.none)) hS₁ rfl
  refine wpAny_updateSeq (hz := by seq_fits) hS₂ rfl ?_
  have hS₃ := Heap.get?_update_self (Obj.mapSeq (·.pop)) hS₂ rfl
  refine wpAny_pure ⟨plainId_quiet F.plain_extend_loop _, key _ _ _ ?_ (fun b o hb e => ?_) hS₃⟩
  · exact (Heap.get?_update_other _ _ hSI).trans ((Heap.get?_update_other _ _ hSI).trans hit₁)
  · exact (Heap.get?_update_other _ _ (Ne.symm hb)).trans ((Heap.get?_update_other _ _ (Ne.symm hb)).trans (Heap.get?_push_of_some _ e))

theorem dl_list_init_long {R : Result → Shared → Prop} {r : Addr} {a b c : Int} {t u v : Tok} {n : Nat} (hh : A.handled = none) (hr : IsRange s.heap r a b c t u v) (hsmall : Builtin.Range.small a b c = false)
    (hn : Builtin.Range.rangeSize a b c = n) (hlen : n ≤ 2 ^ 24) (S : Addr) (hS : s.heap.get? S = some { cls := .type "list", data := .seq #[] })
    (hR : ∀ h' tk acc' c', (∀ b o, b ≠ S → s.heap.get? b = some o → h'.get? b = some o) → h'.get? S = some { cls := .type "list", dict := none, data := .seq acc' c', slots := #[] } →
      ItemsOf (fun i v => ∃ t, v = .int (a + i * c) t) acc' n → R (.ok (.ret .none)) { s with heap := h', toks := tk }) :
    wpAny (model prog w) A.in1 (Builtin.«list.__init__» ⟨[.ref S, .ref r], []⟩)
      (fun fin s' => match fin with | .done f => R (.ok f) s' | .again c' => c'.quiet = true ∧ codeAny (model prog w) A c' R s') (fun e s' => R (.error e) s') s := by
  have hSr : S ≠ r := fun e => by rw [e, hr] at hS; simp at hS
  show wpAny _ _ (do let old ← Builtin.List.listItems (.ref S); Builtin.List.listUpdate (.ref S) (fun _ => #[]); letGo old.toList.reverse; Builtin.List.listExtendWith (.ref S) (.ref r) .none) _ _ s
  refine wpAny_bind ?_
  unfold Builtin.List.listItems
  refine wpAny_bind (wpAny_seqItems hS rfl (wpAny_pure ?_))
  show wpAny _ _ (updateSeq S (fun _ => #[]) >>= fun _ => letGo (#[] : Array Value).toList.reverse >>= fun _ => Builtin.List.listExtendWith (.ref S) (.ref r) .none) _ _ s
  refine wpAny_bind (wpAny_updateSeq hS rfl ?_)
  have hS₂ := Heap.get?_update_self (Obj.mapSeq (fun _ => (#[] : Array Value))) hS rfl
  have oth : ∀ b o, b ≠ S → s.heap.get? b = some o → (s.heap.update S (Obj.mapSeq (fun _ => (#[] : Array Value)))).get? b = some o :=
    fun b o hb e => (Heap.get?_update_other _ _ (Ne.symm hb)).trans e
  refine wpAny_bind (wpAny_letGo ?_)
  refine dl_extend_long hh (oth r _ (Ne.symm hSr) hr) hsmall hn hlen S .none _ hS₂ fun h' tk acc' c' hk hS' hacc => ?_
  exact hR h' tk acc' c' (fun b o hb e => hk b o hb (oth b o hb e)) hS' hacc
theorem dl_list_long {Q : Value → Shared → Prop} {r : Addr} {a b c : Int} {t u v : Tok} {n : Nat} (hh : A.handled = none) (hr : IsRange s.heap r a b c t u v) (hsmall : Builtin.Range.small a b c = false)
    (hn : Builtin.Range.rangeSize a b c = n) (hlen : n ≤ 2 ^ 24)
    (hQ : ∀ h' tk acc' c', (∀ b o, s.heap.get? b = some o → h'.get? b = some o) →
      h'.get? s.heap.objs.size = some { cls := .type "list", dict := none, data := .seq acc' c', slots := #[] } → ItemsOf (fun i v => ∃ t, v = .int (a + i * c) t) acc' n → Q (.ref s.heap.objs.size) { s with heap := h', toks := tk }) :
    wpAny (model prog w) A (call (.type "list") [.ref r]) Q E s := by
  refine callType_codes (Q₁ := fun obj s₁ => obj = .ref s.heap.objs.size ∧ s₁ = { s with heap := s.heap.push { cls := .type "list", data := .seq #[] } }) F.called_list (F.typeCall_list_1 _) F.entry_list_init
    (code_list_new _ ⟨rfl, rfl⟩) fun obj s₁ h₁ => ?_
  obtain ⟨rfl, rfl⟩ := h₁
  have hS : (s.heap.push { cls := .type "list", data := .seq #[] }).get? s.heap.objs.size = some { cls := .type "list", data := .seq #[] } := Heap.get?_push_size _ rfl
  refine ⟨⟨_, hS, rfl⟩, F.args_list_init_2 _ _, dl_list_init_long (A := A.in1) hh (Heap.get?_push_of_some _ hr) hsmall hn hlen _ hS fun h' tk acc' c' hk hS' hacc => ?_⟩
  exact ⟨rfl, hQ h' tk acc' c' (fun b o e => hk b o (Nat.ne_of_lt (Heap.lt_size e)) (Heap.get?_push_of_some _ e)) hS' hacc⟩
end
end PySem
namespace L2
open PySem PySem.Spec PyProof.Rows
section
variable {X : Cx} {e : Expr} {te : St → Hp → (Int → Int → Hp → Prop) → Prop}
def tLstRgA (te : St → Hp → (Int → Int → Hp → Prop) → Prop) : TE := fun σ H Q => te σ H fun a b H1 => (b - a).toNat ≤ 2 ^ 24 ∧ ∀ q, H1 q = none → Q (.ref q) (upd H1 q (.lst (rgV a b)))
theorem pe_listRgA {p pos : Pos} (hc : X.calm = true) (hg : Gl X "list") (hm : X.mg "list" = none) (he : PRg X e te) (na : starEach [e] X.env = (false, eval e X.env) :: starEach [] X.env := by rfl) : PE X (.Call (.Name "list" p) [e] [] pos) (tLstRgA te) := by
  refine ⟨fun pins s σ H Q I h => ?_⟩
  refine Call_ (ld_blt I hg hm boot_list (PyProof.Rows.callWith_type1 (args_cons (thn (he pins s σ H _ I h) fun x s1 ⟨r, a, b, t, u, v, H1, ex, hr, I1, b5, q⟩ => args_nil ?_) na) na))
  subst ex
  have fin : ∀ h' tk (acc' : Array Value) c', (∀ b o, s1.heap.get? b = some o → h'.get? b = some o) → h'.get? s1.heap.objs.size = some { cls := .type "list", dict := none, data := .seq acc' c', slots := #[] } →
      ItemsOf (fun i v => ∃ t, v = .int (a + i * 1) t) acc' (b - a).toNat → EP X pins σ Q (.ref s1.heap.objs.size) { s1 with heap := h', toks := tk } := fun h' tk acc c' hk e' hi => by
    refine ⟨.ref s1.heap.objs.size, upd H1 s1.heap.objs.size (.lst (rgV a b)), I1.laid hk (Nat.le_refl _) (show ObjOk X.prog X.w _ _ _ (.lst (rgV a b)) from ⟨?_, acc.toList, c', vals_rg hi, ?_⟩), rfl, q _ (I1.hok.fresh (Nat.le_refl _))⟩
    · rw [rgV_length, sizeLine_eq]; omega
    · rw [Array.toArray_toList]; exact e'
  cases hsm : Builtin.Range.small a b 1 with
  | true => exact call_list_range (n := (b - a).toNat) (I1.ok.hd hc) hr hsm (rangeSize_nat a b) b5 fin
  | false => exact dl_list_long (n := (b - a).toNat) (I1.ok.hd hc) hr hsm (rangeSize_nat a b) b5 fin
/-- x in t, x a value of any kind -/
def rInA (K : PySem.W.Frag) : R2 := fun x y H Q => rIn K false x y H Q ∨ (rInD K x y H Q ∨ ∃ i j, x = .str i ∧ y = .str j ∧ Q (.bl (!(Builtin.Str.occurrences j i 0 j.length 1).isEmpty)) H)
theorem op_inA (hu : X.A.units + 65 < cLine) : OpR X (compareOp .In) (rInA X.K) := op_in_seq.or ((op_inD hu).or op_in_str)
def rNotInA (K : PySem.W.Frag) : R2 := fun x y H Q => rIn K true x y H Q ∨ ∃ i j, x = .str i ∧ y = .str j ∧ Q (.bl (!(!(Builtin.Str.occurrences j i 0 j.length 1).isEmpty))) H
theorem op_notInA : OpR X (compareOp .NotIn) (rNotInA X.K) := op_notIn_seq.or op_notIn_str
end
end L2
namespace DL
open PySem PySem.Spec L2
section
variable {X : Cx} {W : WX} {a b e : Expr} {ma mb : M D} {p p1 pos : Pos}
/-! ### list(range(..)) -/
theorem span_rg {K : PySem.W.Frag} {F : Hp} (lo hi : Int) : IsAll K F (rgV lo hi) (span lo (hi - lo).toNat) := by
  have : ∀ (f : Nat → V) (g : Nat → D) (n : Nat), (∀ k, Is K F (f k) (g k)) → IsAll K F ((List.range n).map f) ((List.range n).map g) := by
    intro f g n
    induction n generalizing f g with
    | zero => intro _; exact .nil
    | succ n ih =>
      intro h
      rw [List.range_succ_eq_map, List.map_cons, List.map_cons, List.map_map, List.map_map]
      exact .cons (h 0) (ih _ _ fun k => h (k + 1))
  exact this _ _ _ fun k => .int _
def cListRg (ma mb : M D) : M Sl := fun ρ => (ma ρ).bind fun x ρ1 => (mb ρ1).bind fun y ρ2 => match x, y with
  | .int i, .int j => if (j - i).toNat ≤ 16777216 then .ok (.own (span i (j - i).toNat)) ρ2 else .bad
  | _, _ => .bad
theorem de_listRg2 {q : Pos} (hc : X.calm = true) (hg : Gl X "list") (hm : X.mg "list" = none) (hg2 : Gl X "range") (hm2 : X.mg "range" = none) (ha : DV X W a ma) (hb : DV X W b mb)
    (n1 : starEach [a, b] X.env = (false, eval a X.env) :: starEach [b] X.env := by rfl) (n2 : starEach [b] X.env = (false, eval b X.env) :: starEach [] X.env := by rfl) (n3 : (backTo p1 (starEach [b] X.env)).any (·.1) = false := by rfl)
    (n4 : starEach [.Call (.Name "range" p) [a, b] [] p1] X.env = (false, eval (.Call (.Name "range" p) [a, b] [] p1) X.env) :: starEach [] X.env := by rfl) :
    DE X W (.Call (.Name "list" q) [.Call (.Name "range" p) [a, b] [] p1] [] pos) (cListRg ma mb) := by
  obtain ⟨ta, pa, ka⟩ := ha.run
  obtain ⟨tb, pb, kb⟩ := hb.run
  refine ⟨_, pe_listRgA hc hg hm (prg_2 hg2 hm2 pa pb n1 n2 n3) n4, fun c F H σ ρ Q S q => ?_⟩
  refine ka c F H σ ρ _ S ((Post.bind q).imp fun F1 H1 ρ1 d1 e1 S1 q1 v1 r1 => ?_)
  refine kb c F1 H1 σ ρ1 _ S1 ((Post.bind q1).imp fun F2 H2 ρ2 d2 e2 S2 q2 v2 r2 => ?_)
  cases r1 with
  | int i => cases r2 with
    | int j =>
      by_cases hz : (j - i).toNat ≤ 16777216
      · have q2 : Post X.K c W F2 σ (fun F' H' ρ' s => ∀ v, Res X.K c F' H' σ ρ' v s → Q v H') (if (j - i).toNat ≤ 16777216 then .ok (.own (span i (j - i).toNat)) ρ2 else .bad) := q2
        rw [if_pos hz] at q2
        refine ⟨i, j, rfl, rfl, hz, fun p hp => ?_⟩
        exact q2 F2 _ (Same.refl _) (S2.allocH hp) _ (res_own S2 hp (span_rg i j))
      · have q2 : Post X.K c W F2 σ (fun F' H' ρ' s => ∀ v, Res X.K c F' H' σ ρ' v s → Q v H') (if (j - i).toNat ≤ 16777216 then .ok (.own (span i (j - i).toNat)) ρ2 else .bad) := q2
        rw [if_neg hz] at q2
        exact q2.elim
    | _ => exact q2.elim
  | _ => cases r2 <;> exact q2.elim
theorem de_listRg1 {q : Pos} (hc : X.calm = true) (hg : Gl X "list") (hm : X.mg "list" = none) (hg2 : Gl X "range") (hm2 : X.mg "range" = none) (ha : DV X W a ma)
    (n1 : starEach [a] X.env = (false, eval a X.env) :: starEach [] X.env := by rfl)
    (n4 : starEach [.Call (.Name "range" p) [a] [] p1] X.env = (false, eval (.Call (.Name "range" p) [a] [] p1) X.env) :: starEach [] X.env := by rfl) :
    DE X W (.Call (.Name "list" q) [.Call (.Name "range" p) [a] [] p1] [] pos) (cListRg (cC (.int 0)) ma) := by
  obtain ⟨ta, pa, ka⟩ := ha.run
  refine ⟨_, pe_listRgA hc hg hm (prg_1 hg2 hm2 pa n1) n4, fun c F H σ ρ Q S q => ?_⟩
  have q : Post X.K c W F σ (fun F' H' ρ' s => ∀ v, Res X.K c F' H' σ ρ' v s → Q v H') ((ma ρ).bind fun y ρ2 => match D.int 0, y with
    | .int i, .int j => if (j - i).toNat ≤ 16777216 then .ok (.own (span i (j - i).toNat)) ρ2 else .bad
    | _, _ => .bad) := q
  refine ka c F H σ ρ _ S ((Post.bind q).imp fun F2 H2 ρ2 d2 e2 S2 q2 v2 r2 => ?_)
  cases r2 with
  | int j =>
    have q2 : Post X.K c W F2 σ (fun F' H' ρ' s => ∀ v, Res X.K c F' H' σ ρ' v s → Q v H') (if (j - 0).toNat ≤ 16777216 then .ok (.own (span 0 (j - 0).toNat)) ρ2 else .bad) := q2
    by_cases hz : (j - 0).toNat ≤ 16777216
    · rw [if_pos hz] at q2
      refine ⟨j, rfl, hz, fun p hp => ?_⟩
      exact q2 F2 _ (Same.refl _) (S2.allocH hp) _ (res_own S2 hp (span_rg 0 j))
    · rw [if_neg hz] at q2
      exact q2.elim
  | _ => exact q2.elim
/-! ### -x -/
def D.neg : D → Option D
  | .int i => some (.int (-i))
  | _ => none
def cUn (op : D → Option D) (m : M D) : M D := fun ρ => (m ρ).bind fun d ρ1 => ret (op d) ρ1
theorem dv_neg (ha : DV X W a ma) : DV X W (.UnaryOp .USub a pos) (cUn D.neg ma) := by
  obtain ⟨ta, pa, ka⟩ := ha.run
  refine ⟨_, pe_un un_neg pa, fun c F H σ ρ Q S q => ka c F H σ ρ _ S ((Post.bind q).imp fun F1 H1 ρ1 d1 e1 S1 q1 v1 r1 => ?_)⟩
  cases r1 with
  | int i => exact ⟨i, rfl, q1 F1 H1 (Same.refl _) S1 _ (.int _)⟩
  | _ => exact q1.elim
/-! ### + of lists too -/
def D.addE : D → D → Option D
  | .lst a, .lst b => if a.length + b.length ≤ sizeLine then some (.lst (a ++ b)) else none
  | d, e => D.add d e
theorem do_addE : DOp X (binaryOp .Add) D.addE := by
  obtain ⟨r, hr, k⟩ := do_add (X := X)
  refine ⟨_, hr.or op_cat, fun c F H σ ρ Q x y d e z S rx ry h q => ?_⟩
  cases rx with
  | lst s t =>
    cases ry with
    | lst s' t' =>
      obtain ⟨hc, rfl⟩ := eq_some_if h
      have ha := t.length
      have hb := t'.length
      refine .inr ⟨_, _, _, _, rfl, rfl, S.fh _ _ s, S.fh _ _ s', by omega, fun p hp => ?_⟩
      have hF := S.freshF hp
      exact q _ _ _ (same_new hF) (S.alloc hp) (.lst upd_same ((t.append t').mono (same_new hF)))
    | _ => cases h
  | int i => exact .inl (k c F H σ ρ Q _ _ _ _ _ S (.int i) ry h q)
  | str x => exact .inl (k c F H σ ρ Q _ _ _ _ _ S (.str x) ry h q)
  | tup s t => exact .inl (k c F H σ ρ Q _ _ _ _ _ S (.tup s t) ry h q)
  | _ => cases ry <;> cases h
/-! ### in -/
def D.flat : D → Bool
  | .non => true
  | .bl _ => true
  | .int _ => true
  | .str _ => true
  | _ => false
/-- == of flat data -/
def D.eqF : D → D → Bool
  | .non, .non => true
  | .bl a, .bl b => a == b
  | .bl a, .int b => (if a then 1 else 0) == b
  | .int a, .bl b => a == (if b then 1 else 0)
  | .int a, .int b => a == b
  | .str a, .str b => a == b
  | _, _ => false
def D.memF (d : D) (es : List D) : Bool := es.any fun z => D.eqF z d
def D.inE : D → D → Option D
  | d, .tup es => if d.flat && es.all D.flat then some (.bl (d.memF es)) else none
  | d, .lst es => if d.flat && es.all D.flat then some (.bl (d.memF es)) else if SeqAt.shaped d.py && SeqAt.shaped (D.lst es).py then some (.bl ((D.pys es).any fun z => PyData.eqv z d.py)) else none
  | .str x, .str y => some (.bl (!(Builtin.Str.occurrences y x 0 y.length 1).isEmpty))
  | .int i, .scr ns => some (.bl (ns.any fun n => n == i))
  | _, _ => none
def D.notInE : D → D → Option D
  | d, .tup es => if d.flat && es.all D.flat then some (.bl (!d.memF es)) else none
  | d, .lst es => if d.flat && es.all D.flat then some (.bl (!d.memF es)) else none
  | .str x, .str y => some (.bl (!(!(Builtin.Str.occurrences y x 0 y.length 1).isEmpty)))
  | .int i, .scr ns => some (.bl (!ns.any fun n => n == i))
  | _, _ => none
theorem is_flat {K : PySem.W.Frag} {F : Hp} {v : V} {d : D} (r : Is K F v d) (h : d.flat = true) : flatV v = true := by
  cases r <;> first | rfl | cases h
theorem is_eqF {K : PySem.W.Frag} {F : Hp} {v w : V} {d e : D} (r : Is K F v d) (r' : Is K F w e) (h : d.flat = true) (h' : e.flat = true) : eqV v w = D.eqF d e := by
  cases r <;> cases r' <;> first | rfl | cases h | cases h'
theorem isAll_flat {K : PySem.W.Frag} {F : Hp} : ∀ {vs : List V} {ds : List D}, IsAll K F vs ds → ds.all D.flat = true → vs.all flatV = true
  | _, _, .nil, _ => rfl
  | _, _, .cons r t, h => by
    rw [List.all_cons, Bool.and_eq_true] at h ⊢
    exact ⟨is_flat r h.1, isAll_flat t h.2⟩
theorem is_memF {K : PySem.W.Frag} {F : Hp} {v : V} {d : D} (r : Is K F v d) (hd : d.flat = true) : ∀ {vs : List V} {ds : List D}, IsAll K F vs ds → ds.all D.flat = true → inV v vs = d.memF ds
  | _, _, .nil, _ => rfl
  | _, _, .cons r' t, h => by
    rw [List.all_cons, Bool.and_eq_true] at h
    have ih := is_memF r hd t h.2
    unfold inV D.memF at ih ⊢
    rw [List.any_cons, List.any_cons, ih, is_eqF r' r h.1 hd]
theorem scr_mem {i : Int} : ∀ ns : List Int, inV (.int i) (ns.map V.int) = ns.any fun n => n == i
  | [] => rfl
  | n :: ns => by
    have ih := scr_mem (i := i) ns
    unfold inV at ih ⊢
    rw [List.map_cons, List.any_cons, List.any_cons, ih]
    rfl
theorem scr_flat : ∀ ns : List Int, (ns.map V.int).all flatV = true
  | [] => rfl
  | n :: ns => by rw [List.map_cons, List.all_cons, scr_flat ns]; rfl
theorem do_in (hu : X.A.units + 65 < cLine) : DOp X (compareOp .In) D.inE := by
  refine ⟨_, op_inA hu, fun c F H σ ρ Q x y d e z S rx ry h q => ?_⟩
  have fin : ∀ b, z = .bl b → Q (.bl b) H := fun b e => q _ F H (Same.refl _) S (by rw [e]; exact .bl b)
  cases ry with
  | tup s t =>
    rename_i a xs es
    have h' : (if d.flat && es.all D.flat then some (D.bl (d.memF es)) else none) = some z := by cases d <;> exact h
    obtain ⟨hc, hz⟩ := eq_some_if h'
    rw [Bool.and_eq_true] at hc
    refine .inl ⟨_, _, rfl, .inr (sqT_mono S.fh s), is_flat rx hc.1, isAll_flat t hc.2, ?_⟩
    rw [if_neg Bool.false_ne_true, is_memF rx hc.1 t hc.2]
    exact fin _ hz.symm
  | lst s t =>
    rename_i a xs es
    have h' : (if d.flat && es.all D.flat then some (D.bl (d.memF es)) else if SeqAt.shaped d.py && SeqAt.shaped (D.lst es).py then some (.bl ((D.pys es).any fun z => PyData.eqv z d.py)) else none) = some z := by cases d <;> exact h
    by_cases hc : (d.flat && es.all D.flat) = true
    · rw [if_pos hc] at h'
      rw [Bool.and_eq_true] at hc
      refine .inl ⟨_, _, rfl, .inl (.of (S.fh _ _ s)), is_flat rx hc.1, isAll_flat t hc.2, ?_⟩
      rw [if_neg Bool.false_ne_true, is_memF rx hc.1 t hc.2]
      exact fin _ (Option.some.inj h').symm
    · rw [if_neg hc] at h'
      obtain ⟨hs, hz⟩ := eq_some_if h'
      rw [Bool.and_eq_true] at hs
      refine .inr (.inl ⟨_, _, dp_mono S rx hs.1, dp_mono S (.lst s t) hs.2, hs.1, hs.2, ?_⟩)
      exact fin _ hz.symm
  | str j =>
    cases rx with
    | str i => cases h; exact .inr (.inr ⟨i, j, rfl, rfl, fin _ rfl⟩)
    | _ => cases h
  | scr s =>
    rename_i a ns
    cases rx with
    | int i =>
      cases h
      refine .inl ⟨_, _, rfl, .inl (sqL_mono S.fh s), rfl, scr_flat ns, ?_⟩
      rw [if_neg Bool.false_ne_true, scr_mem]
      exact fin _ rfl
    | _ => cases h
  | _ => cases rx <;> cases h
theorem do_notIn : DOp X (compareOp .NotIn) D.notInE := by
  refine ⟨_, op_notInA, fun c F H σ ρ Q x y d e z S rx ry h q => ?_⟩
  have fin : ∀ b, z = .bl b → Q (.bl b) H := fun b e => q _ F H (Same.refl _) S (by rw [e]; exact .bl b)
  cases ry with
  | tup s t =>
    rename_i a xs es
    have h' : (if d.flat && es.all D.flat then some (D.bl (!d.memF es)) else none) = some z := by cases d <;> exact h
    obtain ⟨hc, hz⟩ := eq_some_if h'
    rw [Bool.and_eq_true] at hc
    refine .inl ⟨_, _, rfl, .inr (sqT_mono S.fh s), is_flat rx hc.1, isAll_flat t hc.2, ?_⟩
    rw [if_pos rfl, is_memF rx hc.1 t hc.2]
    exact fin _ hz.symm
  | lst s t =>
    rename_i a xs es
    have h' : (if d.flat && es.all D.flat then some (D.bl (!d.memF es)) else none) = some z := by cases d <;> exact h
    obtain ⟨hc, hz⟩ := eq_some_if h'
    rw [Bool.and_eq_true] at hc
    refine .inl ⟨_, _, rfl, .inl (.of (S.fh _ _ s)), is_flat rx hc.1, isAll_flat t hc.2, ?_⟩
    rw [if_pos rfl, is_memF rx hc.1 t hc.2]
    exact fin _ hz.symm
  | str j =>
    cases rx with
    | str i => cases h; exact .inr ⟨i, j, rfl, rfl, fin _ rfl⟩
    | _ => cases h
  | scr s =>
    rename_i a ns
    cases rx with
    | int i =>
      cases h
      refine .inl ⟨_, _, rfl, .inl (sqL_mono S.fh s), rfl, scr_flat ns, ?_⟩
      rw [if_pos rfl, scr_mem]
      exact fin _ rfl
    | _ => cases h
  | _ => cases rx <;> cases h
/-! ### slices -/
structure DO (X : Cx) (W : WX) (e : Option Expr) (m : M (Option Int)) : Prop where
  run : ∃ t, PO X e t ∧ ∀ c F H σ ρ (Q : Option Int → Hp → Prop), SR X.K c F H σ ρ → Post X.K c W F σ (fun F' H' _ o => Q o H') (m ρ) → t σ H Q
def oNone : M (Option Int) := fun ρ => .ok none ρ
def oSome (m : M D) : M (Option Int) := fun ρ => (m ρ).bind fun d ρ1 => match d with
  | .int i => .ok (some i) ρ1
  | _ => .bad
theorem do_none : DO X W none oNone := ⟨_, po_none, fun c F H σ ρ Q S p => p F H (Same.refl _) S⟩
theorem do_some (h : DV X W a ma) : DO X W (some a) (oSome ma) := by
  obtain ⟨ta, pa, ka⟩ := h.run
  refine ⟨_, po_some pa, fun c F H σ ρ Q S q => ka c F H σ ρ _ S ((Post.bind q).imp fun F1 H1 ρ1 d1 e1 S1 q1 v1 r1 => ?_)⟩
  cases r1 with
  | int i => exact ⟨i, rfl, q1 F1 H1 (Same.refl _) S1⟩
  | _ => exact q1.elim
def cutL {α : Type} (xs : List α) (lo hi : Option Int) : List α := (xs.drop (HT.sIx xs.length 0 lo)).take (HT.sIx xs.length xs.length hi - HT.sIx xs.length 0 lo)
def D.slice (lo hi : Option Int) : D → Option Sl
  | .lst ds => some (.own (cutL ds lo hi))
  | .scr ns => some (.own ((cutL ns lo hi).map D.int))
  | .tup ds => some (.val (.tup (cutL ds lo hi)))
  | .str z => if z.length ≤ sizeLine then some (.val (.str (cutS z lo hi))) else none
  | _ => none
def cSl (ma : M D) (ml mh : M (Option Int)) : M Sl := fun ρ => (ma ρ).bind fun d ρ1 => (ml ρ1).bind fun lo ρ2 => (mh ρ2).bind fun hi ρ3 => match d.slice lo hi with
  | some s => .ok s ρ3
  | none => .bad
theorem isAll_cut {K : PySem.W.Frag} {F : Hp} {vs : List V} {ds : List D} (t : IsAll K F vs ds) (lo hi : Option Int) : IsAll K F (cutV vs lo hi) (cutL ds lo hi) := by
  unfold cutV cutL
  rw [t.length]
  exact (t.drop _).take _
theorem cut_whole {ds : List D} {lo hi : Option Int} (h : HT.sIx ds.length 0 lo = 0 ∧ HT.sIx ds.length ds.length hi = ds.length) : cutL ds lo hi = ds := by
  unfold cutL
  rw [h.1, h.2]
  simp
theorem de_slice {lo hi : Option Expr} {ml mh : M (Option Int)} {p2 : Pos} (ha : DV X W a ma) (hl : DO X W lo ml) (hh : DO X W hi mh) : DE X W (.Subscript a (.Slice lo hi none p2) pos) (cSl ma ml mh) := by
  obtain ⟨ta, pa, ka⟩ := ha.run
  obtain ⟨tl, pl, kl⟩ := hl.run
  obtain ⟨th, ph, kh⟩ := hh.run
  refine ⟨_, pe_slice (sl_list.or (sl_tupA.or sl_str)) pa pl ph, fun c F H σ ρ Q S q => ka c F H σ ρ _ S ((Post.bind q).imp fun F1 H1 ρ1 d e1 S1 q1 v r => ?_)⟩
  refine kl c F1 H1 σ ρ1 _ S1 ((Post.bind q1).imp fun F2 H2 ρ2 lo e2 S2 q2 => ?_)
  refine kh c F2 H2 σ ρ2 _ S2 ((Post.bind q2).imp fun F3 H3 ρ3 hi e3 S3 q3 => ?_)
  have r3 := r.mono (e2.trans e3)
  cases z : d.slice lo hi with
  | none => rw [z] at q3; exact q3.elim
  | some s =>
    rw [z] at q3
    cases r3 with
    | lst s t =>
      cases z
      exact .inl ⟨_, _, rfl, .of (S3.fh _ _ s), fun p hp => q3 F3 _ (Same.refl _) (S3.allocH hp) _ (res_own S3 hp (isAll_cut t lo hi))⟩
    | scr s =>
      rename_i a' ns
      cases z
      refine .inl ⟨_, _, rfl, sqL_mono S3.fh s, fun p hp => q3 F3 _ (Same.refl _) (S3.allocH hp) _ (res_own S3 hp ?_)⟩
      have := isAll_cut (K := X.K) (F := F3) (IsAll.ints ns) lo hi
      have e : cutL (ns.map D.int) lo hi = (cutL ns lo hi).map D.int := by
        unfold cutL
        rw [List.length_map, List.map_take, List.map_drop]
      rw [e] at this
      exact this
    | tup s t =>
      cases z
      refine .inr (.inl ⟨_, _, rfl, sqT_mono S3.fh s, fun hw => ?_, fun _ p hp => ?_⟩)
      · rw [t.length] at hw
        rw [cut_whole hw] at q3
        exact q3 F3 H3 (Same.refl _) S3 _ (.tup s t)
      · have hF := S3.freshF hp
        exact q3 _ _ (same_new hF) (S3.alloc hp) _ (.tup (.of upd_same) ((isAll_cut t lo hi).mono (same_new hF)))
    | str x =>
      have z' : (if x.length ≤ sizeLine then some (Sl.val (.str (cutS x lo hi))) else none) = some s := z
      obtain ⟨hz, rfl⟩ := eq_some_if z'
      exact .inr (.inr ⟨x, rfl, hz, q3 F3 H3 (Same.refl _) S3 _ (.str _)⟩)
    | _ => cases z
end
end DL

end
section
namespace L2
open PySem PySem.Spec PyProof.Rows
/-- the values at the places is -/
def pick {α : Type} (is : List Nat) (l : List α) : List α := is.filterMap fun i => l[i]?
theorem vals_get : ∀ {vs : List V} {us : List Value} {i : Nat}, Vals vs us → (∀ v, vs[i]? = some v → ∃ u, us[i]? = some u ∧ RelV v u) ∧ (vs[i]? = none → us[i]? = none)
  | _, _, i, .nil => ⟨fun v h => by simp at h, fun _ => by simp⟩
  | _, _, 0, .cons r t => ⟨fun v h => by simp at h; subst h; exact ⟨_, rfl, r⟩, fun h => by simp at h⟩
  | _, _, i + 1, .cons r t => by
    have ih := vals_get (i := i) t
    exact ⟨fun v h => ih.1 v (by simpa using h), fun h => by simpa using ih.2 (by simpa using h)⟩
theorem Vals.pick {vs : List V} {us : List Value} (r : Vals vs us) : ∀ is : List Nat, Vals (L2.pick is vs) (L2.pick is us)
  | [] => .nil
  | i :: is => by
    have ih := Vals.pick r is
    have g := vals_get (i := i) r
    unfold L2.pick at ih ⊢
    rw [List.filterMap_cons, List.filterMap_cons]
    cases h : vs[i]? with
    | none => rw [g.2 h]; exact ih
    | some v =>
      obtain ⟨u, h2, r2⟩ := g.1 v h
      rw [h2]
      exact .cons r2 ih
section
variable {X : Cx} {CX : CXT} {k n : Nat} {f : Addr} {fd : FuncData} {ps ks : List Str} {sp : Sp} {E : St → XK} {x : Str} {p pos : Pos} {e : Expr} {es : List Expr} {kws : List Keyword} {t tk : TA} {is : List Nat}
/-- n positional values, keywords named ks; the parameters are these values in the order is -/
structure KPick (K : PySem.W.Frag) (fd : FuncData) (ps : List Str) (n : Nat) (ks : List Str) (is : List Nat) : Prop where
  to : ∀ (s : Shared) (us ws : List Value), K.In s.heap → us.length = n → ws.length = ks.length → BindsTo s fd ⟨us, ks.zip ws⟩ (ps.zip (pick is (us ++ ws)))
theorem run_fnK {pins : List (Addr × Obj)} {σ : St} {H : Hp} {s : Shared} {Q : VK} {us ws : List Value} {vs zs : List V} (F : FnOk X.prog X.w X.K X.mg X.base CX k f fd ps sp) (hr : Room k X.A) (hb : KPick X.K fd ps n ks is) (hx : PassesAt CX X σ (E σ))
    (I : Inv X pins σ H s) (r : Vals vs us) (rz : Vals zs ws) (l1 : vs.length = n) (l2 : zs.length = ks.length) (h : sp (pick is (vs ++ zs)) H Q (E σ)) : wpAny (model X.prog X.w) X.A (call (.ref f) us (ks.zip ws)) (EP X pins σ Q) X.xe s := by
  have r2 : Vals (pick is (vs ++ zs)) (pick is (us ++ ws)) := (r.append rz).pick is
  refine wpAny_call (codeAny_mono (F.run X.A X.stack s H ⟨us, ks.zip ws⟩ _ _ Q (E σ) hr I.env0 (hb.to s us ws I.kIn (r.length.symm.trans l1) (rz.length.symm.trans l2)) r2 h) fun r s' hq => ?_)
  cases r with
  | error e => exact hx pins H s e s' I hq
  | ok fl =>
    cases fl with
    | ret u => exact I.after hq
    | next => exact False.elim hq
    | brk => exact False.elim hq
    | cont => exact False.elim hq
def tCallKw (n m : Nat) (is : List Nat) (sp : Sp) (E : St → XK) (t tk : TA) : TE := fun σ H Q => t σ H fun vs H1 => tk σ H1 fun zs H2 => vs.length = n ∧ zs.length = m ∧ sp (pick is (vs ++ zs)) H2 Q (E σ)
/-- f(k = v, ..) -/
theorem pe_callKw0 (F : FnOk X.prog X.w X.K X.mg X.base CX k f fd ps sp) (hr : Room k X.A) (hg : Gl X x) (hm : X.mg x = some (.ref f)) (hk : PySem.W.keepIn X.K (.ref f) = true) (hb : KPick X.K fd ps 0 ks is) (hx : ∀ σ, PassesAt CX X σ (E σ))
    (hkw : PK X kws tk) (hall : (backToKw pos (keywordEach kws X.env)).all (·.1.isSome) = true := by rfl) (hks : (backToKw pos (keywordEach kws X.env)).filterMap (·.1) = ks := by rfl)
    (hdb : (x == ("__debug__" : Str)) = false := by decide) (hpl : ((backTo pos (starEach [] X.env)).any (·.1) || (backToKw pos (keywordEach kws X.env)).any (·.1.isNone)) = false := by rfl) :
    PE X (.Call (.Name x p) [] kws pos) (tCallKw 0 ks.length is sp E tNil tk) := by
  refine ⟨fun pins s σ H Q I h => ?_⟩
  refine wpAny_Call_Name_kw (ld_glob I hg hm ?_ hdb)
  refine PySem.W.callWith_KW0 (h₀ := X.base) I.ok.mod.kin hk hall ?_ hpl
  refine thn (hkw.run pos pins s σ H _ I h) fun ws s2 ⟨zs, H2, I2, rz, l1, l2, q2⟩ => ⟨I2.kIn, ?_⟩
  rw [hks]
  exact run_fnK F hr hb (hx σ) I2 .nil rz l1 l2 q2
/-- f(e, .., k = v, ..) -/
theorem pe_callKw (F : FnOk X.prog X.w X.K X.mg X.base CX k f fd ps sp) (hr : Room k X.A) (hg : Gl X x) (hm : X.mg x = some (.ref f)) (hk : PySem.W.keepIn X.K (.ref f) = true) (hb : KPick X.K fd ps n ks is) (hx : ∀ σ, PassesAt CX X σ (E σ))
    (ha : PA X (e :: es) t) (hkw : PK X kws tk) (hall : (backToKw pos (keywordEach kws X.env)).all (·.1.isSome) = true := by rfl) (hks : (backToKw pos (keywordEach kws X.env)).filterMap (·.1) = ks := by rfl)
    (hdb : (x == ("__debug__" : Str)) = false := by decide) (he : starEach (e :: es) X.env = (false, eval e X.env) :: starEach es X.env := by rfl)
    (hpl : ((backTo pos (starEach (e :: es) X.env)).any (·.1) || (backToKw pos (keywordEach kws X.env)).any (·.1.isNone)) = false := by rfl) :
    PE X (.Call (.Name x p) (e :: es) kws pos) (tCallKw n ks.length is sp E t tk) := by
  refine ⟨fun pins s σ H Q I h => ?_⟩
  refine wpAny_Call_Name_kw (ld_glob I hg hm ?_ hdb)
  refine PySem.W.callWith_KW (h₀ := X.base) I.ok.mod.kin hk hall (thn (ha.run pos pins s σ H _ I h) fun us s1 ⟨vs, H1, I1, r, q⟩ => ?_) hpl he
  refine thn (hkw.run pos pins s1 σ H1 _ I1 q) fun ws s2 ⟨zs, H2, I2, rz, l1, l2, q2⟩ => ⟨I2.kIn, ?_⟩
  rw [hks]
  exact run_fnK F hr hb (hx σ) I2 r rz l1 l2 q2
end
section
variable {K : PySem.W.Frag} {x qual : Str} {params : Arguments} {body : List Stmt} {scope : Scope} {dvs : List V} {kws : List (Str × V)} {f : Addr} {fd : FuncData} {ps : List Str}
theorem FunD.kpick (F : FunD K x qual params body scope [] kws f fd) (n : Nat) (ks : List Str) (is : List Nat)
    (h : ∀ (kV doc pm : Value) (an : Option Addr) (cdv ct : Value) (us ws : List Value), us.length = n → ws.length = ks.length → bindArgs (PySem.W.fnOf x qual params body scope .none kV doc pm an cdv ct) ⟨us, ks.zip ws⟩ = pure (ps.zip (pick is (us ++ ws)))) : KPick K fd ps n ks is := by
  obtain ⟨oc, od, dV, kV, doc, pm, an, cdv, ct, osl, rfl, lk, hcd, hD, hK⟩ := F.ex
  rcases hD with ⟨_, rfl⟩ | ⟨e, _⟩
  · exact ⟨fun s us ws _ l1 l2 => .of_eq (h kV doc pm an cdv ct us ws l1 l2)⟩
  · exact absurd rfl e
end
end L2
namespace DL
open PySem PySem.Spec L2
structure DK (X : Cx) (W : WX) (kws : List Keyword) (m : M (List D)) : Prop where
  run : ∃ ta, PK X kws ta ∧ ∀ c F H σ ρ (Q : List V → Hp → Prop), SR X.K c F H σ ρ → Post X.K c W F σ (fun F' H' _ ds => ∀ vs, IsAll X.K F' vs ds → Q vs H') (m ρ) → ta σ H Q
section
variable {X : Cx} {W : WX} {k n : Nat} {f : Addr} {fd : FuncData} {ps ks : List Str} {g : List D → RF} {x : Str} {p pos kpos : Pos} {a e : Expr} {es : List Expr} {kws : List Keyword} {m : M D} {ms mk : M (List D)} {is : List Nat} {nm : Option Str}
theorem dk_nil : DK X W [] aNil := ⟨tNil, pk_nil, fun c F H σ ρ Q S p => p F H (Same.refl _) S [] .nil⟩
theorem dk_cons (h : DV X W a m) (hs : DK X W kws ms) : DK X W (⟨nm, a, kpos⟩ :: kws) (aCons m ms) := by
  obtain ⟨te, pe, k⟩ := h.run
  obtain ⟨ta, pa, ks⟩ := hs.run
  refine ⟨_, pk_cons pe pa, fun c F H σ ρ Q S p => k c F H σ ρ _ S ((Post.bind p).imp fun F1 H1 ρ1 d1 e1 S1 q1 v1 r1 => ?_)⟩
  exact ks c F1 H1 σ ρ1 _ S1 ((Post.bind q1).imp fun F2 H2 ρ2 ds e2 S2 q2 vs rs => q2 F2 H2 (Same.refl _) S2 _ (.cons (r1.mono e2) rs))
theorem IsAll.pick {K : PySem.W.Frag} {F : Hp} {vs : List V} {ds : List D} (r : IsAll K F vs ds) : ∀ is : List Nat, IsAll K F (L2.pick is vs) (L2.pick is ds)
  | [] => .nil
  | i :: is => by
    have ih := IsAll.pick r is
    unfold L2.pick at ih ⊢
    rw [List.filterMap_cons, List.filterMap_cons]
    cases h : vs[i]? with
    | none =>
      cases h2 : ds[i]? with
      | none => exact ih
      | some d =>
        obtain ⟨v, h3, _⟩ := r.get h2
        rw [h] at h3
        cases h3
    | some v =>
      obtain ⟨d, h2, r2⟩ := r.getV h
      rw [h2]
      exact .cons r2 ih
def cFnK (n m : Nat) (is : List Nat) (g : List D → RF) (ms mk : M (List D)) : M Sl := fun ρ => (ms ρ).bind fun ds ρ1 => (mk ρ1).bind fun es ρ2 => if ds.length = n ∧ es.length = m then (g (L2.pick is (ds ++ es))).to ρ2 else .bad
theorem de_callK0 (F : FnOk X.prog X.w X.K X.mg X.base (L2.CX X.prog X.w) k f fd ps (spV X.K g)) (hr : Room k X.A) (hg : Gl X x) (hm : X.mg x = some (.ref f)) (hk : PySem.W.keepIn X.K (.ref f) = true) (hb : KPick X.K fd ps 0 ks is) (tk : Takes X W)
    (hkw : DK X W kws mk) (hall : (backToKw pos (keywordEach kws X.env)).all (·.1.isSome) = true := by rfl) (hks : (backToKw pos (keywordEach kws X.env)).filterMap (·.1) = ks := by rfl)
    (hdb : (x == ("__debug__" : Str)) = false := by decide) (hpl : ((backTo pos (starEach [] X.env)).any (·.1) || (backToKw pos (keywordEach kws X.env)).any (·.1.isNone)) = false := by rfl) :
    DE X W (.Call (.Name x p) [] kws pos) (cFnK 0 ks.length is g aNil mk) := by
  obtain ⟨ta, pa, ka⟩ := hkw.run
  refine ⟨_, pe_callKw0 (E := WE W) F hr hg hm hk hb (fun σ => passAt tk σ) pa hall hks hdb hpl, fun c F0 H σ ρ Q S q => ?_⟩
  have q : Post X.K c W F0 σ (fun F' H' ρ' s => ∀ v, Res X.K c F' H' σ ρ' v s → Q v H') ((mk ρ).bind fun es ρ2 => if ([] : List D).length = 0 ∧ es.length = ks.length then (g (L2.pick is ([] ++ es))).to ρ2 else .bad) := q
  refine ka c F0 H σ ρ _ S ((Post.bind q).imp fun F1 H1 ρ1 ds e1 S1 q1 vs rs => ?_)
  by_cases hl : ([] : List D).length = 0 ∧ ds.length = ks.length
  · rw [if_pos hl] at q1
    exact ⟨rfl, rs.length.trans hl.2, call_use S1 rfl (IsAll.pick (IsAll.append .nil rs) is) q1⟩
  · rw [if_neg hl] at q1
    exact q1.elim
theorem de_callK (F : FnOk X.prog X.w X.K X.mg X.base (L2.CX X.prog X.w) k f fd ps (spV X.K g)) (hr : Room k X.A) (hg : Gl X x) (hm : X.mg x = some (.ref f)) (hk : PySem.W.keepIn X.K (.ref f) = true) (hb : KPick X.K fd ps n ks is) (tk : Takes X W)
    (ha : DA X W (e :: es) ms) (hkw : DK X W kws mk) (hall : (backToKw pos (keywordEach kws X.env)).all (·.1.isSome) = true := by rfl) (hks : (backToKw pos (keywordEach kws X.env)).filterMap (·.1) = ks := by rfl)
    (hdb : (x == ("__debug__" : Str)) = false := by decide) (he : starEach (e :: es) X.env = (false, eval e X.env) :: starEach es X.env := by rfl)
    (hpl : ((backTo pos (starEach (e :: es) X.env)).any (·.1) || (backToKw pos (keywordEach kws X.env)).any (·.1.isNone)) = false := by rfl) :
    DE X W (.Call (.Name x p) (e :: es) kws pos) (cFnK n ks.length is g ms mk) := by
  obtain ⟨tp, pp, kp⟩ := ha.run
  obtain ⟨ta, pa, ka⟩ := hkw.run
  refine ⟨_, pe_callKw (E := WE W) F hr hg hm hk hb (fun σ => passAt tk σ) pp pa hall hks hdb he hpl, fun c F0 H σ ρ Q S q => ?_⟩
  refine kp c F0 H σ ρ _ S ((Post.bind q).imp fun F1 H1 ρ1 ds e1 S1 q1 vs rs => ?_)
  refine ka c F1 H1 σ ρ1 _ S1 ((Post.bind q1).imp fun F2 H2 ρ2 es' e2 S2 q2 zs rz => ?_)
  by_cases hl : ds.length = n ∧ es'.length = ks.length
  · rw [if_pos hl] at q2
    exact ⟨rs.length.trans hl.1, rz.length.trans hl.2, call_use S2 rfl (IsAll.pick (IsAll.append (rs.mono e2) rz) is) q2⟩
  · rw [if_neg hl] at q2
    exact q2.elim
end
end DL

end
section
namespace DL
open PySem PySem.Spec L2
/-! ### x.append(e), x a name of the def whose list is its own -/
section
variable {X : Cx} {W : WX} {a : Expr} {m : M D} {p apos pos pos2 : Pos} {i : Nat}
def sApp (i : Nat) (m : M D) : M Fl := fun ρ => match (ρ[i]?).bind Sl.mut with
  | none => .bad
  | some _ => (m ρ).bind fun d ρ1 => match ρ1[i]? with
    | some s => match s.mut with
      | some ds => if ds.length < sizeLine then .ok .next (ρ1.set i (s.put (ds ++ [d]))) else .bad
      | none => .bad
    | none => .bad
theorem ds_app {o : Expr} (ho : PE X o (tVar i)) (ha : DV X W a m)
    (hbase : attributeBase o "append" X.env (eval o X.env) = eval o X.env := by rfl)
    (hfew : ((backTo pos (starEach (a :: []) X.env)).all (fun x => !x.1) && (backToKw pos (keywordEach [] X.env)).all (fun x => x.1.isSome)
      && decide ((a :: []).length + ([] : List Keyword).length + (if ([] : List Keyword).isEmpty then 0 else 1) < 30)) = true := by rfl)
    (hline : (apos.endLine == pos.line) = true := by rfl) (hs : starEach (a :: []) X.env = (false, eval a X.env) :: starEach [] X.env := by rfl) (hplain : (backTo pos (starEach [] X.env)).any (·.1) = false := by rfl)
    (hsw : swapsWith (.Call (.Attribute o "append" apos) [a] [] pos) none pos2.line X.env = pure false := by rfl) :
    DS X W (.Expr (.Call (.Attribute o "append" apos) [a] [] pos) pos2) (sApp i m) := by
  obtain ⟨ta, pa, ka⟩ := ha.run
  refine ⟨_, ps_expr (pe_bm PySem.F.plainAttrs_list PySem.F.slot_list_append PySem.F.type_list_append mt_append ho (pa_cons pa pa_nil hs) hbase hfew hline hs hplain) hsw, fun c F H σ ρ Dn S q => ?_⟩
  unfold sApp at q
  cases z0 : (ρ[i]?).bind Sl.mut with
  | none => rw [z0] at q; exact q.elim
  | some ds0 =>
    rw [z0] at q
    obtain ⟨s0, z1, z2⟩ := Option.bind_eq_some_iff.mp z0
    obtain ⟨p0, xs0, h0, _, hl0, _⟩ := mut_at S z1 z2
    refine ⟨_, h0, .inl ⟨rfl, _, .of hl0⟩, ka c F H σ ρ _ S ((PostS.bind q).imp fun F1 H1 ρ1 d e1 S1 q1 v r => ?_)⟩
    cases z3 : ρ1[i]? with
    | none => simp only [z3] at q1; exact q1.elim
    | some s1 =>
      cases z4 : s1.mut with
      | none => simp only [z3, z4] at q1; exact q1.elim
      | some ds1 =>
        simp only [z3, z4] at q1
        by_cases hz : ds1.length < sizeLine
        · rw [if_pos hz] at q1
          obtain ⟨p1, xs1, h1, h2, h3, h4⟩ := mut_at S1 z3 z4
          rw [h0] at h1; cases h1
          refine ⟨p0, xs1, v, rfl, rfl, h3, by rw [h4.length]; exact hz, ?_⟩
          exact q1 F1 _ σ (Same.refl _) (S1.change z3 z4 h0 (h4.append (.cons r .nil)))
        · rw [if_neg hz] at q1
          exact q1.elim
/-- x.extend(e), e a list -/
def sExt (i : Nat) (m : M D) : M Fl := fun ρ => match (ρ[i]?).bind Sl.mut with
  | none => .bad
  | some _ => (m ρ).bind fun d ρ1 => match d, ρ1[i]? with
    | .lst es, some s => match s.mut with
      | some ds => if ds.length + es.length ≤ sizeLine then .ok .next (ρ1.set i (s.put (ds ++ es))) else .bad
      | none => .bad
    | _, _ => .bad
theorem ds_ext {o : Expr} (ho : PE X o (tVar i)) (ha : DV X W a m)
    (hbase : attributeBase o "extend" X.env (eval o X.env) = eval o X.env := by rfl)
    (hfew : ((backTo pos (starEach (a :: []) X.env)).all (fun x => !x.1) && (backToKw pos (keywordEach [] X.env)).all (fun x => x.1.isSome)
      && decide ((a :: []).length + ([] : List Keyword).length + (if ([] : List Keyword).isEmpty then 0 else 1) < 30)) = true := by rfl)
    (hline : (apos.endLine == pos.line) = true := by rfl) (hs : starEach (a :: []) X.env = (false, eval a X.env) :: starEach [] X.env := by rfl) (hplain : (backTo pos (starEach [] X.env)).any (·.1) = false := by rfl)
    (hsw : swapsWith (.Call (.Attribute o "extend" apos) [a] [] pos) none pos2.line X.env = pure false := by rfl) :
    DS X W (.Expr (.Call (.Attribute o "extend" apos) [a] [] pos) pos2) (sExt i m) := by
  obtain ⟨ta, pa, ka⟩ := ha.run
  refine ⟨_, ps_expr (pe_bm PySem.F.plainAttrs_list PySem.F.slot_list_extend PySem.F.type_list_extend mt_extend ho (pa_cons pa pa_nil hs) hbase hfew hline hs hplain) hsw, fun c F H σ ρ Dn S q => ?_⟩
  unfold sExt at q
  cases z0 : (ρ[i]?).bind Sl.mut with
  | none => rw [z0] at q; exact q.elim
  | some ds0 =>
    rw [z0] at q
    obtain ⟨s0, z1, z2⟩ := Option.bind_eq_some_iff.mp z0
    obtain ⟨p0, xs0, h0, _, hl0, _⟩ := mut_at S z1 z2
    refine ⟨_, h0, .inl ⟨rfl, _, .of hl0⟩, ka c F H σ ρ _ S ((PostS.bind q).imp fun F1 H1 ρ1 d e1 S1 q1 v r => ?_)⟩
    cases r with
    | @lst b zs es s ra =>
      cases z3 : ρ1[i]? with
      | none => simp only [z3] at q1; exact q1.elim
      | some s1 =>
        cases z4 : s1.mut with
        | none => simp only [z3, z4] at q1; exact q1.elim
        | some ds1 =>
          simp only [z3, z4] at q1
          by_cases hz : ds1.length + es.length ≤ sizeLine
          · rw [if_pos hz] at q1
            obtain ⟨p1, xs1, h1, h2, h3, h4⟩ := mut_at S1 z3 z4
            rw [h0] at h1; cases h1
            refine ⟨p0, b, xs1, zs, rfl, rfl, h3, S1.fh _ _ s, by rw [h4.length, ra.length]; exact hz, ?_⟩
            exact q1 F1 _ σ (Same.refl _) (S1.change z3 z4 h0 (h4.append ra))
          · rw [if_neg hz] at q1
            exact q1.elim
    | _ => exact q1.elim
/-- x.pop() -/
def cPop (i : Nat) : M D := fun ρ => match ρ[i]? with
  | some s => match s.mut with
    | some ds => match ds[ds.length - 1]? with
      | some d => .ok d (ρ.set i (s.put ds.dropLast))
      | none => .bad
    | none => .bad
  | none => .bad
theorem IsAll.dropLast {K : PySem.W.Frag} {F : Hp} {vs : List V} {ds : List D} (r : IsAll K F vs ds) : IsAll K F vs.dropLast ds.dropLast := by
  rw [List.dropLast_eq_take, List.dropLast_eq_take, r.length]
  exact r.take _
theorem dv_pop {o : Expr} (ho : PE X o (tVar i)) (hbase : attributeBase o "pop" X.env (eval o X.env) = eval o X.env := by rfl) (hline : (apos.endLine == pos.line) = true := by rfl) :
    DV X W (.Call (.Attribute o "pop" apos) [] [] pos) (cPop i) := by
  refine ⟨_, pe_bm0 PySem.F.plainAttrs_list PySem.F.slot_list_pop PySem.F.type_list_pop mt_pop ho hbase hline, fun c F H σ ρ Q S q => ?_⟩
  unfold cPop at q
  cases z3 : ρ[i]? with
  | none => simp only [z3] at q; exact q.elim
  | some s1 =>
    cases z4 : s1.mut with
    | none => simp only [z3, z4] at q; exact q.elim
    | some ds1 =>
      cases z5 : ds1[ds1.length - 1]? with
      | none => simp only [z3, z4, z5] at q; exact q.elim
      | some d =>
        simp only [z3, z4, z5] at q
        obtain ⟨p1, xs1, h1, h2, h3, h4⟩ := mut_at S z3 z4
        obtain ⟨v, hv, rv⟩ := h4.get z5
        refine ⟨_, h1, .inl ⟨rfl, _, .of h3⟩, p1, xs1, v, rfl, rfl, h3, by rw [h4.length]; exact hv, ?_⟩
        exact q F _ (Same.refl _) (S.change z3 z4 h1 h4.dropLast) v rv
end
end DL

end
section
namespace DL
open PySem PySem.Spec L2
/-! ### __init__: a new instance is filled -/
abbrev Fs := List (Str × Sl)
def Sl.dat : Sl → D
  | .val d => d
  | .own ds => .lst ds
  | .io ds => .lst ds
  | .no => .non
def datas (fs : Fs) : List (Str × D) := fs.map fun p => (p.1, p.2.dat)
/-- the fields so far: data, or lists of the instance's own (at ps) -/
inductive FN (K : PySem.W.Frag) (F H H0 : Hp) (a dx : Addr) : List (Str × V) → Fs → List Addr → Prop
  | nil : FN K F H H0 a dx [] [] []
  | val {f : Str} {v : V} {d : D} {vs : List (Str × V)} {fs : Fs} {ps : List Addr} : Is K F v d → FN K F H H0 a dx vs fs ps → FN K F H H0 a dx ((f, v) :: vs) ((f, .val d) :: fs) ps
  | own {f : Str} {p : Addr} {xs : List V} {ds : List D} {vs : List (Str × V)} {fs : Fs} {ps : List Addr} : F p = none → H p = some (.lst xs) → IsAll K F xs ds → H0 p = none → p ≠ a → p ≠ dx → p ∉ ps →
      FN K F H H0 a dx vs fs ps → FN K F H H0 a dx ((f, .ref p) :: vs) ((f, .own ds) :: fs) (p :: ps)
section
variable {K : PySem.W.Frag} {F H H0 F' H' : Hp} {a dx : Addr} {vs : List (Str × V)} {fs : Fs} {ps : List Addr}
theorem FN.mono (n : FN K F H H0 a dx vs fs ps) (e : Same F F') (k : ∀ p ∈ ps, F' p = none ∧ H' p = H p) : FN K F' H' H0 a dx vs fs ps := by
  induction n with
  | nil => exact .nil
  | val r _ ih => exact .val (r.mono e) (ih k)
  | own h1 h2 h3 h4 h5 h6 h7 _ ih =>
    obtain ⟨k1, k2⟩ := k _ List.mem_cons_self
    exact .own k1 (k2.trans h2) (h3.mono e) h4 h5 h6 h7 (ih fun p hp => k p (List.mem_cons_of_mem _ hp))
theorem FN.at (n : FN K F H H0 a dx vs fs ps) : ∀ p ∈ ps, F p = none ∧ (∃ xs, H p = some (.lst xs)) ∧ H0 p = none ∧ p ≠ a ∧ p ≠ dx := by
  induction n with
  | nil => intro p hp; cases hp
  | val r _ ih => exact ih
  | own h1 h2 h3 h4 h5 h6 h7 _ ih =>
    intro p hp
    rcases List.mem_cons.mp hp with rfl | hp
    · exact ⟨h1, ⟨_, h2⟩, h4, h5, h6⟩
    · exact ih p hp
theorem FN.length (n : FN K F H H0 a dx vs fs ps) : vs.length = fs.length := by
  induction n with
  | nil => rfl
  | val r _ ih => simp [ih]
  | own h1 h2 h3 h4 h5 h6 h7 _ ih => simp [ih]
/-- a field of data -/
theorem FN.val_at (n : FN K F H H0 a dx vs fs ps) {f : Str} {d : D} (h : fs.lookup f = some (.val d)) : ∃ v, vs.lookup f = some v ∧ Is K F v d := by
  induction n with
  | nil => simp at h
  | @val g v e vs fs ps r _ ih =>
    rw [List.lookup_cons] at h ⊢
    cases q : (f == g) with
    | true => rw [q] at h; cases h; exact ⟨_, rfl, r⟩
    | false => rw [q] at h; exact ih h
  | @own g p xs es vs fs ps h1 h2 h3 h4 h5 h6 h7 _ ih =>
    rw [List.lookup_cons] at h ⊢
    cases q : (f == g) with
    | true => rw [q] at h; cases h
    | false => rw [q] at h; exact ih h
theorem FN.own_at (n : FN K F H H0 a dx vs fs ps) {f : Str} {ds : List D} (h : fs.lookup f = some (.own ds)) : ∃ p xs, vs.lookup f = some (.ref p) ∧ p ∈ ps ∧ H p = some (.lst xs) ∧ IsAll K F xs ds := by
  induction n with
  | nil => simp at h
  | @val g v e vs fs ps r _ ih =>
    rw [List.lookup_cons] at h ⊢
    cases q : (f == g) with
    | true => rw [q] at h; cases h
    | false => rw [q] at h; exact ih h
  | @own g p xs es vs fs ps h1 h2 h3 h4 h5 h6 h7 _ ih =>
    rw [List.lookup_cons] at h ⊢
    cases q : (f == g) with
    | true => rw [q] at h; cases h; exact ⟨_, _, rfl, List.mem_cons_self, h2, h3⟩
    | false =>
      rw [q] at h
      obtain ⟨p', xs', k1, k2, k3⟩ := ih h
      exact ⟨p', xs', k1, List.mem_cons_of_mem _ k2, k3⟩
/-- a field more, or anew -/
def putS (f : Str) (s : Sl) : Fs → Fs
  | [] => [(f, s)]
  | (g, x) :: r => if g = f then (g, s) :: r else (g, x) :: putS f s r
theorem FN.put_val {f : Str} {v : V} {d : D} (r : Is K F v d) : ∀ {vs : List (Str × V)} {fs : Fs} {ps : List Addr}, FN K F H H0 a dx vs fs ps → ∃ ps', FN K F H H0 a dx (putF f v vs) (putS f (.val d) fs) ps' ∧ ∀ p ∈ ps', p ∈ ps
  | _, _, _, .nil => ⟨[], .val r .nil, fun p h => h⟩
  | _, _, _, .val (f := g) r' n => by
    unfold putF putS
    by_cases q : g = f
    · rw [if_pos q, if_pos q]; exact ⟨_, .val r n, fun p h => h⟩
    · rw [if_neg q, if_neg q]
      obtain ⟨ps', k1, k2⟩ := FN.put_val (f := f) r n
      exact ⟨ps', .val r' k1, k2⟩
  | _, _, _, .own (f := g) h1 h2 h3 h4 h5 h6 h7 n => by
    unfold putF putS
    by_cases q : g = f
    · rw [if_pos q, if_pos q]; exact ⟨_, .val r n, fun p h => List.mem_cons_of_mem _ h⟩
    · rw [if_neg q, if_neg q]
      obtain ⟨ps', k1, k2⟩ := FN.put_val (f := f) r n
      exact ⟨_, .own h1 h2 h3 h4 h5 h6 (fun z => h7 (k2 _ z)) k1, fun p h => by
        rcases List.mem_cons.mp h with rfl | h
        · exact List.mem_cons_self
        · exact List.mem_cons_of_mem _ (k2 p h)⟩
theorem FN.put_own {f : Str} {p : Addr} {xs : List V} {ds : List D} (g1 : F p = none) (g2 : H p = some (.lst xs)) (g3 : IsAll K F xs ds) (g4 : H0 p = none) (g5 : p ≠ a) (g6 : p ≠ dx) : ∀ {vs : List (Str × V)} {fs : Fs} {ps : List Addr}, FN K F H H0 a dx vs fs ps → p ∉ ps → ∃ ps', FN K F H H0 a dx (putF f (.ref p) vs) (putS f (.own ds) fs) ps' ∧ ∀ q ∈ ps', q = p ∨ q ∈ ps
  | _, _, _, .nil, _ => ⟨[p], .own g1 g2 g3 g4 g5 g6 (by simp) .nil, fun q h => .inl (by simpa using h)⟩
  | _, _, _, .val (f := g) r' n, hp => by
    unfold putF putS
    by_cases q : g = f
    · rw [if_pos q, if_pos q]; exact ⟨_, .own g1 g2 g3 g4 g5 g6 hp n, fun q h => List.mem_cons.mp h⟩
    · rw [if_neg q, if_neg q]
      obtain ⟨ps', k1, k2⟩ := FN.put_own (f := f) g1 g2 g3 g4 g5 g6 n hp
      exact ⟨ps', .val r' k1, k2⟩
  | _, _, _, .own (f := g) (p := p') (ps := ps0) h1 h2 h3 h4 h5 h6 h7 n, hp => by
    unfold putF putS
    have hp' : p ∉ ps0 := fun z => hp (List.mem_cons_of_mem _ z)
    by_cases q : g = f
    · rw [if_pos q, if_pos q]
      exact ⟨_, .own g1 g2 g3 g4 g5 g6 hp' n, fun q h => by
        rcases List.mem_cons.mp h with h | h
        · exact .inl h
        · exact .inr (List.mem_cons_of_mem _ h)⟩
    · rw [if_neg q, if_neg q]
      obtain ⟨ps', k1, k2⟩ := FN.put_own (f := f) g1 g2 g3 g4 g5 g6 n hp'
      refine ⟨_, .own h1 h2 h3 h4 h5 h6 (fun z => ?_) k1, fun q h => ?_⟩
      · rcases k2 _ z with z | z
        · exact hp (by rw [← z]; exact List.mem_cons_self)
        · exact h7 z
      · rcases List.mem_cons.mp h with rfl | h
        · exact .inr List.mem_cons_self
        · rcases k2 q h with z | z
          · exact .inl z
          · exact .inr (List.mem_cons_of_mem _ z)
/-- one list more in the list of a field -/
theorem FN.app {v : V} {d : D} (r : Is K F v d) {f : Str} : ∀ {vs : List (Str × V)} {fs : Fs} {ps : List Addr}, FN K F H H0 a dx vs fs ps → ∀ {p : Addr} {xs : List V} {ds : List D}, vs.lookup f = some (.ref p) → fs.lookup f = some (.own ds) → p ∈ ps → H p = some (.lst xs) → IsAll K F xs ds →
      FN K F (upd H p (.lst (xs ++ [v]))) H0 a dx vs (putS f (.own (ds ++ [d])) fs) ps
  | _, _, _, .nil, p, xs, ds, l, _, _, _, _ => by simp at l
  | _, _, _, .val (f := g) r' n, p, xs, ds, l, l2, hp, hH, ra => by
    rw [List.lookup_cons] at l l2
    unfold putS
    cases q : (f == g) with
    | true => rw [q] at l2; cases l2
    | false =>
      rw [q] at l l2
      have ne : ¬ g = f := fun z => by subst z; simp at q
      rw [if_neg ne]
      exact .val r' (FN.app r n l l2 hp hH ra)
  | _, _, _, .own (f := g) (p := p') (xs := xs') (ds := ds') (ps := ps0) h1 h2 h3 h4 h5 h6 h7 n, p, xs, ds, l, l2, hp, hH, ra => by
    rw [List.lookup_cons] at l l2
    unfold putS
    cases q : (f == g) with
    | true =>
      rw [q] at l l2
      cases l
      cases l2
      have e : g = f := (eq_of_beq q).symm
      rw [if_pos e]
      refine .own h1 upd_same (ra.append (.cons r .nil)) h4 h5 h6 h7 (n.mono (Same.refl _) fun b hb => ⟨(n.at b hb).1, upd_ne fun z => by subst z; exact h7 hb⟩)
    | false =>
      rw [q] at l l2
      have ne : ¬ g = f := fun z => by subst z; simp at q
      rw [if_neg ne]
      obtain ⟨p2, xs2, k1, k2, k3, k4⟩ := n.own_at l2
      have k1 := (show _ = some (V.ref p) from l).symm.trans k1
      cases k1
      have hne : p' ≠ p := fun z => by subst z; exact h7 k2
      exact .own h1 (by rw [upd_ne hne]; exact h2) h3 h4 h5 h6 h7 (FN.app r n l l2 k2 hH ra)
/-- the lists of the fields, and the instance, frozen -/
def frzF (F H : Hp) (ps : List Addr) : Hp := fun b => if b ∈ ps then H b else F b
theorem FN.is (n : FN K F H H0 a dx vs fs ps) (e : Same F F') (k : ∀ p ∈ ps, F' p = H p) : IsFs K F' vs (datas fs) := by
  induction n with
  | nil => exact .nil
  | val r _ ih => exact .cons (r.mono e) (ih k)
  | own h1 h2 h3 h4 h5 h6 h7 _ ih =>
    exact .cons (.lst ((k _ List.mem_cons_self).trans h2) (h3.mono e)) (ih fun p hp => k p (List.mem_cons_of_mem _ hp))
end
/-- data without lists, instances, errors in it -/
def plainD : D → Bool
  | .lst _ => false
  | .scr _ => false
  | .ins _ _ => false
  | .exc _ _ => false
  | .tup ds => go ds
  | _ => true
where
  go : List D → Bool
  | [] => true
  | d :: ds => plainD d && go ds
mutual
theorem Is.cut {K : PySem.W.Frag} {F G : Hp} (h : ∀ (b : Addr) (xs : List V), (Rd F b (.tup xs)) → Rd G b (.tup xs)) {v : V} {d : D} (r : Is K F v d) (p : plainD d = true) : Is K G v d := by
  cases r with
  | non => exact .non
  | bl b => exact .bl b
  | int i => exact .int i
  | str x => exact .str x
  | ty n => exact .ty n
  | tup s t =>
    refine .tup ?_ (IsAll.cut h t p)
    rcases s with s | s
    · exact .inl (h _ _ s)
    · exact .inr s
  | lst s t => cases p
  | scr s => cases p
  | ins s t => cases p
  | exc s t u => cases p
termination_by sizeOf d
theorem IsAll.cut {K : PySem.W.Frag} {F G : Hp} (h : ∀ (b : Addr) (xs : List V), (Rd F b (.tup xs)) → Rd G b (.tup xs)) {vs : List V} {ds : List D} (r : IsAll K F vs ds) (p : plainD.go ds = true) : IsAll K G vs ds := by
  cases r with
  | nil => exact .nil
  | cons a b =>
    have p' : (plainD _ && plainD.go _) = true := p
    rw [Bool.and_eq_true] at p'
    exact .cons (Is.cut h a p'.1) (IsAll.cut h b p'.2)
termination_by sizeOf ds
end
/-- while __init__ runs -/
structure SN (K : PySem.W.Frag) (C : Str) (F0 H0 : Hp) (a dx : Addr) (F H : Hp) (σ : St) (ρ : Rho) (fs : Fs) : Prop where
  sf : σ[0]? = some (some (.ref a))
  fh : Same F H
  f0 : Same F0 F
  h0 : ∀ b o, H0 b = some o → b ≠ a → H b = some o
  n0 : ∀ b, H0 b ≠ none → b ≠ a → b ≠ dx → F0 b = none → F b = none
  fa : F a = none
  fd : F dx = none
  ne : dx ≠ a
  hd : H dx = some (.own a)
  ob : ∃ vs ps, H a = some (.ins (He.ga K C) dx vs) ∧ FN K F H H0 a dx vs fs ps
  vl : ∀ (i : Nat) (d : D), (ρ[i]? : Option Sl) = some (Sl.val d) → ∃ v, (σ[i]? : Option (Option V)) = some (some v) ∧ Is K F v d
  nm : ∀ (i : Nat) (s : Sl), (ρ[i]? : Option Sl) = some s → s = Sl.no ∨ ∃ d, s = Sl.val d
  len : ρ.length = σ.length
section
variable {K : PySem.W.Frag} {C : Str} {F0 H0 F H : Hp} {a dx : Addr} {σ : St} {ρ : Rho} {fs : Fs}
/-- what an expression of __init__ sees: all is frozen -/
def vw (C : Str) (ρ : Rho) (fs : Fs) : Rho := ρ.set 0 (.val (.ins C (datas fs)))
theorem SN.view (S : SN K C F0 H0 a dx F H σ ρ fs) {vs : List (Str × V)} {ps : List Addr} (ho : H a = some (.ins (He.ga K C) dx vs)) (n : FN K F H H0 a dx vs fs ps) :
    SR K ⟨upd (frzF F H ps) a (.ins (He.ga K C) dx vs), H, none⟩ (upd (frzF F H ps) a (.ins (He.ga K C) dx vs)) H σ (vw C ρ fs) := by
  have e1 : Same F (upd (frzF F H ps) a (.ins (He.ga K C) dx vs)) := fun b o q => by
    have ne : b ≠ a := fun z => by subst z; rw [S.fa] at q; cases q
    rw [upd_ne ne]
    unfold frzF
    by_cases hb : b ∈ ps
    · rw [(n.at b hb).1] at q; cases q
    · rw [if_neg hb]; exact q
  have self : Is K (upd (frzF F H ps) a (.ins (He.ga K C) dx vs)) (.ref a) (.ins C (datas fs)) := by
    refine .ins upd_same (n.is e1 fun p hp => ?_)
    rw [upd_ne (n.at p hp).2.2.2.1]
    unfold frzF
    rw [if_pos hp]
  have sm : Same (upd (frzF F H ps) a (.ins (He.ga K C) dx vs)) H := fun b o q => by
    by_cases hb : b = a
    · subst hb; rw [upd_same] at q; rw [ho]; exact q
    · rw [upd_ne hb] at q
      unfold frzF at q
      by_cases hp : b ∈ ps
      · rw [if_pos hp] at q; exact q
      · rw [if_neg hp] at q; exact S.fh b o q
  have mut0 : ∀ (i : Nat) (s : Sl) (ds : List D), (vw C ρ fs)[i]? = some s → s.mut = some ds → False := fun i s ds q m => by
    unfold vw at q
    by_cases z : 0 = i
    · subst z
      by_cases hi : 0 < ρ.length
      · rw [List.getElem?_set_self hi] at q; cases q; cases m
      · rw [List.getElem?_eq_none (by simpa using hi)] at q; cases q
    · rw [List.getElem?_set_ne z] at q
      rcases S.nm i s q with rfl | ⟨d, rfl⟩ <;> cases m
  exact {
    fh := sm
    ef := Same.refl _
    eh := fun b o q _ => q
    nf := fun b _ q => q
    ioh := fun b q => by cases q
    vl := fun i d q => by
      unfold vw at q
      by_cases z : 0 = i
      · subst z
        by_cases hi : 0 < ρ.length
        · rw [List.getElem?_set_self hi] at q; cases q
          exact ⟨_, S.sf, self⟩
        · rw [List.getElem?_eq_none (by simpa using hi)] at q; cases q
      · rw [List.getElem?_set_ne z] at q
        obtain ⟨v, h1, h2⟩ := S.vl i d q
        exact ⟨v, h1, h2.mono e1⟩
    ow := fun i s ds q m => (mut0 i s ds q m).elim
    ne := fun i j s t ds es p n q m => (mut0 i s ds q m).elim
    len := by unfold vw; simp [S.len] }
/-- back -/
def bk (F3 : Hp) (a : Addr) (ps : List Addr) : Hp := fun b => if b ∈ ps ∨ b = a then none else F3 b
theorem SN.back (S : SN K C F0 H0 a dx F H σ ρ fs) {vs : List (Str × V)} {ps : List Addr} (ho : H a = some (.ins (He.ga K C) dx vs)) (n : FN K F H H0 a dx vs fs ps) {F3 H3 : Hp} {ρ3 : Rho}
    (e : Same (upd (frzF F H ps) a (.ins (He.ga K C) dx vs)) F3) (S3 : SR K ⟨upd (frzF F H ps) a (.ins (He.ga K C) dx vs), H, none⟩ F3 H3 σ ρ3) :
    SN K C F0 H0 a dx (bk F3 a ps) H3 σ ρ fs ∧ H3 a = some (.ins (He.ga K C) dx vs) ∧ FN K (bk F3 a ps) H3 H0 a dx vs fs ps ∧ (∀ (b : Addr) (xs : List V), Rd F3 b (.tup xs) → Rd (bk F3 a ps) b (.tup xs)) ∧
      Same F (bk F3 a ps) := by
  have hk : ∀ b o, H b = some o → H3 b = some o := fun b o q => S3.eh b o q (fun z => by cases z)
  have e1 : Same F (bk F3 a ps) := fun b o q => by
    have ne : b ≠ a := fun z => by subst z; rw [S.fa] at q; cases q
    have np : b ∉ ps := fun hb => by rw [(n.at b hb).1] at q; cases q
    unfold bk
    rw [if_neg (fun z => z.elim np ne)]
    refine e b o ?_
    rw [upd_ne ne]
    unfold frzF
    rw [if_neg np]
    exact q
  have fp : ∀ p ∈ ps, F3 p = H p := fun p hp => by
    obtain ⟨_, ⟨xs, hx⟩, _, na, _⟩ := n.at p hp
    rw [hx]
    refine e p _ ?_
    rw [upd_ne na]
    unfold frzF
    rw [if_pos hp]
    exact hx
  have fa : F3 a = some (.ins (He.ga K C) dx vs) := e a _ upd_same
  have n3 : FN K (bk F3 a ps) H3 H0 a dx vs fs ps := n.mono e1 fun p hp => by
    refine ⟨by unfold bk; rw [if_pos (.inl hp)], ?_⟩
    obtain ⟨_, ⟨xs, hx⟩, _⟩ := n.at p hp
    rw [hx]
    exact hk p _ hx
  refine ⟨{
    sf := S.sf
    fh := fun b o q => by
      unfold bk at q
      split at q
      · cases q
      · exact S3.fh b o q
    f0 := S.f0.trans e1
    h0 := fun b o q nb => hk b o (S.h0 b o q nb)
    n0 := fun b q na nd f => by
      have f1 := S.n0 b q na nd f
      unfold bk
      split
      · rfl
      · rename_i hc
        refine S3.nf b (fun z => ?_) ?_
        · cases w : H0 b with
          | none => exact q w
          | some o =>
            have z' : H b = none := z
            rw [S.h0 b o w na] at z'
            cases z'
        · show (upd (frzF F H ps) a (.ins (He.ga K C) dx vs)) b = none
          rw [upd_ne na]
          unfold frzF
          rw [if_neg (fun z => hc (.inl z))]
          exact f1
    fa := by unfold bk; rw [if_pos (.inr rfl)]
    fd := by
      unfold bk
      split
      · rfl
      · rename_i hc
        refine S3.nf dx (fun z => ?_) ?_
        · have z' : H dx = none := z
          rw [S.hd] at z'
          cases z'
        · show (upd (frzF F H ps) a (.ins (He.ga K C) dx vs)) dx = none
          rw [upd_ne S.ne]
          unfold frzF
          rw [if_neg (fun z => hc (.inl z))]
          exact S.fd
    ne := S.ne
    hd := hk _ _ S.hd
    ob := ⟨vs, ps, hk _ _ ho, n3⟩
    vl := fun i d q => by
      obtain ⟨v, h1, h2⟩ := S.vl i d q
      exact ⟨v, h1, h2.mono e1⟩
    nm := S.nm
    len := S.len }, hk _ _ ho, n3, fun b xs r => ?_, e1⟩
  have cut : ∀ o, F3 b = some o → (∃ xs, o = .tup xs) ∨ (∃ ob xs, o = .frz ob (.tup xs)) → (bk F3 a ps) b = some o := fun o q ht => by
    unfold bk
    rw [if_neg]
    · exact q
    · rintro (z | z)
      · obtain ⟨_, ⟨ys, hy⟩, _⟩ := n.at b z
        rw [fp b z, hy] at q
        cases q
        rcases ht with ⟨_, h⟩ | ⟨_, _, h⟩ <;> cases h
      · subst z
        rw [fa] at q
        cases q
        rcases ht with ⟨_, h⟩ | ⟨_, _, h⟩ <;> cases h
  rcases r with r | ⟨ob, r⟩
  · exact .inl (cut _ r (.inl ⟨_, rfl⟩))
  · exact .inr ⟨ob, cut _ r (.inr ⟨_, _, rfl⟩)⟩
end
end DL

end
section
namespace DL
open PySem PySem.Spec L2
section
variable {K : PySem.W.Frag} {C : Str} {F0 H0 F H : Hp} {a dx : Addr} {σ : St} {ρ : Rho} {fs fs' : Fs}
theorem SN.fields (S : SN K C F0 H0 a dx F H σ ρ fs) {vs' : List (Str × V)} {ps' : List Addr} (n : FN K F H H0 a dx vs' fs' ps') : SN K C F0 H0 a dx F (upd H a (.ins (He.ga K C) dx vs')) σ ρ fs' where
  sf := S.sf
  fh := same_upd S.fh S.fa
  f0 := S.f0
  h0 := fun b o q nb => by rw [upd_ne nb]; exact S.h0 b o q nb
  n0 := S.n0
  fa := S.fa
  fd := S.fd
  ne := S.ne
  hd := by rw [upd_ne S.ne]; exact S.hd
  ob := ⟨vs', ps', upd_same, n.mono (Same.refl _) fun p hp => ⟨(n.at p hp).1, upd_ne (n.at p hp).2.2.2.1⟩⟩
  vl := S.vl
  nm := S.nm
  len := S.len
/-- a slot stored with data -/
theorem SN.slot (S : SN K C F0 H0 a dx F H σ ρ fs) {j : Nat} {v : V} {d : D} (hj : j ≠ 0) (r : Is K F v d) : SN K C F0 H0 a dx F H (σ.set j (some v)) (ρ.set j (.val d)) fs where
  sf := by rw [List.getElem?_set_ne hj]; exact S.sf
  fh := S.fh
  f0 := S.f0
  h0 := S.h0
  n0 := S.n0
  fa := S.fa
  fd := S.fd
  ne := S.ne
  hd := S.hd
  ob := S.ob
  vl := fun i e q => by
    by_cases z : j = i
    · subst z
      by_cases hi : j < ρ.length
      · rw [List.getElem?_set_self hi] at q; cases q
        exact ⟨v, List.getElem?_set_self (by rw [← S.len]; exact hi), r⟩
      · rw [List.getElem?_eq_none (by simpa using hi)] at q; cases q
    · rw [List.getElem?_set_ne z] at q
      rw [List.getElem?_set_ne z]
      exact S.vl i e q
  nm := fun i s q => by
    by_cases z : j = i
    · subst z
      by_cases hi : j < ρ.length
      · rw [List.getElem?_set_self hi] at q; cases q; exact .inr ⟨_, rfl⟩
      · rw [List.getElem?_eq_none (by simpa using hi)] at q; cases q
    · rw [List.getElem?_set_ne z] at q
      exact S.nm i s q
  len := by simp [S.len]
/-- a list of nobody's is frozen -/
theorem SN.freeze (S : SN K C F0 H0 a dx F H σ ρ fs) {p : Addr} {xs : List V} (hF : F p = none) (hH : H p = some (.lst xs)) (h0 : H0 p = none) (na : p ≠ a) (nd : p ≠ dx) (hn : ∀ vs ps, H a = some (.ins (He.ga K C) dx vs) → FN K F H H0 a dx vs fs ps → p ∉ ps) :
    SN K C F0 H0 a dx (upd F p (.lst xs)) H σ ρ fs where
  sf := S.sf
  fh := fun b o q => by
    by_cases z : b = p
    · subst z; rw [upd_same] at q; rw [hH]; exact q
    · rw [upd_ne z] at q; exact S.fh b o q
  f0 := S.f0.trans (same_new hF)
  h0 := S.h0
  n0 := fun b q n1 n2 f => by
    rw [upd_ne (fun z => by subst z; exact q h0)]
    exact S.n0 b q n1 n2 f
  fa := by rw [upd_ne (Ne.symm na)]; exact S.fa
  fd := by rw [upd_ne (Ne.symm nd)]; exact S.fd
  ne := S.ne
  hd := S.hd
  ob := by
    obtain ⟨vs, ps, ho, n⟩ := S.ob
    exact ⟨vs, ps, ho, n.mono (same_new hF) fun q hq => ⟨by rw [upd_ne (fun z => by subst z; exact hn vs ps ho n hq)]; exact (n.at q hq).1, rfl⟩⟩
  vl := fun i d q => by
    obtain ⟨v, h1, h2⟩ := S.vl i d q
    exact ⟨v, h1, h2.mono (same_new hF)⟩
  nm := S.nm
  len := S.len
end
abbrev MN := Rho → Fs → Option (Rho × Fs)
structure DN (X : Cx) (C : Str) (st : List Stmt) (m : MN) : Prop where
  run : ∃ ts, PSs X st ts ∧ ∀ F0 H0 a dx F H σ ρ fs (Dn : Ends), SN X.K C F0 H0 a dx F H σ ρ fs → (∃ ρ' fs', m ρ fs = some (ρ', fs') ∧ ∀ F' H' σ', Same F F' → SN X.K C F0 H0 a dx F' H' σ' ρ' fs' → Dn.nx σ' H') → ts Dn σ H
structure DN1 (X : Cx) (C : Str) (st : Stmt) (m : MN) : Prop where
  run : ∃ ts, PS X st ts ∧ ∀ F0 H0 a dx F H σ ρ fs (Dn : Ends), SN X.K C F0 H0 a dx F H σ ρ fs → (∃ ρ' fs', m ρ fs = some (ρ', fs') ∧ ∀ F' H' σ', Same F F' → SN X.K C F0 H0 a dx F' H' σ' ρ' fs' → Dn.nx σ' H') → ts Dn σ H
def nNil : MN := fun ρ fs => some (ρ, fs)
def nSeq (m n : MN) : MN := fun ρ fs => (m ρ fs).bind fun r => n r.1 r.2
section
variable {X : Cx} {C : Str} {st : Stmt} {rest : List Stmt} {m n : MN} {e o : Expr} {f : Str} {pos pos' pos2 apos : Pos}
theorem dn_one (h : DN1 X C st m) : DN X C [st] m := by
  obtain ⟨t, p, k⟩ := h.run
  exact ⟨t, pss_one p, k⟩
theorem dn_cons (h1 : DN1 X C st m) (h2 : DN X C rest n) : DN X C (st :: rest) (nSeq m n) := by
  obtain ⟨t, p, k⟩ := h1.run
  obtain ⟨u, p2, k2⟩ := h2.run
  refine ⟨_, pss_cons p p2, fun F0 H0 a dx F H σ ρ fs Dn S ⟨ρ', fs', q, w⟩ => ?_⟩
  have q' : (m ρ fs).bind (fun r => n r.1 r.2) = some (ρ', fs') := q
  obtain ⟨r, h3, h4⟩ := Option.bind_eq_some_iff.mp q'
  obtain ⟨ρ1, fs1⟩ := r
  exact k F0 H0 a dx F H σ ρ fs _ S ⟨ρ1, fs1, h3, fun F' H' σ' e1 S' => k2 F0 H0 a dx F' H' σ' ρ1 fs1 Dn S' ⟨ρ', fs', h4, fun F2 H2 σ2 e2 S2 => w F2 H2 σ2 (e1.trans e2) S2⟩⟩
/-- self.f = e; fz: a fresh list is frozen at once -/
def nSet (C f : Str) (fz : Bool) (m : M Sl) : MN := fun ρ fs => if fs.length < 999 then match m (vw C ρ fs) with
  | .ok (.val d) _ => if plainD d then some (ρ, putS f (.val d) fs) else none
  | .ok (.own ds) _ => if plainD.go ds then some (ρ, putS f (if fz then .val (.lst ds) else .own ds) fs) else none
  | _ => none
  else none
theorem dn_set {m : M Sl} {fz : Bool} (hc : Cls X.K (He.ga X.K C)) (hn : NoAttr X.K (He.ga X.K C) f) (ho : PE X o (tVar 0)) (he : DE X W0 e m) (hs : swapsWith e (some (.Attribute o f pos')) pos.line X.env = pure false := by rfl) :
    DN1 X C (.Assign [.Attribute o f pos'] e pos) (nSet C f fz m) := by
  obtain ⟨t, pe, k⟩ := he.run
  refine ⟨_, ps_fld ho pe hs, fun F0 H0 a dx F H σ ρ fs Dn S ⟨ρ', fs', q, w⟩ => ?_⟩
  obtain ⟨vs, ps, hoa, n⟩ := S.ob
  unfold nSet at q
  by_cases hl : fs.length < 999
  case neg => rw [if_neg hl] at q; cases q
  rw [if_pos hl] at q
  refine k _ _ H σ (vw C ρ fs) _ (S.view hoa n) ?_
  cases z : m (vw C ρ fs) with
  | bad => rw [z] at q; cases q
  | exc C y ρ1 => rw [z] at q; cases q
  | ok s ρ1 =>
    rw [z] at q
    intro F3 H3 e3 S3 v r
    obtain ⟨S4, ho4, n4, cut, keep⟩ := S.back hoa n e3 S3
    have hlen : vs.length < 1000 := by rw [n.length]; omega
    cases s with
    | no => cases q
    | io ds => cases q
    | val d =>
      obtain ⟨hp, he2⟩ := eq_some_if q
      cases he2
      have r4 : Is X.K (bk F3 a ps) v d := Is.cut cut r hp
      obtain ⟨ps', n5, _⟩ := FN.put_val (f := f) r4 n4
      refine ⟨_, S.sf, a, _, dx, vs, rfl, ho4, hc, hn, hlen, ?_⟩
      exact w _ _ σ keep (S4.fields n5)
    | own ds =>
      obtain ⟨hp, he2⟩ := eq_some_if q
      cases he2
      obtain ⟨p, xs, rfl, hF, hH, ra, hc0, _⟩ := r
      have hcH : H p = none := hc0
      have r4 : IsAll X.K (bk F3 a ps) xs ds := IsAll.cut cut ra hp
      have na : p ≠ a := fun z => by subst z; rw [hoa] at hcH; cases hcH
      have nd : p ≠ dx := fun z => by subst z; rw [S.hd] at hcH; cases hcH
      have np : p ∉ ps := fun z => by
        obtain ⟨_, ⟨ys, hy⟩, _⟩ := n.at p z
        rw [hy] at hcH; cases hcH
      have h0 : H0 p = none := by
        cases w0 : H0 p with
        | none => rfl
        | some o => rw [S.h0 p o w0 na] at hcH; cases hcH
      have hF4 : (bk F3 a ps) p = none := by
        unfold bk
        split
        · rfl
        · exact hF
      refine ⟨_, S.sf, a, _, dx, vs, rfl, ho4, hc, hn, hlen, ?_⟩
      cases fz with
      | false =>
        obtain ⟨ps', n5, _⟩ := FN.put_own (f := f) hF4 hH r4 h0 na nd n4 np
        exact w _ _ σ keep (S4.fields n5)
      | true =>
        have S5 := S4.freeze hF4 hH h0 na nd fun vs' ps' h1 h2 z => by
          obtain ⟨k1, k2, k3⟩ := h2.at p z
          have : ps' = ps := by
            rw [ho4] at h1
            cases h1
            exact ps_eq h2 n4
          exact np (this ▸ z)
        have n5 : FN X.K (upd (bk F3 a ps) p (.lst xs)) H3 H0 a dx vs fs ps := n4.mono (same_new hF4) fun q hq => ⟨by rw [upd_ne (fun z => by subst z; exact np hq)]; exact (n4.at q hq).1, rfl⟩
        obtain ⟨ps', n6, _⟩ := FN.put_val (f := f) (v := .ref p) (d := .lst ds) (.lst upd_same (r4.mono (same_new hF4))) n5
        exact w _ _ σ (keep.trans (same_new hF4)) (S5.fields n6)
where
  ps_eq {K : PySem.W.Frag} {F H H0 : Hp} {a dx : Addr} : ∀ {vs : List (Str × V)} {fs : Fs} {ps ps' : List Addr}, FN K F H H0 a dx vs fs ps → FN K F H H0 a dx vs fs ps' → ps = ps'
    | _, _, _, _, .nil, .nil => rfl
    | _, _, _, _, .val _ n, .val _ n' => ps_eq n n'
    | _, _, _, _, .own _ _ _ _ _ _ _ n, .own _ _ _ _ _ _ _ n' => by rw [ps_eq n n']
/-- self.f.append(e) -/
def nApp (C f : Str) (m : M D) : MN := fun ρ fs => match fs.lookup f with
  | some (.own ds) => match m (vw C ρ fs) with
    | .ok d _ => if plainD d && decide (ds.length < sizeLine) then some (ρ, putS f (.own (ds ++ [d])) fs) else none
    | _ => none
  | _ => none
theorem dn_app {m : M D} {fpos : Pos} (hc : Cls X.K (He.ga X.K C)) (hn : NoAttr X.K (He.ga X.K C) f) (ho : PE X o (tVar 0)) (he : DV X W0 e m) (hb : attributeBase o f X.env (eval o X.env) = eval o X.env := by rfl)
    (hbase : attributeBase (.Attribute o f fpos) "append" X.env (eval (.Attribute o f fpos) X.env) = eval (.Attribute o f fpos) X.env := by rfl)
    (hfew : ((backTo pos (starEach (e :: []) X.env)).all (fun x => !x.1) && (backToKw pos (keywordEach [] X.env)).all (fun x => x.1.isSome)
      && decide ((e :: []).length + ([] : List Keyword).length + (if ([] : List Keyword).isEmpty then 0 else 1) < 30)) = true := by rfl)
    (hline : (apos.endLine == pos.line) = true := by rfl) (hs : starEach (e :: []) X.env = (false, eval e X.env) :: starEach [] X.env := by rfl) (hplain : (backTo pos (starEach [] X.env)).any (·.1) = false := by rfl)
    (hsw : swapsWith (.Call (.Attribute (.Attribute o f fpos) "append" apos) [e] [] pos) none pos2.line X.env = pure false := by rfl) :
    DN1 X C (.Expr (.Call (.Attribute (.Attribute o f fpos) "append" apos) [e] [] pos) pos2) (nApp C f m) := by
  obtain ⟨t, pe, k⟩ := he.run
  refine ⟨_, ps_expr (pe_bm PySem.F.plainAttrs_list PySem.F.slot_list_append PySem.F.type_list_append mt_append (pe_fld ho hb) (pa_cons pe pa_nil hs) hbase hfew hline hs hplain) hsw, fun F0 H0 a dx F H σ ρ fs Dn S ⟨ρ', fs', q, w⟩ => ?_⟩
  obtain ⟨vs, ps, hoa, n⟩ := S.ob
  unfold nApp at q
  cases zl : fs.lookup f with
  | none => simp only [zl] at q; cases q
  | some s =>
    cases s with
    | own ds =>
      simp only [zl] at q
      obtain ⟨p, xs, l1, l2, l3, l4⟩ := n.own_at zl
      refine ⟨_, S.sf, a, _, dx, vs, _, rfl, hoa, hc, hn, l1, .inl ⟨rfl, _, .of l3⟩, ?_⟩
      refine k _ _ H σ (vw C ρ fs) _ (S.view hoa n) ?_
      cases z : m (vw C ρ fs) with
      | bad => simp only [z] at q; cases q
      | exc C y ρ1 => simp only [z] at q; cases q
      | ok d ρ1 =>
        simp only [z] at q
        intro F3 H3 e3 S3 v r
        obtain ⟨S4, ho4, n4, cut, keep⟩ := S.back hoa n e3 S3
        obtain ⟨hp, he2⟩ := eq_some_if q
        cases he2
        rw [Bool.and_eq_true] at hp
        have r4 : Is X.K (bk F3 a ps) v d := Is.cut cut r hp.1
        have hz : ds.length < sizeLine := of_decide_eq_true hp.2
        obtain ⟨p', xs', m1, m2, m3, m4⟩ := n4.own_at zl
        rw [l1] at m1
        cases m1
        obtain ⟨f1, _, f2, f3, f4⟩ := n4.at p m2
        have n5 := FN.app r4 n4 l1 zl m2 m3 m4
        refine ⟨p, xs', v, rfl, rfl, m3, by rw [m4.length]; exact hz, ?_⟩
        refine w (bk F3 a ps) _ σ keep ?_
        exact {
          sf := S4.sf
          fh := same_upd S4.fh f1
          f0 := S4.f0
          h0 := fun b o q nb => by rw [upd_ne (fun z => by subst z; rw [f2] at q; cases q)]; exact S4.h0 b o q nb
          n0 := S4.n0
          fa := S4.fa
          fd := S4.fd
          ne := S4.ne
          hd := by rw [upd_ne (Ne.symm f4)]; exact S4.hd
          ob := ⟨vs, ps, by rw [upd_ne (Ne.symm f3)]; exact ho4, n5⟩
          vl := S4.vl
          nm := S4.nm
          len := S4.len }
    | _ => simp only [zl] at q; cases q
/-- for x in self.f: .., f's value is data -/
def goN (j : Nat) (mb : MN) : List D → MN
  | [], ρ, fs => some (ρ, fs)
  | d :: ds, ρ, fs => (mb (ρ.set j (.val d)) fs).bind fun r => goN j mb ds r.1 r.2
def nFor (f : Str) (j : Nat) (mb : MN) : MN := fun ρ fs => match fs.lookup f with
  | some (.val (.lst ds)) => goN j mb ds ρ fs
  | some (.val (.tup ds)) => goN j mb ds ρ fs
  | _ => none
theorem dn_for {mb : MN} {body : List Stmt} {j : Nat} {x : Str} {fpos xpos : Pos} (hp : PassesOwn (model X.prog X.w) X.A X.env X.xe) (hcm : X.calm = true) (hj : j ≠ 0) (hN : X.N.Nodup) (hi : X.N[j]? = some x) (hx : Loc X.env.scope x)
    (hc : Cls X.K (He.ga X.K C)) (hn : NoAttr X.K (He.ga X.K C) f) (ho : PE X o (tVar 0)) (hb : DN X C body mb) (hat : attributeBase o f X.env (eval o X.env) = eval o X.env := by rfl)
    (hf : X.fn x = true ∨ X.env.scope.names.lookup x = some .local := by first | exact .inl rfl | exact .inr rfl | assumption) (hs : ∀ z, foldedSetIterable (.Attribute o f fpos) X.env z = pure z := by intro _; rfl) :
    DN1 X C (.For (.Name x xpos) (.Attribute o f fpos) body [] pos) (nFor f j mb) := by
  obtain ⟨tb, pb, kb⟩ := hb.run
  refine ⟨_, ps_for hp hcm (pi_or (pi_list (pe_fld ho hat)) (pi_tup (pe_fld ho hat))) (pg_name hN hi hx hf) pb hs, fun F0 H0 a dx F H σ ρ fs Dn S ⟨ρ', fs', q, w⟩ => ?_⟩
  obtain ⟨vs, ps, hoa, n⟩ := S.ob
  unfold nFor at q
  -- the loop, whatever its iterator
  have loop : ∀ (J : It) (ds : List D), goN j mb ds ρ fs = some (ρ', fs') → (∀ i F' H' d, Same F F' → Same F' H' → ds[i]? = some d → J.go i H' ∧ ∀ x H2, J.yld i H' x H2 → H2 = H' ∧ Is X.K F' x d) →
      (∀ i F' H', Same F F' → Same F' H' → ds.length ≤ i → J.stop i H') →
      ∃ inv : Nat → Nat → St → Hp → Prop, (∃ m, inv 0 m σ H) ∧ ∀ i m σ2 H2, inv i m σ2 H2 → (J.stop i H2 ∧ Dn.nx σ2 H2) ∨ (J.go i H2 ∧ ∃ N : St → Hp → Prop, (∀ σ' H', N σ' H' → ∃ m', m' < m ∧ inv (i + 1) m' σ' H') ∧ ∀ x H3, J.yld i H2 x H3 → gName j x σ2 H3 fun σ4 H4 => tb { Dn with nx := N, ct := N, bk := Dn.nx } σ4 H4) := by
    intro J ds hq h1 h2
    refine ⟨fun i m σ H => m = ds.length - i ∧ i ≤ ds.length ∧ ∃ F2 ρ fs, Same F F2 ∧ SN X.K C F0 H0 a dx F2 H σ ρ fs ∧ goN j mb (ds.drop i) ρ fs = some (ρ', fs'), ⟨ds.length, by simp, Nat.zero_le _, F, ρ, fs, Same.refl _, S, by simpa using hq⟩, ?_⟩
    rintro i m σ2 H2 ⟨rfl, hl, F2, ρ2, fs2, e2, S2, q2⟩
    by_cases hlt : i < ds.length
    · have hd : ds[i]? = some ds[i] := by simp [hlt]
      obtain ⟨g1, g2⟩ := h1 i F2 H2 _ e2 S2.fh hd
      have hdrop : ds.drop i = ds[i] :: ds.drop (i + 1) := List.drop_eq_getElem_cons hlt
      rw [hdrop] at q2
      have q2 : (mb (ρ2.set j (.val ds[i])) fs2).bind (fun r => goN j mb (ds.drop (i + 1)) r.1 r.2) = some (ρ', fs') := q2
      obtain ⟨r, q3, q4⟩ := Option.bind_eq_some_iff.mp q2
      obtain ⟨ρ3, fs3⟩ := r
      refine .inr ⟨g1, fun σ' H' => i + 1 ≤ ds.length ∧ ∃ F2 ρ fs, Same F F2 ∧ SN X.K C F0 H0 a dx F2 H' σ' ρ fs ∧ goN j mb (ds.drop (i + 1)) ρ fs = some (ρ', fs'), fun σ' H' nn => ⟨ds.length - (i + 1), by omega, rfl, nn⟩, fun x H3 y => ?_⟩
      obtain ⟨rfl, rx⟩ := g2 x H3 y
      exact kb F0 H0 a dx F2 _ _ _ _ _ (S2.slot hj rx) ⟨ρ3, fs3, q3, fun F5 H5 σ5 e5 S5 => ⟨hlt, F5, ρ3, fs3, e2.trans e5, S5, q4⟩⟩
    · have e : i = ds.length := by omega
      subst e
      rw [List.drop_length] at q2
      cases q2
      exact .inl ⟨h2 _ F2 H2 e2 S2.fh (Nat.le_refl _), w F2 H2 σ2 e2 S2⟩
  cases zl : fs.lookup f with
  | none => simp only [zl] at q; cases q
  | some s =>
    cases s with
    | val d =>
      obtain ⟨v, l1, r⟩ := n.val_at zl
      cases r with
      | lst s t =>
        simp only [zl] at q
        refine .inl ⟨_, S.sf, a, _, dx, vs, _, rfl, hoa, hc, hn, l1, _, rfl, ⟨_, .of (S.fh _ _ s)⟩, ?_⟩
        refine loop _ _ q (fun i F' H' d e1 e2 hd => ?_) (fun i F' H' e1 e2 hl => ⟨_, .of (e2 _ _ (e1 _ _ s)), by rw [t.length]; exact hl⟩)
        obtain ⟨v', k1, k2⟩ := t.get hd
        have sH := SqL.of (K := X.K) (e2 _ _ (e1 _ _ s))
        refine ⟨⟨_, v', sH, k1⟩, fun x H2 y => ?_⟩
        obtain ⟨rfl, y⟩ := y
        have := y _ sH
        rw [k1] at this; cases this
        exact ⟨rfl, k2.mono e1⟩
      | tup s t =>
        simp only [zl] at q
        refine .inr ⟨_, S.sf, a, _, dx, vs, _, rfl, hoa, hc, hn, l1, _, rfl, ⟨_, sqT_mono S.fh s⟩, ?_⟩
        refine loop _ _ q (fun i F' H' d e1 e2 hd => ?_) (fun i F' H' e1 e2 hl => ⟨_, sqT_mono e2 (sqT_mono e1 s), by rw [t.length]; exact hl⟩)
        obtain ⟨v', k1, k2⟩ := t.get hd
        have sH := sqT_mono e2 (sqT_mono e1 s)
        refine ⟨⟨_, v', sH, k1⟩, fun x H2 y => ?_⟩
        obtain ⟨rfl, y⟩ := y
        have := y _ sH
        rw [k1] at this; cases this
        exact ⟨rfl, k2.mono e1⟩
      | _ => simp only [zl] at q; cases q
    | _ => simp only [zl] at q; cases q
end

/-! ### the def __init__ -/
def runN (n p : Nat) (m : MN) (ds : List D) : Option (List (Str × D)) := if ds.length + 1 = p then (m (Sl.no :: (ds.map Sl.val ++ List.replicate (n - p) Sl.no)) []).map fun r => datas r.2 else none
def BodyN (P : Program) (w : World) (K : PySem.W.Frag) (mg : Str → Option Value) (base : Heap) (qual : Str) (body : List Stmt) (scope : Scope) (f : Addr) (N : List Str) (k : Nat) (C : Str) (m : MN) : Prop :=
  ∀ (cdv : Value) (A : Around) (outer : List Env) (s : Shared) (H : Hp) (E : XK), Room k (A.deeper (PyProof.Rows.envOfC qual scope s.heap.objs.size f cdv)) →
    DN (cxOf (L2.CX P w) P w K mg base N qual scope f cdv A outer s H E) C body m
section
variable {P : Program} {w : World} {K : PySem.W.Frag} {mg : Str → Option Value} {base : Heap} {x qual : Str} {params : Arguments} {body : List Stmt} {scope : Scope} {dvs : List V} {kws : List (Str × V)} {f : Addr} {fd : FuncData} {N ps : List Str} {k : Nat} {C : Str} {m : MN}
theorem SN.start {F H : Hp} {a dx : Addr} {vs : List V} {ds : List D} (e : Same F H) (fa : F a = none) (fd : F dx = none) (ne : dx ≠ a) (ha : H a = some (.ins (He.ga K C) dx [])) (hd : H dx = some (.own a)) (r : IsAll K F vs ds) (hl : vs.length + 1 ≤ N.length) :
    SN K C F H a dx F H (L2.start N (.ref a :: vs)) (Sl.no :: (ds.map Sl.val ++ List.replicate (N.length - (ds.length + 1)) Sl.no)) [] := by
  have hs : L2.start N (V.ref a :: vs) = some (V.ref a) :: (vs.map some ++ List.replicate (N.length - (vs.length + 1)) none) := by
    unfold L2.start
    rw [List.map_cons, List.cons_append, List.length_cons]
  rw [hs]
  exact {
    sf := rfl
    fh := e
    f0 := Same.refl _
    h0 := fun b o q _ => q
    n0 := fun b _ _ _ q => q
    fa := fa
    fd := fd
    ne := ne
    hd := hd
    ob := ⟨[], [], ha, .nil⟩
    vl := fun i d q => by
      cases i with
      | zero => cases q
      | succ i =>
        rw [List.getElem?_cons_succ] at q ⊢
        rcases get_start q with ⟨d', h1, h2⟩ | h
        · cases h2
          obtain ⟨v, h3, h4⟩ := r.get h1
          refine ⟨v, ?_, h4⟩
          rw [List.getElem?_append_left (by simpa using (List.getElem?_eq_some_iff.mp h3).1), List.getElem?_map, h3]
          rfl
        · cases h
    nm := fun i s q => by
      cases i with
      | zero => cases q; exact .inl rfl
      | succ i =>
        rw [List.getElem?_cons_succ] at q
        rcases get_start q with ⟨d', h1, h2⟩ | h
        · exact .inr ⟨_, h2⟩
        · exact .inl h
    len := by simp [r.length] }
theorem fn_new (F : FunD K x qual params body scope dvs kws f fd) (S : FnScope N ps scope) (hm : BodyN P w K mg base qual body scope f N k C m) (hl : ps.length ≤ N.length := by decide) :
    FnOk P w K mg base (L2.CX P w) (k + 1) f fd ps (spNew K C (runN N.length ps.length m)) := by
  refine F.ok S (fun vs H Q E h => ?_) (fun cdv A outer s H vs Q E hr h => ?_)
  · obtain ⟨F0, a, dx, vs', ds, gs, rfl, _, _, _, _, _, _, r, hf, _⟩ := h
    rw [List.length_cons, r.length]
    unfold runN at hf
    split at hf
    · assumption
    · cases hf
  · obtain ⟨F0, a, dx, vs', ds, gs, rfl, e, fa, fd', ne, ha, hd, r, hf, w⟩ := h
    unfold runN at hf
    split at hf
    case isFalse => cases hf
    case isTrue hn =>
      obtain ⟨rr, h1, h2⟩ := Option.map_eq_some_iff.mp hf
      obtain ⟨ρ1, fs1⟩ := rr
      obtain ⟨ts, pt, kt⟩ := (hm cdv A outer s H E hr).run
      have S0 := SN.start (N := N) (C := C) e fa fd' ne ha hd r (by rw [r.length, hn]; exact hl)
      rw [hn] at S0
      refine ⟨ts, pt, kt F0 H a dx F0 H _ _ _ _ S0 ⟨ρ1, fs1, h1, fun F1 H1 σ1 e1 S1 => ?_⟩⟩
      obtain ⟨vs1, ps1, ho, n⟩ := S1.ob
      have V := S1.view ho n
      have e2 : Same F0 (upd (frzF F1 H1 ps1) a (.ins (He.ga K C) dx vs1)) := fun b o q => by
        have q1 := e1 b o q
        have nb : b ≠ a := fun z => by subst z; rw [S1.fa] at q1; cases q1
        rw [upd_ne nb]
        unfold frzF
        by_cases hb : b ∈ ps1
        · rw [(n.at b hb).1] at q1; cases q1
        · rw [if_neg hb]; exact q1
      refine w _ H1 e2 V.fh S1.h0 (fun b q na nd f => ?_) ⟨vs1, upd_same, ?_⟩
      · rw [upd_ne na]
        unfold frzF
        by_cases hb : b ∈ ps1
        · exact absurd (n.at b hb).2.2.1 q
        · rw [if_neg hb]; exact S1.n0 b q na nd f
      · subst h2
        refine n.is (fun b o q => ?_) fun p hp => ?_
        · have nb : b ≠ a := fun z => by subst z; rw [S1.fa] at q; cases q
          rw [upd_ne nb]
          unfold frzF
          by_cases hb : b ∈ ps1
          · rw [(n.at b hb).1] at q; cases q
          · rw [if_neg hb]; exact q
        · rw [upd_ne (n.at p hp).2.2.2.1]
          unfold frzF
          rw [if_pos hp]
end
end DL
namespace DL
open PySem PySem.Spec L2
section
variable {X : Cx} {W : WX} {p pos : Pos} {i : Nat} {o : Expr}
/-- len(x), x a name of the def whose list may be its own -/
def cLenV (i : Nat) : M D := fun ρ => match slotD ρ[i]? with
  | some d => ret (opLen [d]) ρ
  | none => .bad
theorem dv_lenV (ho : PE X o (tVar i)) (hg : Gl X "len") (hm : X.mg "len" = none) (he : starEach (o :: []) X.env = (false, eval o X.env) :: starEach [] X.env := by rfl) (hpl : (backTo pos (starEach [] X.env)).any (·.1) = false := by rfl) :
    DV X W (.Call (.Name "len" p) [o] [] pos) (cLenV i) := by
  refine ⟨_, pe_callB call_len hg hm PySem.boot_len (pa_cons ho pa_nil he) (by decide) (by decide) he hpl, fun c F H σ ρ Q S q => ?_⟩
  unfold cLenV at q
  cases z : slotD ρ[i]? with
  | none => rw [z] at q; exact q.elim
  | some d =>
    rw [z] at q
    have q : Post X.K c W F σ (fun F' H' _ d => ∀ v, Is X.K F' v d → Q v H') (ret (opLen [d]) ρ) := q
    obtain ⟨v, h0, h⟩ := slot_read S z
    refine ⟨v, h0, ?_⟩
    rcases h with r | ⟨p, xs, ds, rfl, rfl, hp, ra⟩
    · cases z2 : opLen [d] with
      | none => rw [z2] at q; exact q.elim
      | some e =>
        rw [z2] at q
        exact dc_len c F H σ ρ Q [v] [d] e S (.cons r .nil) z2 fun v' F' H' e1 S' i => q F' H' e1 S' v' i
    · have q : Post X.K c W F σ (fun F' H' _ d => ∀ v, Is X.K F' v d → Q v H') (ret (some (.int ds.length)) ρ) := q
      exact ⟨_, _, rfl, .inl ⟨xs, .of hp, rfl⟩, by rw [ra.length]; exact q F H (Same.refl _) S _ (.int _)⟩
end
end DL

end
section
namespace DL
open PySem PySem.Spec L2 PySem.W
theorem boot_abs : bootBuiltins "abs" = some (.builtin "abs") := by decide +kernel
theorem boot_max : bootBuiltins "max" = some (.builtin "max") := by decide +kernel
theorem boot_min : bootBuiltins "min" = some (.builtin "min") := by decide +kernel
theorem boot_sum : bootBuiltins "sum" = some (.builtin "sum") := by decide +kernel
theorem boot_any : bootBuiltins "any" = some (.builtin "any") := by decide +kernel
theorem boot_all : bootBuiltins "all" = some (.builtin "all") := by decide +kernel
theorem boot_divmod : bootBuiltins "divmod" = some (.builtin "divmod") := by decide +kernel
theorem boot_sorted : bootBuiltins "sorted" = some (.builtin "sorted") := by decide +kernel
theorem boot_repr : bootBuiltins "repr" = some (.builtin "repr") := by decide +kernel
/-! ### the module's constants -/
mutual
def dB (K : Frag) : D → Value → Bool
  | .int j, .int i _ => decide (i = j)
  | .str y, .str x _ => decide (x = y)
  | .bl b, .bool a => decide (a = b)
  | .non, .none => true
  | .tup ds, .ref a => match K.lookup a with
    | some ⟨.type c, _, .seq its _, _⟩ => decide (c = "tuple") && (decide (its.size ≤ sizeLine) && dBs K ds its.toList)
    | _ => false
  | _, _ => false
def dBs (K : Frag) : List D → List Value → Bool
  | [], [] => true
  | d :: ds, u :: us => dB K d u && dBs K ds us
  | _, _ => false
end
mutual
theorem dB_ok {K : Frag} {d : D} {u : Value} (h : dB K d u = true) : ∃ v, RelV v u ∧ ∀ F, Is K F v d := by
  unfold dB at h
  split at h
  · have e := of_decide_eq_true h
    subst e
    exact ⟨.int _, ⟨_, rfl⟩, fun F => .int _⟩
  · have e := of_decide_eq_true h
    subst e
    exact ⟨.str _, ⟨_, rfl⟩, fun F => .str _⟩
  · have e := of_decide_eq_true h
    subst e
    exact ⟨.bl _, rfl, fun F => .bl _⟩
  · exact ⟨.non, rfl, fun F => .non⟩
  · rename_i ds a
    split at h
    · rename_i c dd its n sl q
      rw [Bool.and_eq_true, Bool.and_eq_true] at h
      obtain ⟨h1, h2, h3⟩ := h
      obtain ⟨vs, r, i⟩ := dBs_ok h3
      exact ⟨.ref a, rfl, fun F => .tup (.inr ⟨_, its, n, q, congrArg Value.type (of_decide_eq_true h1), rfl, of_decide_eq_true h2, r⟩) (i F)⟩
    · cases h
  · cases h
termination_by sizeOf d
theorem dBs_ok {K : Frag} {ds : List D} {us : List Value} (h : dBs K ds us = true) : ∃ vs, Vals vs us ∧ ∀ F, IsAll K F vs ds := by
  unfold dBs at h
  split at h
  · exact ⟨[], .nil, fun F => .nil⟩
  · rw [Bool.and_eq_true] at h
    obtain ⟨v, r, i⟩ := dB_ok h.1
    obtain ⟨vs, rs, is⟩ := dBs_ok h.2
    exact ⟨v :: vs, .cons r rs, fun F => .cons (i F) (is F)⟩
  · cases h
termination_by sizeOf ds
end
def constB (K : Frag) (p : Str × D) : Bool := match nsIn K mainGlobals p.1 with
  | some (some u) => dB K p.2 u
  | _ => false
theorem const_ok {K : Frag} {h : Heap} {mg : Str → Option Value} (X : K.In h) (G : h.Ns mainGlobals mg) {p : Str × D} (c : constB K p = true) : ∃ u v, mg p.1 = some u ∧ RelV v u ∧ ∀ F, Is K F v p.2 := by
  unfold constB at c
  split at c
  · rename_i u e
    obtain ⟨v, r, i⟩ := dB_ok c
    exact ⟨u, v, mg_of X G e, r, i⟩
  · cases c
/-! ### the errors' classes -/
def eqV1 (a b : Option Value) : Bool := decide (a = b)
def clsB (K : Frag) (C : Addr) : Bool := match K.lookup C with
  | some ⟨.type c, _, .cls cd, sl⟩ => (match cd.mro, sl.toList with
    | .ref C' :: bm, [_, _, _, _, some (.builtin n), _] => decide (c = "type") && (decide (C' = C) && (decide (n = "ValueError.__new__") && (!cd.hasDel && (cd.hasDict && HandSPX.refsVE bm))))
    | _, _ => false)
  | _ => false
theorem clsB_ok {K : Frag} {C : Addr} (h : clsB K C = true) : ∃ nm q N bs bm sn sub ab col dd k0 k1 k2 k3 k5, K.lookup C = some (excClassObj nm q C N bs bm true sn sub ab col dd k0 k1 k2 k3 k5 "ValueError.__new__") ∧ HandSPX.refsVE bm = true := by
  unfold clsB at h
  split at h
  · rename_i c dd cd sl ho
    split at h
    · rename_i C' bm k0 k1 k2 k3 n k5 hm hs
      simp only [Bool.and_eq_true, Bool.not_eq_true', decide_eq_true_eq] at h
      obtain ⟨rfl, rfl, rfl, hdel, hdct, hb⟩ := h
      obtain ⟨nm, bs, mro, ns, qn, hd, sn, sub, ab, col, del⟩ := cd
      dsimp only at hm hdel hdct
      subst hm hdel hdct
      have hsl : sl = #[k0, k1, k2, k3, some (.builtin "ValueError.__new__"), k5] := by
        obtain ⟨l⟩ := sl
        simp only at hs
        rw [hs]
      subst hsl
      exact ⟨nm, qn, ns, bs, bm, sn, sub, ab, col, dd, k0, k1, k2, k3, k5, ho, hb⟩
    · cases h
  · cases h
def dayB (K : Frag) (C D fI : Addr) : Bool :=
  clsB K C && (He.eqO (findIn K (.ref C) "__setattr__") (some (some (.builtin "object.__setattr__"))) && (He.eqO (findIn K (.ref C) "value") (some none) && (He.eqO (findIn K (.ref C) "__init__") (some (some (.ref fI))) && (eqV1 (typeIn K (.ref fI)) (some (.type "function")) &&
    ((clsIn K D).isSome && (decide (mroIn K C (.ref D) = some true) && (He.eqO (ks_superIn K C D "__init__") (some (some (.builtin "ValueError.__init__"))) && (He.eqO (nsIn K cStatics "thirdparty.any") (some none) && (decide (subIn K (.ref C) (.type "ValueError") = some true) &&
    (keepIn K (.ref C) && (decide (subIn K (.ref C) (.type "BaseException") = some true) && (eqV1 (typeIn K (.ref C)) (some (.type "type")) && (He.eqO (findIn K (.ref C) "__getattribute__") (some (some (.builtin "BaseException.__getattribute__"))) && (He.eqO (findIn K (.ref C) "__getattr__") (some none) &&
    (hasDictIn K C && (He.eqO (findIn K (.ref C) "__class__") (some (some (.builtin "object.__class__"))) && (He.eqO (specialIn K (.builtin "object.__class__") "__get__") (some (some (.builtin "getset_descriptor.__get__"))) && (decide (takesIn K (.builtin "object.__class__") = some true) && decide (mroIn K C (.type "object") = some true)))))))))))))))))))
/-- the text of __init__ -/
abbrev InitW : Type := Option (Str × Str × Arguments × FuncBody × Scope × Addr × List Str × Addr × Value × Value)
def initW (K : Frag) (fI : Addr) : InitW := match K.lookup fI with
  | some ⟨_, _, .func fd, _⟩ => some (fd.name, fd.qualname, fd.params, fd.body, fd.scope, fd.globals, fd.closure.map (·.1), fd.builtins, fd.defaults, fd.kwdefaults)
  | _ => none
def initB (P : Program) (K : Frag) (fI D : Addr) : Bool := match K.lookup fI with
  | some ⟨_, _, .func fd, _⟩ => (match fd.code, fd.closure with
    | .ref cda, [(_, cc)] => codeIn K (.ref cda) "DayError.__init__" && ((match K.lookup cda with
      | some ⟨_, _, .fields vs, _⟩ => (match (vs[2]? : Option Value) with
        | some (.str file _) => decide (P.main.file = file)
        | _ => false)
      | _ => false) && (match K.lookup cc with
      | some ⟨_, _, .cell (some (.ref D')), _⟩ => decide (D' = D)
      | _ => false))
    | _, _ => false)
  | _ => false
theorem init_ok {P : Program} {K : Frag} {fI D : Addr} {p1 p2 q0 q1 q2 q3 q4 q5 q6 q7 q8 q9 : Pos} (h : initB P K fI D = true)
    (e : initW K fI = some (("__init__" : Str), ("DayError.__init__" : Str), DayX.iP p1 p2, FuncBody.stmts (DayX.iB q0 q1 q2 q3 q4 q5 q6 q7 q8 q9), DayX.iS, mainGlobals, [("__class__" : Str)], builtinsNs, Value.none, Value.none)) (he : DayX.HeT q0 q1 q2 q3 q4) :
    ∃ (oc : Value) (od : Option Addr) (osl : Array (Option Value)) (cc cda : Addr) (ccl cl : Value) (cdd cld : Option Addr) (vs : Array Value) (ccs csl : Array (Option Value)) (file : Str) (tf : Tok)
    (dV kV doc pm ct : Value) (an : Option Addr) (p1 p2 q0 q1 q2 q3 q4 q5 q6 q7 q8 q9 : Pos),
    K.lookup fI = some ⟨oc, od, .func (ksFn "__init__" "DayError.__init__" (DayX.iP p1 p2) (DayX.iB q0 q1 q2 q3 q4 q5 q6 q7 q8 q9) DayX.iS dV kV doc pm an (.ref cda) ct cc), osl⟩ ∧ codeIn K (.ref cda) "DayError.__init__" = true ∧
    K.lookup cda = some ⟨ccl, cdd, .fields vs, ccs⟩ ∧ vs[2]? = some (.str file tf) ∧ ((P.main.file : Str) == file) = true ∧ K.lookup cc = some ⟨cl, cld, .cell (some (.ref D)), csl⟩ ∧
    (dV = .none ∧ kV = .none) ∧ DayX.HeT q0 q1 q2 q3 q4 := by
  unfold initW at e
  unfold initB at h
  cases q : K.lookup fI with
  | none => rw [q] at h; cases h
  | some o =>
    obtain ⟨oc, od, dt, osl⟩ := o
    rw [q] at h e
    cases dt with
    | func fd =>
      obtain ⟨n1, n2, n3, n4, n5, n6, n7, n8, n9, n10, n11, n12, n13, n14, n15⟩ := fd
      dsimp only at h e
      simp only [Option.some.injEq, Prod.mk.injEq] at e
      obtain ⟨h1, h2, h3, h4, h5, h6, h7, h8, h9, h10⟩ := e
      subst h1 h2 h3 h4 h5 h6 h8 h9 h10
      cases n13 with
      | ref cda =>
        cases n7 with
        | nil => simp at h7
        | cons cl0 rest =>
          cases rest with
          | cons _ _ => simp at h7
          | nil =>
            obtain ⟨cn, cc⟩ := cl0
            have ecn : cn = "__class__" := by
              have := h7
              simp only [List.map_cons, List.map_nil, List.cons.injEq, and_true] at this
              exact this
            subst ecn
            rw [Bool.and_eq_true, Bool.and_eq_true] at h
            obtain ⟨k1, k2, k3⟩ := h
            cases hq2 : K.lookup cda with
            | none => rw [hq2] at k2; cases k2
            | some o2 =>
              obtain ⟨c2, d2, dt2, s2⟩ := o2
              rw [hq2] at k2
              cases dt2 with
              | fields vs =>
                cases q4' : vs[2]? with
                | none => simp only [q4'] at k2; cases k2
                | some fv =>
                  cases fv with
                  | str file tf =>
                    simp only [q4'] at k2
                    cases q3' : K.lookup cc with
                    | none => rw [q3'] at k3; cases k3
                    | some o3 =>
                      obtain ⟨c3, d3, dt3, s3⟩ := o3
                      rw [q3'] at k3
                      cases dt3 with
                      | cell cv =>
                        cases cv with
                        | none => cases k3
                        | some v =>
                          cases v with
                          | ref D' =>
                            have eD : D' = D := of_decide_eq_true k3
                            subst eD
                            exact ⟨oc, od, osl, cc, cda, c2, c3, d2, d3, vs, s2, s3, file, tf, .none, .none, n10, n11, n14, n12, p1, p2, q0, q1, q2, q3, q4, q5, q6, q7, q8, q9, rfl, k1, hq2, q4', by rw [of_decide_eq_true k2]; simp, q3', ⟨rfl, rfl⟩, he⟩
                          | _ => cases k3
                      | _ => cases k3
                  | _ => simp only [q4'] at k2; cases k2
              | _ => cases k2
      | _ => cases n7 <;> cases h
    | _ => cases h
end DL
namespace DL
open PySem PySem.Spec L2 PySem.W
theorem day_ok {P : Program} {K : Frag} {mg : Str → Option Value} {C D fI : Addr} (h : dayB K C D fI = true) (ht : (P.main.scope.names.lookup ("super" : Str)).isSome = false) (hm : mg "super" = none)
    (hf : ∃ (oc : Value) (od : Option Addr) (osl : Array (Option Value)) (cc cda : Addr) (ccl cl : Value) (cdd cld : Option Addr) (vs : Array Value) (ccs csl : Array (Option Value)) (file : Str) (tf : Tok)
    (dV kV doc pm ct : Value) (an : Option Addr) (p1 p2 q0 q1 q2 q3 q4 q5 q6 q7 q8 q9 : Pos),
    K.lookup fI = some ⟨oc, od, .func (ksFn "__init__" "DayError.__init__" (DayX.iP p1 p2) (DayX.iB q0 q1 q2 q3 q4 q5 q6 q7 q8 q9) DayX.iS dV kV doc pm an (.ref cda) ct cc), osl⟩ ∧ codeIn K (.ref cda) "DayError.__init__" = true ∧
    K.lookup cda = some ⟨ccl, cdd, .fields vs, ccs⟩ ∧ vs[2]? = some (.str file tf) ∧ ((P.main.file : Str) == file) = true ∧ K.lookup cc = some ⟨cl, cld, .cell (some (.ref D)), csl⟩ ∧
    (dV = .none ∧ kV = .none) ∧ DayX.HeT q0 q1 q2 q3 q4) : DayX.Txt P K mg C D fI ∧ ExcC K C := by
  unfold dayB at h
  simp only [Bool.and_eq_true, decide_eq_true_eq, He.eqO, eqV1] at h
  obtain ⟨h1, h2, h3, h4, h5, h6, h7, h8, h9, h10, h11, h12, h13, h14, h15, h16, h17, h18, h19, h20⟩ := h
  exact ⟨{ cls := clsB_ok h1, sa := h2, noN := h3, iC := h4, tC := h5, clD := h6, mroD := h7, sup := h8, opq := h9, subV := h10, top := ht, mgS := hm, kC := h11, exC := h12, tyC := h13, ga := h14, gg := h15, hdC := h16, fn := hf },
    ⟨h14, h15, h12, h16, h17, h18, h19, h20⟩⟩
/-- what is asked of the errors' classes: isinstance and the except clauses -/
def tyNames : List String := ["NoneType", "bool", "int", "str", "list", "tuple"]
structure XQ where
  cs : List Str
  kit : List (Str × List (Str × Bool))
  exm : List (Str × List (Str × Bool))
  consts : List (Str × D)
def XQ.ok (P : Program) (K : Frag) (x : XQ) : Bool :=
  (x.cs.all fun C => dayB K (He.ga K C) (He.ga K "DayError") (He.ma K (He.ga K "DayError") "__init__")) && ((initB P K (He.ma K (He.ga K "DayError") "__init__") (He.ga K "DayError")) &&
  ((x.kit.all fun p => (tyNames.all fun a => decide (kitOne K (.type a) (.ref (He.ga K p.1)) = some false)) && p.2.all fun q => decide (kitOne K (.ref (He.ga K q.1)) (.ref (He.ga K p.1)) = some q.2)) &&
  ((x.exm.all fun p => p.2.all fun q => decide (exmOne K (.ref (He.ga K q.1)) (.ref (He.ga K p.1)) = some q.2)) && x.consts.all fun p => constB K p)))
abbrev AlX : Type := He.AlD × (Bool × InitW)
def obsX (P : Program) (fa : List He.Fa) (fn : List He.DefD) (x : XQ) (K : Frag) : AlX := (He.obsD fa fn K, (x.ok P K, initW K (He.ma K (He.ga K "DayError") "__init__")))
def valX (fn : List He.DefD) (iw : InitW) : AlX := (He.valD fn, (true, iw))
def obsXG (P : Program) (n : Nat) (fa : List He.Fa) (fn : List He.DefD) (x : XQ) (g : Addr → Option Obj) : AlX := obsX P fa fn x (He.frG g (cStatics :: He.asD g n))
def hookX (P : Program) (n : Nat) (fa : List He.Fa) (fn : List He.DefD) (x : XQ) (iw : InitW) : PySem.W.Hook where
  α := AlX
  obs := fun s => obsXG P n fa fn x s.heap.get?
  val := fun _ => valX fn iw
  says := fun _ h => ∃ K : PySem.W.Frag, K.In h ∧ obsX P fa fn x K = valX fn iw
  of := fun _ _ e => ⟨_, He.frG_in, e⟩
  keeps := fun _ _ _ ⟨K, hK, c⟩ k => ⟨K, PySem.W.Frag.In.keeps hK k, c⟩
theorem obsXG_eq {P : Program} {n : Nat} {fa : List He.Fa} {fn : List He.DefD} {x : XQ} {iw : InitW} {g : Addr → Option Obj} {s : Shared} (h : ∀ a, g a = s.heap.get? a) : obsXG P n fa fn x g = (hookX P n fa fn x iw).obs s := by
  have e : g = s.heap.get? := funext h
  rw [e] <;> rfl
end DL

end
section
namespace L2
theorem Room.units65 {k : Nat} {A : PySem.Around} (r : Room k A) : A.units + 65 < PySem.cLine := by have := r.un; omega
end L2
namespace DL
open PySem PySem.Spec L2
def ConAt (K : PySem.W.Frag) (mg : Str → Option Value) (x : Str) (d : D) : Prop := ∃ u v, mg x = some u ∧ RelV v u ∧ ∀ F, Is K F v d
theorem dv_con {X : Cx} {W : WX} {x : Str} {d : D} {pos : Pos} (hg : Gl X x) (h : ConAt X.K X.mg x d) (hx : (x == ("__debug__" : Str)) = false := by decide) : DV X W (.Name x pos) (cC d) := by
  obtain ⟨u, v, h1, h2, h3⟩ := h
  exact dv_glob hg h1 h2 h3 hx
/-- the list that may change is still known at the end -/
def RF.io : RF → RF
  | .ok s (some ds) => .ok s (some ds)
  | .exc C x (some ds) => .exc C x (some ds)
  | _ => .bad
def runIO2 (n p : Nat) (m : M Fl) (es ds : List D) : RF := (runIO n p m es ds).io
section
variable {P : Program} {w : World} {K : PySem.W.Frag} {mg : Str → Option Value} {base : Heap} {x qual : Str} {params : Arguments} {body : List Stmt} {scope : Scope} {dvs : List V} {kws : List (Str × V)} {f : Addr} {fd : FuncData} {N ps : List Str} {k : Nat} {m : M Fl}
theorem fn_IO2 (F : FunD K x qual params body scope dvs kws f fd) (S : FnScope N ps scope) (hm : Body P w K mg base qual body scope f N k m) (hl : ps.length ≤ N.length := by decide) :
    FnOk P w K mg base (L2.CX P w) (k + 1) f fd ps (spIO K (runIO2 N.length ps.length m)) := by
  refine F.ok S (fun vs H Q E h => ?_) (fun cdv A outer s H vs Q E hr h => ?_)
  · obtain ⟨F0, a, xs, es, vs', ds, rfl, _, _, _, _, r, p⟩ := h
    rw [List.length_cons, r.length]
    unfold runIO2 runIO at p
    split at p
    · assumption
    · exact p.elim
  · obtain ⟨F0, a, xs, es, vs', ds, rfl, e, hF, hH, rx, r, p⟩ := h
    unfold runIO2 runIO at p
    split at p
    case isFalse => exact p.elim
    case isTrue hd =>
      obtain ⟨ts, pt, kt⟩ := (hm cdv A outer s H E hr).run
      have S0 := SR.startIO (N := N) e hF hH rx r (by rw [r.length, hd]; exact hl)
      refine ⟨ts, pt, kt ⟨F0, H, some a⟩ F0 H _ _ _ S0 ?_⟩
      rw [hd]
      cases z : m (Sl.io es :: (ds.map Sl.val ++ List.replicate (N.length - ps.length) Sl.no)) with
      | bad => rw [z] at p; exact p.elim
      | exc C y ρ' =>
        rw [z] at p
        cases zi : ioOf ρ' with
        | none => simp only [finF, zi, RF.io] at p; exact p.elim
        | some fs =>
          simp only [finF, zi, RF.io] at p
          intro d v F' H' σ' e' S hd hv
          exact p d v F' H' (S.after0 fun a' q => ⟨fs, zi, rfl⟩) hd hv
      | ok fl ρ' =>
        rw [z] at p
        cases fl with
        | next =>
          cases zi : ioOf ρ' with
          | none => simp only [finF, zi, RF.io] at p; exact p.elim
          | some fs =>
            simp only [finF, zi, RF.io] at p
            intro F' H' σ' e' S
            exact p .non F' H' (S.after0 fun a' q => ⟨fs, zi, rfl⟩) .non
        | ret s' =>
          cases zi : ioOf ρ' with
          | none => simp only [finF, zi, RF.io] at p; exact p.elim
          | some fs =>
            simp only [finF, zi, RF.io] at p
            intro F' H' σ' e' S v r'
            exact p v F' H' (S.after0 fun a' q => ⟨fs, zi, rfl⟩) (res_F r')
        | brk => exact p.elim
        | cont => exact p.elim
end

/-! ### the law: nothing is raised -/
def RF.calm : RF → RF
  | .exc _ _ _ => .bad
  | r => r
def runV0 (n p : Nat) (m : M Fl) (ds : List D) : RF := (runV n p m ds).calm
def Body0 (P : Program) (w : World) (K : PySem.W.Frag) (mg : Str → Option Value) (base : Heap) (qual : Str) (body : List Stmt) (scope : Scope) (f : Addr) (N : List Str) (k : Nat) (m : M Fl) : Prop :=
  ∀ (cdv : Value) (A : Around) (outer : List Env) (s : Shared) (H : Hp) (E : XK), Room k (A.deeper (PyProof.Rows.envOfC qual scope s.heap.objs.size f cdv)) →
    DSs (cxOf L2.CX0 P w K mg base N qual scope f cdv A outer s H E) W0 body m
section
variable {P : Program} {w : World} {K : PySem.W.Frag} {mg : Str → Option Value} {base : Heap} {x qual : Str} {params : Arguments} {body : List Stmt} {scope : Scope} {dvs : List V} {kws : List (Str × V)} {f : Addr} {fd : FuncData} {N ps : List Str} {k : Nat} {m : M Fl}
theorem ends_F0 {c : Ct} {F H : Hp} {Q : VK} {E : XK} {r : R Fl} (hc : c = ⟨F, H, none⟩) (p : PostF K F H none Q E (finF r).calm) : PostS K c W0 F { nx := fun _ H' => Q .non H', rt := Q } r := by
  subst hc
  cases r with
  | bad => exact p.elim
  | exc C y ρ' => exact p.elim
  | ok fl ρ' =>
    cases fl with
    | next =>
      intro F' H' σ' e S
      exact p .non F' H' (S.after0 fun a q => by cases q) .non
    | ret s =>
      intro F' H' σ' e S v r
      exact p v F' H' (S.after0 fun a q => by cases q) (res_F r)
    | brk => exact p.elim
    | cont => exact p.elim
theorem fn_V0 (F : FunD K x qual params body scope dvs kws f fd) (S : FnScope N ps scope) (hm : Body0 P w K mg base qual body scope f N k m) (hl : ps.length ≤ N.length := by decide) :
    FnOk P w K mg base L2.CX0 (k + 1) f fd ps (spV K (runV0 N.length ps.length m)) := by
  refine F.ok S (fun vs H Q E h => ?_) (fun cdv A outer s H vs Q E hr h => ?_)
  · obtain ⟨F0, ds, _, r, p⟩ := h
    rw [r.length]
    unfold runV0 runV at p
    split at p
    · assumption
    · exact p.elim
  · obtain ⟨F0, ds, e, r, p⟩ := h
    unfold runV0 runV at p
    split at p
    case isFalse => exact p.elim
    case isTrue hd =>
      obtain ⟨ts, pt, kt⟩ := (hm cdv A outer s H E hr).run
      refine ⟨ts, pt, kt ⟨F0, H, none⟩ F0 H _ _ _ (SR.startV e r (by rw [r.length, hd]; exact hl)) ?_⟩
      rw [hd]
      exact ends_F0 rfl p
/-- what a law that answers True wants -/
theorem law_sp {f : List D → RF} {H : Hp} {a : Addr} {ns : List Int} (hf : f [.scr ns] = .ok (.val (.bl true)) none) (hS : SqL K H a (ns.map V.int)) : spV K f [.ref a] H (fun v _ => v = .bl true) fun _ _ _ => False := by
  refine ⟨H, [.scr ns], Same.refl _, .cons (.scr hS) .nil, ?_⟩
  rw [hf]
  intro v F' H' _ r
  cases r
  rfl
end
end DL
namespace DL
theorem mem_lookup {α : Type} {k : PySem.Str} {v : α} : ∀ {l : List (PySem.Str × α)}, l.lookup k = some v → (k, v) ∈ l
  | [], h => by simp at h
  | (a, b) :: l, h => by
    rw [List.lookup_cons] at h
    cases e : (k == a) with
    | true =>
      rw [e] at h
      cases h
      rw [eq_of_beq e]
      exact List.mem_cons_self
    | false =>
      rw [e] at h
      exact List.mem_cons_of_mem _ (mem_lookup h)
end DL

end
section
namespace DL
open PySem PySem.Spec L2
/-! ### < of tuples of ints too -/
def D.ltE : D → D → Option D
  | .tup a, .tup b => match D.ints a, D.ints b with
    | some ns, some ms => some (.bl (HT.lexLt ns ms))
    | _, _ => none
  | d, e => D.lt d e
theorem do_ltE {X : Cx} (hu : X.A.units < cLine) : DOp X (compareOp .Lt) D.ltE := by
  obtain ⟨r, hr, k⟩ := do_lt (X := X)
  refine ⟨_, hr.or (op_ltT hu), fun c F H σ ρ Q x y d e z S rx ry h q => ?_⟩
  cases rx with
  | tup s t =>
    cases ry with
    | tup s' t' =>
      simp only [D.ltE] at h
      split at h
      · rename_i ns ms h1 h2
        cases h
        have e1 := ints_some h1
        have e2 := ints_some h2
        subst e1 e2
        have f1 := is_ints t
        have f2 := is_ints t'
        subst f1 f2
        exact .inr ⟨_, _, ns, ms, rfl, rfl, sqT_mono S.fh s, sqT_mono S.fh s', q _ F H (Same.refl _) S (.bl _)⟩
      · cases h
    | _ => cases h
  | int i => exact .inl (k c F H σ ρ Q _ _ _ _ _ S (.int i) ry h q)
  | str x => exact .inl (k c F H σ ρ Q _ _ _ _ _ S (.str x) ry h q)
  | _ => cases ry <;> cases h
/-! ### the in-place operators -/
def D.addI : D → D → Option D
  | .int i, .int j => some (.int (i + j))
  | _, _ => none
theorem di_add {X : Cx} : DOp X (inplaceOp .Add) D.addI := do_int (g := fun i j => .int (i + j)) iop_add (fun _ _ _ => .int _) fun d e z h => by
  cases d <;> cases e <;> first | (cases h; exact ⟨_, _, rfl, rfl, rfl⟩) | cases h
theorem di_sub {X : Cx} : DOp X (inplaceOp .Sub) D.sub := do_int (g := fun i j => .int (i - j)) iop_sub (fun _ _ _ => .int _) fun d e z h => by
  cases d <;> cases e <;> first | (cases h; exact ⟨_, _, rfl, rfl, rfl⟩) | cases h
end DL

end
section
namespace CAL
/-! plain theory of calendars: years of months of days, in a cycle -/
theorem sum_take_succ (l : List Int) (k : Nat) (h : k < l.length) : (l.take (k + 1)).sum = (l.take k).sum + l[k] := by
  rw [List.take_succ_eq_append_getElem h, List.sum_append]
  simp
theorem sum_pos : ∀ (l : List Int), (∀ x ∈ l, 1 ≤ x) → (l.length : Int) ≤ l.sum
  | [], _ => by simp
  | x :: l, h => by
    have h1 := h x List.mem_cons_self
    have h2 := sum_pos l (fun y hy => h y (List.mem_cons_of_mem _ hy))
    rw [List.sum_cons, List.length_cons]
    omega
/-- the place of a rest in a row of lengths -/
theorem place_ex : ∀ (l : List Int) (r : Int), 0 ≤ r → r < l.sum → ∃ k : Nat, k < l.length ∧ (l.take k).sum ≤ r ∧ r < (l.take (k + 1)).sum
  | [], r, h0, h1 => by simp at h1; omega
  | x :: l, r, h0, h1 => by
    by_cases hx : r < x
    · exact ⟨0, by simp, by simpa using h0, by simpa using hx⟩
    · rw [List.sum_cons] at h1
      obtain ⟨k, a, b, c⟩ := place_ex l (r - x) (by omega) (by omega)
      refine ⟨k + 1, by simpa using a, ?_, ?_⟩
      · rw [List.take_succ_cons, List.sum_cons]; omega
      · rw [List.take_succ_cons, List.sum_cons]; omega
theorem take_mono (l : List Int) (h : ∀ x ∈ l, 1 ≤ x) : ∀ (j k : Nat), j ≤ k → (l.take j).sum ≤ (l.take k).sum := by
  intro j k hjk
  have e : l.take k = (l.take k).take j ++ (l.take k).drop j := (List.take_append_drop j _).symm
  have e2 : (l.take k).take j = l.take j := by rw [List.take_take, Nat.min_eq_left hjk]
  have p := sum_pos ((l.take k).drop j) (fun x hx => h x (List.mem_of_mem_take (List.mem_of_mem_drop hx)))
  rw [e, List.sum_append, e2]
  omega
theorem place_unique (l : List Int) (h : ∀ x ∈ l, 1 ≤ x) (r : Int) (j k : Nat) (h1 : (l.take j).sum ≤ r) (h2 : r < (l.take (j + 1)).sum) (h3 : (l.take k).sum ≤ r) (h4 : r < (l.take (k + 1)).sum) : j = k := by
  rcases Nat.lt_trichotomy j k with q | q | q
  · have := take_mono l h (j + 1) k q
    omega
  · exact q
  · have := take_mono l h (k + 1) j q
    omega
theorem getD_lt {α : Type} (l : List α) (d : α) {i : Nat} (h : i < l.length) : l.getD i d = l[i] := by
  rw [List.getD_eq_getElem?_getD, List.getElem?_eq_getElem h]
  rfl
structure Cal where
  epoch : Int
  base : Int
  cyc : List (List Int)
structure Cal.Ok (c : Cal) : Prop where
  ne : c.cyc ≠ []
  mo : ∀ ms ∈ c.cyc, ms ≠ [] ∧ ∀ x ∈ ms, 1 ≤ x
def Cal.yl (c : Cal) : List Int := c.cyc.map List.sum
def Cal.T (c : Cal) : Int := c.yl.sum
def Cal.L (c : Cal) : Int := (c.cyc.length : Int)
def Cal.at_ (c : Cal) (y : Int) : Nat := ((y - c.base) % c.L).toNat
def Cal.S (c : Cal) (k : Nat) : Int := (c.yl.take k).sum
def Cal.mon (c : Cal) (y : Int) : List Int := c.cyc.getD (c.at_ y) []
def Cal.start (c : Cal) (y : Int) : Int := c.epoch + (y - c.base) / c.L * c.T + c.S (c.at_ y)
section
variable {c : Cal} (h : c.Ok)
include h
theorem L_pos : 0 < c.L := by
  have := h.ne
  unfold Cal.L
  have : 0 < c.cyc.length := List.length_pos_iff.mpr h.ne
  omega
theorem at_lt (y : Int) : c.at_ y < c.cyc.length := by
  have h1 := Int.emod_lt_of_pos (y - c.base) (L_pos h)
  have h2 := Int.emod_nonneg (y - c.base) (b := c.L) (by have := L_pos h; omega)
  unfold Cal.at_ Cal.L at *
  omega
theorem at_int (y : Int) : (c.at_ y : Int) = (y - c.base) % c.L := by
  have h2 := Int.emod_nonneg (y - c.base) (b := c.L) (by have := L_pos h; omega)
  unfold Cal.at_
  omega
theorem mon_mem (y : Int) : c.mon y ∈ c.cyc := by
  unfold Cal.mon
  rw [getD_lt _ _ (at_lt h y)]
  exact List.getElem_mem _
theorem yl_pos : ∀ x ∈ c.yl, 1 ≤ x := by
  intro x hx
  unfold Cal.yl at hx
  obtain ⟨ms, hm, rfl⟩ := List.mem_map.mp hx
  obtain ⟨a, b⟩ := h.mo ms hm
  have p := sum_pos ms b
  have : 0 < ms.length := List.length_pos_iff.mpr a
  omega
theorem T_pos : 0 < c.T := by
  have p := sum_pos c.yl (yl_pos h)
  have : c.yl.length = c.cyc.length := by simp [Cal.yl]
  have q := L_pos h
  unfold Cal.L at q
  unfold Cal.T
  omega
theorem S_succ {k : Nat} (hk : k < c.cyc.length) : c.S (k + 1) = c.S k + (c.cyc.getD k []).sum := by
  unfold Cal.S
  rw [sum_take_succ _ _ (by simpa [Cal.yl] using hk)]
  rw [getD_lt _ _ hk]
  simp [Cal.yl]
omit h in
theorem S_zero : c.S 0 = 0 := by simp [Cal.S]
omit h in
theorem S_all : c.S c.cyc.length = c.T := by
  unfold Cal.S Cal.T
  rw [List.take_of_length_le (by simp [Cal.yl])]
theorem dm_unique {a b q r : Int} (hb : 0 < b) (h0 : 0 ≤ r) (h1 : r < b) (e : a = b * q + r) : a / b = q ∧ a % b = r := by
  have := (Int.ediv_emod_unique hb (a := a) (r := r) (q := q)).mpr ⟨by omega, h0, h1⟩
  exact this
/-- place and turn of the next year -/
theorem start_succ (y : Int) : c.start (y + 1) = c.start y + (c.mon y).sum := by
  have hL := L_pos h
  have a0 := Int.emod_nonneg (y - c.base) (b := c.L) (by omega)
  have a1 := Int.emod_lt_of_pos (y - c.base) hL
  have a2 := Int.mul_ediv_add_emod (y - c.base) c.L
  have k := at_lt h y
  have ki := at_int h y
  by_cases q : (y - c.base) % c.L + 1 < c.L
  · have e := dm_unique h (a := y + 1 - c.base) (b := c.L) (q := (y - c.base) / c.L) (r := (y - c.base) % c.L + 1) hL (by omega) q (by omega)
    have e2 : c.at_ (y + 1) = c.at_ y + 1 := by
      have : c.at_ (y + 1) = ((y + 1 - c.base) % c.L).toNat := rfl
      rw [this, e.2]; omega
    unfold Cal.start
    rw [e.1, e2, S_succ h k]
    unfold Cal.mon
    omega
  · have e := dm_unique h (a := y + 1 - c.base) (b := c.L) (q := (y - c.base) / c.L + 1) (r := 0) hL (by omega) hL (by rw [Int.mul_add]; omega)
    have e2 : c.at_ (y + 1) = 0 := by
      have : c.at_ (y + 1) = ((y + 1 - c.base) % c.L).toNat := rfl
      rw [this, e.2]; rfl
    have e3 : c.at_ y + 1 = c.cyc.length := by
      have : c.L = (c.cyc.length : Int) := rfl
      omega
    have s1 := S_succ h k
    rw [e3, S_all] at s1
    unfold Cal.start
    rw [e.1, e2, S_zero, s1, Int.add_mul]
    unfold Cal.mon
    omega
theorem mon_sum_pos (y : Int) : 1 ≤ (c.mon y).sum := by
  obtain ⟨a, b⟩ := h.mo _ (mon_mem h y)
  have p := sum_pos _ b
  have : 0 < (c.mon y).length := List.length_pos_iff.mpr a
  omega
theorem start_add (y : Int) : ∀ n : Nat, c.start y + n ≤ c.start (y + n)
  | 0 => by simp
  | n + 1 => by
    have i := start_add y n
    have s := start_succ h (y + n)
    have p := mon_sum_pos h (y + n)
    rw [show y + ((n + 1 : Nat) : Int) = y + n + 1 by omega, s]
    omega
theorem start_mono {y z : Int} (hz : y ≤ z) : c.start y ≤ c.start z := by
  have i := start_add h y (z - y).toNat
  rw [show y + (((z - y).toNat : Nat) : Int) = z by omega] at i
  omega
theorem year_unique {y z d : Int} (h1 : c.start y ≤ d) (h2 : d < c.start (y + 1)) (h3 : c.start z ≤ d) (h4 : d < c.start (z + 1)) : y = z := by
  rcases Int.lt_trichotomy y z with q | q | q
  · have := start_mono h (y := y + 1) (z := z) (by omega)
    omega
  · exact q
  · have := start_mono h (y := z + 1) (z := y) (by omega)
    omega
/-- a year given by turn and place -/
theorem at_of {q : Int} {k : Nat} (hk : k < c.cyc.length) : c.at_ (c.base + q * c.L + k) = k ∧ (c.base + q * c.L + k - c.base) / c.L = q := by
  have hL : c.L = (c.cyc.length : Int) := rfl
  have e := dm_unique h (a := c.base + q * c.L + k - c.base) (b := c.L) (q := q) (r := k) (L_pos h) (by omega) (by omega) (by rw [Int.mul_comm c.L q]; omega)
  refine ⟨?_, e.1⟩
  have : c.at_ (c.base + q * c.L + k) = ((c.base + q * c.L + k - c.base) % c.L).toNat := rfl
  rw [this, e.2]; rfl
theorem start_of {q : Int} {k : Nat} (hk : k < c.cyc.length) : c.start (c.base + q * c.L + k) = c.epoch + q * c.T + c.S k := by
  unfold Cal.start
  rw [(at_of h hk).1, (at_of h hk).2]
theorem start_of' {q : Int} {k : Nat} (hk : k < c.cyc.length) : c.start (c.base + q * c.L + k + 1) = c.epoch + q * c.T + c.S (k + 1) := by
  rw [start_succ h, start_of h hk, S_succ h hk]
  unfold Cal.mon
  rw [(at_of h hk).1]
  omega
theorem year_ex (d : Int) : ∃ y, c.start y ≤ d ∧ d < c.start (y + 1) := by
  have hT := T_pos h
  have a0 := Int.emod_nonneg (d - c.epoch) (b := c.T) (by omega)
  have a1 := Int.emod_lt_of_pos (d - c.epoch) hT
  have a2 := Int.mul_ediv_add_emod (d - c.epoch) c.T
  rw [Int.mul_comm] at a2
  obtain ⟨k, k1, k2, k3⟩ := place_ex c.yl _ a0 a1
  have k4 : k < c.cyc.length := by simpa [Cal.yl] using k1
  refine ⟨c.base + (d - c.epoch) / c.T * c.L + k, ?_, ?_⟩
  · rw [start_of h k4]
    unfold Cal.S
    omega
  · rw [start_of' h k4]
    unfold Cal.S
    omega
end
/-- the date of a day: year, month's place (from 0), day in the month (from 1) -/
structure IsD (c : Cal) (day y : Int) (m : Nat) (d : Int) : Prop where
  m1 : m < (c.mon y).length
  d0 : 1 ≤ d
  d1 : d ≤ (c.mon y).getD m 0
  e : day = c.start y + ((c.mon y).take m).sum + (d - 1)
section
variable {c : Cal} (h : c.Ok)
include h
theorem IsD.year {day y d : Int} {m : Nat} (i : IsD c day y m d) : c.start y ≤ day ∧ day < c.start (y + 1) := by
  have b := (h.mo _ (mon_mem h y)).2
  have p := take_mono _ b 0 m (Nat.zero_le _)
  have p2 := take_mono _ b (m + 1) (c.mon y).length i.m1
  rw [List.take_length] at p2
  have s := sum_take_succ _ _ i.m1
  have d1 := i.d1
  rw [getD_lt _ _ i.m1] at d1
  have s2 := start_succ h y
  have e := i.e
  have d0 := i.d0
  simp only [List.take_zero, List.sum_nil] at p
  omega
theorem isD_unique {day y d y' d' : Int} {m m' : Nat} (i : IsD c day y m d) (j : IsD c day y' m' d') : y = y' ∧ m = m' ∧ d = d' := by
  have e := year_unique h (i.year h).1 (i.year h).2 (j.year h).1 (j.year h).2
  subst e
  have b := (h.mo _ (mon_mem h y)).2
  have s := sum_take_succ _ _ i.m1
  have s' := sum_take_succ _ _ j.m1
  have d1 := i.d1
  rw [getD_lt _ _ i.m1] at d1
  have d1' := j.d1
  rw [getD_lt _ _ j.m1] at d1'
  have e1 := i.e
  have e2 := j.e
  have d0 := i.d0
  have d0' := j.d0
  have em := place_unique _ b (day - c.start y) m m' (by omega) (by omega) (by omega) (by omega)
  subst em
  exact ⟨rfl, rfl, by omega⟩
theorem isD_of {day y : Int} {m : Nat} (hm : m < (c.mon y).length) (h1 : ((c.mon y).take m).sum ≤ day - c.start y) (h2 : day - c.start y < ((c.mon y).take (m + 1)).sum) : IsD c day y m (day - c.start y - ((c.mon y).take m).sum + 1) := by
  have s := sum_take_succ _ _ hm
  refine ⟨hm, by omega, ?_, by omega⟩
  rw [getD_lt _ _ hm]
  omega
theorem isD_ex (day : Int) : ∃ y m d, IsD c day y m d := by
  obtain ⟨y, h1, h2⟩ := year_ex h day
  have s := start_succ h y
  obtain ⟨m, a, b, e⟩ := place_ex (c.mon y) (day - c.start y) (by omega) (by omega)
  exact ⟨y, m, _, isD_of h a b e⟩
/-- the next day's date -/
theorem isD_next {day y d : Int} {m : Nat} (i : IsD c day y m d) : IsD c (day + 1) (if d < (c.mon y).getD m 0 then y else if m + 1 < (c.mon y).length then y else y + 1)
    (if d < (c.mon y).getD m 0 then m else if m + 1 < (c.mon y).length then m + 1 else 0) (if d < (c.mon y).getD m 0 then d + 1 else 1) := by
  have hm := i.m1
  have s := sum_take_succ _ _ hm
  have g := getD_lt _ (0 : Int) hm
  have e := i.e
  have d1 := i.d1
  have d0 := i.d0
  by_cases q : d < (c.mon y).getD m 0
  · rw [if_pos q, if_pos q, if_pos q]
    exact ⟨hm, by omega, by omega, by omega⟩
  · rw [if_neg q, if_neg q, if_neg q]
    by_cases q2 : m + 1 < (c.mon y).length
    · rw [if_pos q2, if_pos q2]
      have b := (h.mo _ (mon_mem h y)).2
      refine ⟨q2, by omega, ?_, by omega⟩
      rw [getD_lt _ _ q2]
      exact b _ (List.getElem_mem _)
    · rw [if_neg q2, if_neg q2]
      have e3 : m + 1 = (c.mon y).length := by omega
      rw [e3, List.take_length] at s
      have s2 := start_succ h y
      obtain ⟨a, b⟩ := h.mo _ (mon_mem h (y + 1))
      have l0 : 0 < (c.mon (y + 1)).length := List.length_pos_iff.mpr a
      refine ⟨l0, by omega, ?_, ?_⟩
      · rw [getD_lt _ _ l0]
        exact b _ (List.getElem_mem _)
      · simp only [List.take_zero, List.sum_nil]
        omega
theorem turn_at (y k : Int) : c.at_ (y + k * c.L) = c.at_ y ∧ (y + k * c.L - c.base) / c.L = (y - c.base) / c.L + k := by
  have hL := L_pos h
  have e : y + k * c.L - c.base = (y - c.base) + k * c.L := by omega
  constructor
  · unfold Cal.at_
    rw [e, Int.add_mul_emod_self_right]
  · rw [e, Int.add_mul_ediv_right _ _ (by omega)]
theorem isD_turn {day y d : Int} {m : Nat} (i : IsD c day y m d) (k : Int) : IsD c (day + k * c.T) (y + k * c.L) m d := by
  have t := turn_at h y k
  have em : c.mon (y + k * c.L) = c.mon y := by unfold Cal.mon; rw [t.1]
  have es : c.start (y + k * c.L) = c.start y + k * c.T := by
    unfold Cal.start
    rw [t.1, t.2, Int.add_mul]
    omega
  refine ⟨by rw [em]; exact i.m1, i.d0, by rw [em]; exact i.d1, ?_⟩
  rw [em, es, i.e]
  omega
omit h in
theorem isD_led {day y d : Int} {m : Nat} (i : IsD c day y m d) (a b : Int) : IsD ⟨c.epoch + a, c.base + b, c.cyc⟩ (day + a) (y + b) m d := by
  have e0 : y + b - (c.base + b) = y - c.base := by omega
  have em : Cal.mon ⟨c.epoch + a, c.base + b, c.cyc⟩ (y + b) = c.mon y := by
    unfold Cal.mon Cal.at_
    simp only [e0]
    rfl
  have es : Cal.start ⟨c.epoch + a, c.base + b, c.cyc⟩ (y + b) = c.start y + a := by
    unfold Cal.start Cal.at_
    simp only [e0]
    show c.epoch + a + _ + _ = c.epoch + _ + _ + a
    have : ∀ x y z w : Int, x + y + z + w = x + z + w + y := by intros; omega
    exact this _ _ _ _
  refine ⟨by rw [em]; exact i.m1, i.d0, by rw [em]; exact i.d1, ?_⟩
  rw [em, es, i.e]
  omega
/-- a formula that steps as the years do is the years' begin -/
theorem start_eq (f : Int → Int) (h0 : f c.base = c.epoch) (hs : ∀ y, f (y + 1) = f y + (c.mon y).sum) (y : Int) : c.start y = f y := by
  have b : c.start c.base = c.epoch := by
    have := start_of h (q := 0) (k := 0) (by have := L_pos h; unfold Cal.L at this; omega)
    simpa [S_zero] using this
  have up : ∀ n : Nat, c.start (c.base + n) = f (c.base + n) := by
    intro n
    induction n with
    | zero => simpa [b] using h0.symm
    | succ n ih =>
      rw [show c.base + ((n + 1 : Nat) : Int) = c.base + n + 1 by omega, start_succ h, hs, ih]
  have dn : ∀ n : Nat, c.start (c.base - n) = f (c.base - n) := by
    intro n
    induction n with
    | zero => simpa [b] using h0.symm
    | succ n ih =>
      have s1 := start_succ h (c.base - ((n + 1 : Nat) : Int))
      have s2 := hs (c.base - ((n + 1 : Nat) : Int))
      rw [show c.base - ((n + 1 : Nat) : Int) + 1 = c.base - n by omega] at s1 s2
      omega
  by_cases q : c.base ≤ y
  · have := up (y - c.base).toNat
    rwa [show c.base + (((y - c.base).toNat : Nat) : Int) = y by omega] at this
  · have := dn (c.base - y).toNat
    rwa [show c.base - (((c.base - y).toNat : Nat) : Int) = y by omega] at this
end
end CAL

end
section
namespace DL
open PySem
/-! general lemmas for evaluating mirrors -/
theorem log2_lt {n k : Nat} (h : n < 2 ^ k) (hk : 0 < k) : n.log2 < k := by
  by_cases hn : n = 0
  · subst hn; simpa [runV, runIO2, runIO, sRet, sSeq, sAsg, sSet, sPar, sIf, sNext, sDrop, thaw, frz, cOp, cVar, cMove, cC, cUn, cCall, cCallL, cTup, cLst, aNil, aCons, cIxV, slotD, gNm, gTp, gMore, gNone, gSb, cLenV, cChain, cAnd, cOr, cNot, asB, tAnd, tOr, tNot, cIf, DL.ret, finF, ioOf, RF.to, RF.io, Sl.mut, Sl.put, Sl.data, Sl.dat, D.bool, D.addE, D.add, D.sub, D.mul, D.div, D.mod, D.pow, D.lt, D.ltE, D.le, D.gt, D.ge, D.neg, opLen, opInt, opAbs, opTuple, opList, opStr, opRepr, opAny, opAll, opSum, cFn, cFnIO, cMeth, cNew, cFld] using hk
  · exact (Nat.log2_lt hn).mpr h
@[simp] theorem divOk_of {j : Int} (h0 : 0 < j) (h1 : j < 2 ^ 62) : divOk j = true := by
  unfold divOk
  refine decide_eq_true ⟨h0, Nat.lt_trans (log2_lt (k := 62) (by omega) (by decide)) (by decide)⟩
@[simp] theorem mulOk_l {i j : Int} (h0 : -(2 ^ 64) < i) (h1 : i < 2 ^ 64) : mulOk i j = true := by
  unfold mulOk
  rw [decide_eq_true (⟨h0, h1⟩ : -(2 ^ 64) < i ∧ i < 2 ^ 64)]
  rfl
@[simp] theorem mulOk_r {i j : Int} (h0 : -(2 ^ 64) < j) (h1 : j < 2 ^ 64) : mulOk i j = true := by
  unfold mulOk
  rw [decide_eq_true (⟨h0, h1⟩ : -(2 ^ 64) < j ∧ j < 2 ^ 64)]
  simp [runV, runIO2, runIO, sRet, sSeq, sAsg, sSet, sPar, sIf, sNext, sDrop, thaw, frz, cOp, cVar, cMove, cC, cUn, cCall, cCallL, cTup, cLst, aNil, aCons, cIxV, slotD, gNm, gTp, gMore, gNone, gSb, cLenV, cChain, cAnd, cOr, cNot, asB, tAnd, tOr, tNot, cIf, DL.ret, finF, ioOf, RF.to, RF.io, Sl.mut, Sl.put, Sl.data, Sl.dat, D.bool, D.addE, D.add, D.sub, D.mul, D.div, D.mod, D.pow, D.lt, D.ltE, D.le, D.gt, D.ge, D.neg, opLen, opInt, opAbs, opTuple, opList, opStr, opRepr, opAny, opAll, opSum, cFn, cFnIO, cMeth, cNew, cFld]
@[simp] theorem eqv_int (i j : Int) : D.eq (.int i) (.int j) = some (.bl (decide (i = j))) := by
  have h : ∀ k : Int, SeqAt.shaped (D.int k).py = true := fun k => rfl
  unfold D.eq
  rw [h, h]
  simp [runV, runIO2, runIO, sRet, sSeq, sAsg, sSet, sPar, sIf, sNext, sDrop, thaw, frz, cOp, cVar, cMove, cC, cUn, cCall, cCallL, cTup, cLst, aNil, aCons, cIxV, slotD, gNm, gTp, gMore, gNone, gSb, cLenV, cChain, cAnd, cOr, cNot, asB, tAnd, tOr, tNot, cIf, DL.ret, finF, ioOf, RF.to, RF.io, Sl.mut, Sl.put, Sl.data, Sl.dat, D.bool, D.addE, D.add, D.sub, D.mul, D.div, D.mod, D.pow, D.lt, D.ltE, D.le, D.gt, D.ge, D.neg, opLen, opInt, opAbs, opTuple, opList, opStr, opRepr, opAny, opAll, opSum, cFn, cFnIO, cMeth, cNew, cFld, D.py, PyData.eqv]
  by_cases q : i = j <;> simp [runV, runIO2, runIO, sRet, sSeq, sAsg, sSet, sPar, sIf, sNext, sDrop, thaw, frz, cOp, cVar, cMove, cC, cUn, cCall, cCallL, cTup, cLst, aNil, aCons, cIxV, slotD, gNm, gTp, gMore, gNone, gSb, cLenV, cChain, cAnd, cOr, cNot, asB, tAnd, tOr, tNot, cIf, DL.ret, finF, ioOf, RF.to, RF.io, Sl.mut, Sl.put, Sl.data, Sl.dat, D.bool, D.addE, D.add, D.sub, D.mul, D.div, D.mod, D.pow, D.lt, D.ltE, D.le, D.gt, D.ge, D.neg, opLen, opInt, opAbs, opTuple, opList, opStr, opRepr, opAny, opAll, opSum, cFn, cFnIO, cMeth, cNew, cFld, q]
@[simp] theorem ne_int (i j : Int) : D.ne (.int i) (.int j) = some (.bl (!decide (i = j))) := by
  have h : ∀ k : Int, SeqAt.shaped (D.int k).py = true := fun k => rfl
  unfold D.ne
  rw [h, h]
  simp [runV, runIO2, runIO, sRet, sSeq, sAsg, sSet, sPar, sIf, sNext, sDrop, thaw, frz, cOp, cVar, cMove, cC, cUn, cCall, cCallL, cTup, cLst, aNil, aCons, cIxV, slotD, gNm, gTp, gMore, gNone, gSb, cLenV, cChain, cAnd, cOr, cNot, asB, tAnd, tOr, tNot, cIf, DL.ret, finF, ioOf, RF.to, RF.io, Sl.mut, Sl.put, Sl.data, Sl.dat, D.bool, D.addE, D.add, D.sub, D.mul, D.div, D.mod, D.pow, D.lt, D.ltE, D.le, D.gt, D.ge, D.neg, opLen, opInt, opAbs, opTuple, opList, opStr, opRepr, opAny, opAll, opSum, cFn, cFnIO, cMeth, cNew, cFld, D.py, PyData.eqv]
  by_cases q : i = j <;> simp [runV, runIO2, runIO, sRet, sSeq, sAsg, sSet, sPar, sIf, sNext, sDrop, thaw, frz, cOp, cVar, cMove, cC, cUn, cCall, cCallL, cTup, cLst, aNil, aCons, cIxV, slotD, gNm, gTp, gMore, gNone, gSb, cLenV, cChain, cAnd, cOr, cNot, asB, tAnd, tOr, tNot, cIf, DL.ret, finF, ioOf, RF.to, RF.io, Sl.mut, Sl.put, Sl.data, Sl.dat, D.bool, D.addE, D.add, D.sub, D.mul, D.div, D.mod, D.pow, D.lt, D.ltE, D.le, D.gt, D.ge, D.neg, opLen, opInt, opAbs, opTuple, opList, opStr, opRepr, opAny, opAll, opSum, cFn, cFnIO, cMeth, cNew, cFld, q]
theorem ne_self {d : D} (h : SeqAt.shaped d.py = true) (e : PyData.eqv d.py d.py = true) : D.ne d d = some (.bl false) := by simp [runV, runIO2, runIO, sRet, sSeq, sAsg, sSet, sPar, sIf, sNext, sDrop, thaw, frz, cOp, cVar, cMove, cC, cUn, cCall, cCallL, cTup, cLst, aNil, aCons, cIxV, slotD, gNm, gTp, gMore, gNone, gSb, cLenV, cChain, cAnd, cOr, cNot, asB, tAnd, tOr, tNot, cIf, DL.ret, finF, ioOf, RF.to, RF.io, Sl.mut, Sl.put, Sl.data, Sl.dat, D.bool, D.addE, D.add, D.sub, D.mul, D.div, D.mod, D.pow, D.lt, D.ltE, D.le, D.gt, D.ge, D.neg, opLen, opInt, opAbs, opTuple, opList, opStr, opRepr, opAny, opAll, opSum, cFn, cFnIO, cMeth, cNew, cFld, D.ne, h, e]
theorem eq_self {d : D} (h : SeqAt.shaped d.py = true) (e : PyData.eqv d.py d.py = true) : D.eq d d = some (.bl true) := by simp [runV, runIO2, runIO, sRet, sSeq, sAsg, sSet, sPar, sIf, sNext, sDrop, thaw, frz, cOp, cVar, cMove, cC, cUn, cCall, cCallL, cTup, cLst, aNil, aCons, cIxV, slotD, gNm, gTp, gMore, gNone, gSb, cLenV, cChain, cAnd, cOr, cNot, asB, tAnd, tOr, tNot, cIf, DL.ret, finF, ioOf, RF.to, RF.io, Sl.mut, Sl.put, Sl.data, Sl.dat, D.bool, D.addE, D.add, D.sub, D.mul, D.div, D.mod, D.pow, D.lt, D.ltE, D.le, D.gt, D.ge, D.neg, opLen, opInt, opAbs, opTuple, opList, opStr, opRepr, opAny, opAll, opSum, cFn, cFnIO, cMeth, cNew, cFld, D.eq, h, e]
theorem eq_ts (ds : List D) (s : Str) (h : SeqAt.shaped (D.tup ds).py = true) (hs : PyData.strOk s = true) : D.eq (.tup ds) (.str s) = some (.bl false) := by
  have h2 : SeqAt.shaped (D.str s).py = true := by simp [runV, runIO2, runIO, sRet, sSeq, sAsg, sSet, sPar, sIf, sNext, sDrop, thaw, frz, cOp, cVar, cMove, cC, cUn, cCall, cCallL, cTup, cLst, aNil, aCons, cIxV, slotD, gNm, gTp, gMore, gNone, gSb, cLenV, cChain, cAnd, cOr, cNot, asB, tAnd, tOr, tNot, cIf, DL.ret, finF, ioOf, RF.to, RF.io, Sl.mut, Sl.put, Sl.data, Sl.dat, D.bool, D.addE, D.add, D.sub, D.mul, D.div, D.mod, D.pow, D.lt, D.ltE, D.le, D.gt, D.ge, D.neg, opLen, opInt, opAbs, opTuple, opList, opStr, opRepr, opAny, opAll, opSum, cFn, cFnIO, cMeth, cNew, cFld, D.py, SeqAt.shaped, PyData.canLay0, PyData.depth, hs]
  unfold D.eq
  rw [h, h2]
  simp [runV, runIO2, runIO, sRet, sSeq, sAsg, sSet, sPar, sIf, sNext, sDrop, thaw, frz, cOp, cVar, cMove, cC, cUn, cCall, cCallL, cTup, cLst, aNil, aCons, cIxV, slotD, gNm, gTp, gMore, gNone, gSb, cLenV, cChain, cAnd, cOr, cNot, asB, tAnd, tOr, tNot, cIf, DL.ret, finF, ioOf, RF.to, RF.io, Sl.mut, Sl.put, Sl.data, Sl.dat, D.bool, D.addE, D.add, D.sub, D.mul, D.div, D.mod, D.pow, D.lt, D.ltE, D.le, D.gt, D.ge, D.neg, opLen, opInt, opAbs, opTuple, opList, opStr, opRepr, opAny, opAll, opSum, cFn, cFnIO, cMeth, cNew, cFld, D.py, PyData.eqv]
theorem goComp_pure {i : Nat} {me : M D} {ρ : Rho} (f : D → D) (hρ : ρ.set i .no = ρ) : ∀ (ds acc : List D), (∀ d ∈ ds, me (ρ.set i (.val d)) = .ok (f d) (ρ.set i (.val d))) → acc.length + ds.length ≤ sizeLine →
    goComp [i] (gNm i) tTrue me ds acc ρ = .ok (acc ++ ds.map f) ρ
  | [], acc, _, _ => by simp [runV, runIO2, runIO, sRet, sSeq, sAsg, sSet, sPar, sIf, sNext, sDrop, thaw, frz, cOp, cVar, cMove, cC, cUn, cCall, cCallL, cTup, cLst, aNil, aCons, cIxV, slotD, gNm, gTp, gMore, gNone, gSb, cLenV, cChain, cAnd, cOr, cNot, asB, tAnd, tOr, tNot, cIf, DL.ret, finF, ioOf, RF.to, RF.io, Sl.mut, Sl.put, Sl.data, Sl.dat, D.bool, D.addE, D.add, D.sub, D.mul, D.div, D.mod, D.pow, D.lt, D.ltE, D.le, D.gt, D.ge, D.neg, opLen, opInt, opAbs, opTuple, opList, opStr, opRepr, opAny, opAll, opSum, cFn, cFnIO, cMeth, cNew, cFld, goComp]
  | d :: ds, acc, h, hz => by
    have h1 := h d List.mem_cons_self
    have hl : acc.length < sizeLine := by simp [runV, runIO2, runIO, sRet, sSeq, sAsg, sSet, sPar, sIf, sNext, sDrop, thaw, frz, cOp, cVar, cMove, cC, cUn, cCall, cCallL, cTup, cLst, aNil, aCons, cIxV, slotD, gNm, gTp, gMore, gNone, gSb, cLenV, cChain, cAnd, cOr, cNot, asB, tAnd, tOr, tNot, cIf, DL.ret, finF, ioOf, RF.to, RF.io, Sl.mut, Sl.put, Sl.data, Sl.dat, D.bool, D.addE, D.add, D.sub, D.mul, D.div, D.mod, D.pow, D.lt, D.ltE, D.le, D.gt, D.ge, D.neg, opLen, opInt, opAbs, opTuple, opList, opStr, opRepr, opAny, opAll, opSum, cFn, cFnIO, cMeth, cNew, cFld] at hz; omega
    have e : wipeR (ρ.set i (.val d)) [i] = ρ := by
      show ((ρ.set i (.val d)).set i .no) = ρ
      rw [List.set_set, hρ]
    have ih := goComp_pure f hρ ds (acc ++ [f d]) (fun d' hd => h d' (List.mem_cons_of_mem _ hd)) (by simp [runV, runIO2, runIO, sRet, sSeq, sAsg, sSet, sPar, sIf, sNext, sDrop, thaw, frz, cOp, cVar, cMove, cC, cUn, cCall, cCallL, cTup, cLst, aNil, aCons, cIxV, slotD, gNm, gTp, gMore, gNone, gSb, cLenV, cChain, cAnd, cOr, cNot, asB, tAnd, tOr, tNot, cIf, DL.ret, finF, ioOf, RF.to, RF.io, Sl.mut, Sl.put, Sl.data, Sl.dat, D.bool, D.addE, D.add, D.sub, D.mul, D.div, D.mod, D.pow, D.lt, D.ltE, D.le, D.gt, D.ge, D.neg, opLen, opInt, opAbs, opTuple, opList, opStr, opRepr, opAny, opAll, opSum, cFn, cFnIO, cMeth, cNew, cFld] at hz ⊢; omega)
    unfold goComp
    simp only [gNm, tTrue, noexc, R.bind_ok, if_true, h1, hl, e, ih]
    simp [runV, runIO2, runIO, sRet, sSeq, sAsg, sSet, sPar, sIf, sNext, sDrop, thaw, frz, cOp, cVar, cMove, cC, cUn, cCall, cCallL, cTup, cLst, aNil, aCons, cIxV, slotD, gNm, gTp, gMore, gNone, gSb, cLenV, cChain, cAnd, cOr, cNot, asB, tAnd, tOr, tNot, cIf, DL.ret, finF, ioOf, RF.to, RF.io, Sl.mut, Sl.put, Sl.data, Sl.dat, D.bool, D.addE, D.add, D.sub, D.mul, D.div, D.mod, D.pow, D.lt, D.ltE, D.le, D.gt, D.ge, D.neg, opLen, opInt, opAbs, opTuple, opList, opStr, opRepr, opAny, opAll, opSum, cFn, cFnIO, cMeth, cNew, cFld]
theorem span_mem {lo : Int} {n : Nat} {d : D} (h : d ∈ span lo n) : ∃ k : Nat, k < n ∧ d = .int (lo + k) := by
  unfold span at h
  obtain ⟨k, hk, e⟩ := List.mem_map.mp h
  exact ⟨k, List.mem_range.mp hk, e.symm⟩
theorem span_length (lo : Int) (n : Nat) : (span lo n).length = n := by simp [runV, runIO2, runIO, sRet, sSeq, sAsg, sSet, sPar, sIf, sNext, sDrop, thaw, frz, cOp, cVar, cMove, cC, cUn, cCall, cCallL, cTup, cLst, aNil, aCons, cIxV, slotD, gNm, gTp, gMore, gNone, gSb, cLenV, cChain, cAnd, cOr, cNot, asB, tAnd, tOr, tNot, cIf, DL.ret, finF, ioOf, RF.to, RF.io, Sl.mut, Sl.put, Sl.data, Sl.dat, D.bool, D.addE, D.add, D.sub, D.mul, D.div, D.mod, D.pow, D.lt, D.ltE, D.le, D.gt, D.ge, D.neg, opLen, opInt, opAbs, opTuple, opList, opStr, opRepr, opAny, opAll, opSum, cFn, cFnIO, cMeth, cNew, cFld, span]
theorem size_ge {n : Nat} (h : n ≤ 16777216) : n ≤ sizeLine := by rw [sizeLine_eq]; exact h
@[simp] theorem size_1 : (1 : Nat) ≤ sizeLine := size_ge (by decide)
@[simp] theorem size_2 : (2 : Nat) ≤ sizeLine := size_ge (by decide)
@[simp] theorem size_3 : (3 : Nat) ≤ sizeLine := size_ge (by decide)
@[simp] theorem size_4 : (4 : Nat) ≤ sizeLine := size_ge (by decide)
@[simp] theorem size_5 : (5 : Nat) ≤ sizeLine := size_ge (by decide)
@[simp] theorem size_6 : (6 : Nat) ≤ sizeLine := size_ge (by decide)
@[simp] theorem size_8 : (8 : Nat) ≤ sizeLine := size_ge (by decide)
@[simp] theorem size_9 : (9 : Nat) ≤ sizeLine := size_ge (by decide)
@[simp] theorem size_10 : (10 : Nat) ≤ sizeLine := size_ge (by decide)
@[simp] theorem size_12 : (12 : Nat) ≤ sizeLine := size_ge (by decide)
theorem atI_last {α : Type} (l : List α) (x : α) : L2.atI (l ++ [x]) (-1) = some x := by
  have e : ((-1 : Int) + ((l.length : Int) + 1)).toNat = l.length := by omega
  have h : (1 : Int) ≤ (l.length : Int) + 1 := by omega
  simp [runV, runIO2, runIO, sRet, sSeq, sAsg, sSet, sPar, sIf, sNext, sDrop, thaw, frz, cOp, cVar, cMove, cC, cUn, cCall, cCallL, cTup, cLst, aNil, aCons, cIxV, slotD, gNm, gTp, gMore, gNone, gSb, cLenV, cChain, cAnd, cOr, cNot, asB, tAnd, tOr, tNot, cIf, DL.ret, finF, ioOf, RF.to, RF.io, Sl.mut, Sl.put, Sl.data, Sl.dat, D.bool, D.addE, D.add, D.sub, D.mul, D.div, D.mod, D.pow, D.lt, D.ltE, D.le, D.gt, D.ge, D.neg, opLen, opInt, opAbs, opTuple, opList, opStr, opRepr, opAny, opAll, opSum, cFn, cFnIO, cMeth, cNew, cFld, L2.atI, L2.ixN, e, h]
theorem atI_at {α : Type} (l : List α) {k : Int} {n : Nat} (e : k = n) (h : n < l.length) : L2.atI l k = some l[n] := by
  subst e
  have h0 : (0 : Int) ≤ (n : Int) := by omega
  have h1 : (n : Int) < (l.length : Int) := by omega
  simp [runV, runIO2, runIO, sRet, sSeq, sAsg, sSet, sPar, sIf, sNext, sDrop, thaw, frz, cOp, cVar, cMove, cC, cUn, cCall, cCallL, cTup, cLst, aNil, aCons, cIxV, slotD, gNm, gTp, gMore, gNone, gSb, cLenV, cChain, cAnd, cOr, cNot, asB, tAnd, tOr, tNot, cIf, DL.ret, finF, ioOf, RF.to, RF.io, Sl.mut, Sl.put, Sl.data, Sl.dat, D.bool, D.addE, D.add, D.sub, D.mul, D.div, D.mod, D.pow, D.lt, D.ltE, D.le, D.gt, D.ge, D.neg, opLen, opInt, opAbs, opTuple, opList, opStr, opRepr, opAny, opAll, opSum, cFn, cFnIO, cMeth, cNew, cFld, L2.atI, L2.ixN, h0, h1]
theorem ix_lst (ds : List D) {k : Int} {n : Nat} (e : k = n) (h : n < ds.length) : D.ixI (.lst ds) (.int k) = some ds[n] := atI_at ds e h
theorem ix_tup (ds : List D) {k : Int} {n : Nat} (e : k = n) (h : n < ds.length) : D.ixI (.tup ds) (.int k) = some ds[n] := atI_at ds e h
theorem dm_ok (i : Int) {j : Int} (h0 : 0 < j) (h1 : j < 1073741824) : opDivmod [.int i, .int j] = some (.tup [.int (i / j), .int (i % j)]) := by
  have h : 0 < j ∧ Builtin.divisionGoesByPylong i j = false := ⟨h0, PyProof.noPylong_small (by omega)⟩
  show (if 0 < j ∧ Builtin.divisionGoesByPylong i j = false then some (D.tup [.int (i / j), .int (i % j)]) else none) = _
  rw [if_pos h]
@[simp] theorem ints_map (ns : List Int) : D.ints (ns.map D.int) = some ns := by
  induction ns with
  | nil => rfl
  | cons n ns ih => simp [runV, runIO2, runIO, sRet, sSeq, sAsg, sSet, sPar, sIf, sNext, sDrop, thaw, frz, cOp, cVar, cMove, cC, cUn, cCall, cCallL, cTup, cLst, aNil, aCons, cIxV, slotD, gNm, gTp, gMore, gNone, gSb, cLenV, cChain, cAnd, cOr, cNot, asB, tAnd, tOr, tNot, cIf, DL.ret, finF, ioOf, RF.to, RF.io, Sl.mut, Sl.put, Sl.data, Sl.dat, D.bool, D.addE, D.add, D.sub, D.mul, D.div, D.mod, D.pow, D.lt, D.ltE, D.le, D.gt, D.ge, D.neg, opLen, opInt, opAbs, opTuple, opList, opStr, opRepr, opAny, opAll, opSum, cFn, cFnIO, cMeth, cNew, cFld, D.ints, ih]
@[simp] theorem ints_take (ns : List Int) (m : Nat) : D.ints ((ns.map D.int).take m) = some (ns.take m) := by rw [← List.map_take, ints_map]
@[simp] theorem ix2_0 (a b : D) : D.ixI (.tup [a, b]) (.int 0) = some a := rfl
@[simp] theorem ix2_1 (a b : D) : D.ixI (.tup [a, b]) (.int 1) = some b := rfl
@[simp] theorem ix3_0 (a b c : D) : D.ixI (.tup [a, b, c]) (.int 0) = some a := rfl
@[simp] theorem ix3_1 (a b c : D) : D.ixI (.tup [a, b, c]) (.int 1) = some b := rfl
@[simp] theorem ix3_2 (a b c : D) : D.ixI (.tup [a, b, c]) (.int 2) = some c := rfl
@[simp] theorem ix4_0 (a b c d : D) : D.ixI (.tup [a, b, c, d]) (.int 0) = some a := rfl
@[simp] theorem ix4_1 (a b c d : D) : D.ixI (.tup [a, b, c, d]) (.int 1) = some b := rfl
@[simp] theorem ix4_2 (a b c d : D) : D.ixI (.tup [a, b, c, d]) (.int 2) = some c := rfl
@[simp] theorem ix4_3 (a b c d : D) : D.ixI (.tup [a, b, c, d]) (.int 3) = some d := rfl
theorem for_ok {mi : M (List D)} {g : D → Rho → Option Rho} {mb : M Fl} {ds : List D} {ρ ρ1 : Rho} (h : mi ρ = .ok ds ρ1) : sFor mi g mb ρ = goFor g mb ds ρ1 := by simp [runV, runIO2, runIO, sRet, sSeq, sAsg, sSet, sPar, sIf, sNext, sDrop, thaw, frz, cOp, cVar, cMove, cC, cUn, cCall, cCallL, cTup, cLst, aNil, aCons, cIxV, slotD, gNm, gTp, gMore, gNone, gSb, cLenV, cChain, cAnd, cOr, cNot, asB, tAnd, tOr, tNot, cIf, DL.ret, finF, ioOf, RF.to, RF.io, Sl.mut, Sl.put, Sl.data, Sl.dat, D.bool, D.addE, D.add, D.sub, D.mul, D.div, D.mod, D.pow, D.lt, D.ltE, D.le, D.gt, D.ge, D.neg, opLen, opInt, opAbs, opTuple, opList, opStr, opRepr, opAny, opAll, opSum, cFn, cFnIO, cMeth, cNew, cFld, sFor, h]
theorem seq_next {a b : M Fl} {ρ ρ1 : Rho} (h : a ρ = .ok .next ρ1) : sSeq a b ρ = b ρ1 := by simp [runV, runIO2, runIO, sRet, sSeq, sAsg, sSet, sPar, sIf, sNext, sDrop, thaw, frz, cOp, cVar, cMove, cC, cUn, cCall, cCallL, cTup, cLst, aNil, aCons, cIxV, slotD, gNm, gTp, gMore, gNone, gSb, cLenV, cChain, cAnd, cOr, cNot, asB, tAnd, tOr, tNot, cIf, DL.ret, finF, ioOf, RF.to, RF.io, Sl.mut, Sl.put, Sl.data, Sl.dat, D.bool, D.addE, D.add, D.sub, D.mul, D.div, D.mod, D.pow, D.lt, D.ltE, D.le, D.gt, D.ge, D.neg, opLen, opInt, opAbs, opTuple, opList, opStr, opRepr, opAny, opAll, opSum, cFn, cFnIO, cMeth, cNew, cFld, h]
theorem sh3 (a b c : Int) : SeqAt.shaped (D.tup [.int a, .int b, .int c]).py = true := by
  simp [runV, runIO2, runIO, sRet, sSeq, sAsg, sSet, sPar, sIf, sNext, sDrop, thaw, frz, cOp, cVar, cMove, cC, cUn, cCall, cCallL, cTup, cLst, aNil, aCons, cIxV, slotD, gNm, gTp, gMore, gNone, gSb, cLenV, cChain, cAnd, cOr, cNot, asB, tAnd, tOr, tNot, cIf, DL.ret, finF, ioOf, RF.to, RF.io, Sl.mut, Sl.put, Sl.data, Sl.dat, D.bool, D.addE, D.add, D.sub, D.mul, D.div, D.mod, D.pow, D.lt, D.ltE, D.le, D.gt, D.ge, D.neg, opLen, opInt, opAbs, opTuple, opList, opStr, opRepr, opAny, opAll, opSum, cFn, cFnIO, cMeth, cNew, cFld, D.py, D.pys, SeqAt.shaped, PyData.canLay0, PyData.canLayAll0, PyData.depth, PyData.depthAll]
@[simp] theorem ne3 (a b c a' b' c' : Int) : D.ne (.tup [.int a, .int b, .int c]) (.tup [.int a', .int b', .int c']) = some (.bl (!(decide (a = a') && decide (b = b') && decide (c = c')))) := by
  unfold D.ne
  rw [sh3, sh3]
  simp [runV, runIO2, runIO, sRet, sSeq, sAsg, sSet, sPar, sIf, sNext, sDrop, thaw, frz, cOp, cVar, cMove, cC, cUn, cCall, cCallL, cTup, cLst, aNil, aCons, cIxV, slotD, gNm, gTp, gMore, gNone, gSb, cLenV, cChain, cAnd, cOr, cNot, asB, tAnd, tOr, tNot, cIf, DL.ret, finF, ioOf, RF.to, RF.io, Sl.mut, Sl.put, Sl.data, Sl.dat, D.bool, D.addE, D.add, D.sub, D.mul, D.div, D.mod, D.pow, D.lt, D.ltE, D.le, D.gt, D.ge, D.neg, opLen, opInt, opAbs, opTuple, opList, opStr, opRepr, opAny, opAll, opSum, cFn, cFnIO, cMeth, cNew, cFld, D.py, D.pys, PyData.eqv, PyData.eqvAll, Bool.and_assoc]
  by_cases h1 : a = a' <;> by_cases h2 : b = b' <;> by_cases h3 : c = c' <;> simp [runV, runIO2, runIO, sRet, sSeq, sAsg, sSet, sPar, sIf, sNext, sDrop, thaw, frz, cOp, cVar, cMove, cC, cUn, cCall, cCallL, cTup, cLst, aNil, aCons, cIxV, slotD, gNm, gTp, gMore, gNone, gSb, cLenV, cChain, cAnd, cOr, cNot, asB, tAnd, tOr, tNot, cIf, DL.ret, finF, ioOf, RF.to, RF.io, Sl.mut, Sl.put, Sl.data, Sl.dat, D.bool, D.addE, D.add, D.sub, D.mul, D.div, D.mod, D.pow, D.lt, D.ltE, D.le, D.gt, D.ge, D.neg, opLen, opInt, opAbs, opTuple, opList, opStr, opRepr, opAny, opAll, opSum, cFn, cFnIO, cMeth, cNew, cFld, h1, h2, h3]
@[simp] theorem eq3 (a b c a' b' c' : Int) : D.eq (.tup [.int a, .int b, .int c]) (.tup [.int a', .int b', .int c']) = some (.bl (decide (a = a') && decide (b = b') && decide (c = c'))) := by
  unfold D.eq
  rw [sh3, sh3]
  simp [runV, runIO2, runIO, sRet, sSeq, sAsg, sSet, sPar, sIf, sNext, sDrop, thaw, frz, cOp, cVar, cMove, cC, cUn, cCall, cCallL, cTup, cLst, aNil, aCons, cIxV, slotD, gNm, gTp, gMore, gNone, gSb, cLenV, cChain, cAnd, cOr, cNot, asB, tAnd, tOr, tNot, cIf, DL.ret, finF, ioOf, RF.to, RF.io, Sl.mut, Sl.put, Sl.data, Sl.dat, D.bool, D.addE, D.add, D.sub, D.mul, D.div, D.mod, D.pow, D.lt, D.ltE, D.le, D.gt, D.ge, D.neg, opLen, opInt, opAbs, opTuple, opList, opStr, opRepr, opAny, opAll, opSum, cFn, cFnIO, cMeth, cNew, cFld, D.py, D.pys, PyData.eqv, PyData.eqvAll, Bool.and_assoc]
  by_cases h1 : a = a' <;> by_cases h2 : b = b' <;> by_cases h3 : c = c' <;> simp [runV, runIO2, runIO, sRet, sSeq, sAsg, sSet, sPar, sIf, sNext, sDrop, thaw, frz, cOp, cVar, cMove, cC, cUn, cCall, cCallL, cTup, cLst, aNil, aCons, cIxV, slotD, gNm, gTp, gMore, gNone, gSb, cLenV, cChain, cAnd, cOr, cNot, asB, tAnd, tOr, tNot, cIf, DL.ret, finF, ioOf, RF.to, RF.io, Sl.mut, Sl.put, Sl.data, Sl.dat, D.bool, D.addE, D.add, D.sub, D.mul, D.div, D.mod, D.pow, D.lt, D.ltE, D.le, D.gt, D.ge, D.neg, opLen, opInt, opAbs, opTuple, opList, opStr, opRepr, opAny, opAll, opSum, cFn, cFnIO, cMeth, cNew, cFld, h1, h2, h3]
end DL

end
section
namespace DL
open PySem CAL
theorem set_getD (ρ : Rho) (i : Nat) : ρ.set i (ρ.getD i .no) = ρ := by
  by_cases h : i < ρ.length
  · rw [getD_lt _ _ h, List.set_getElem_self]
  · rw [List.set_eq_of_length_le (by omega)]
/-- a comprehension whose parts change nothing -/
theorem lc_ok {i : Nat} {mi : M (List D)} {me : M D} {ρ ρ1 : Rho} {ds : List D} (f : D → D) (h1 : mi ρ = .ok ds ρ1) (hm : noMut [i] ρ1 = true) (h : ∀ d ∈ ds, me (ρ1.set i (.val d)) = .ok (f d) (ρ1.set i (.val d))) (hz : ds.length ≤ sizeLine) :
    cLc [i] mi (gNm i) tTrue me ρ = .ok (.own (ds.map f)) ρ1 := by
  unfold cLc
  rw [h1, R.bind_ok, if_pos hm]
  have e : wipeR ρ1 [i] = ρ1.set i .no := rfl
  rw [e, goComp_pure f (by rw [List.set_set]) ds [] (fun d hd => by rw [List.set_set]; exact h d hd) (by simpa [runV, runIO2, runIO, sRet, sSeq, sAsg, sSet, sPar, sIf, sNext, sDrop, thaw, frz, cOp, cVar, cMove, cC, cUn, cCall, cCallL, cTup, cLst, aNil, aCons, cIxV, slotD, gNm, gTp, gMore, gNone, gSb, cLenV, cChain, cAnd, cOr, cNot, asB, tAnd, tOr, tNot, cIf, DL.ret, finF, ioOf, RF.to, RF.io, Sl.mut, Sl.put, Sl.data, Sl.dat, D.bool, D.addE, D.add, D.sub, D.mul, D.div, D.mod, D.pow, D.lt, D.ltE, D.le, D.gt, D.ge, D.neg, opLen, opInt, opAbs, opTuple, opList, opStr, opRepr, opAny, opAll, opSum, cFn, cFnIO, cMeth, cNew, cFld] using hz), R.bind_ok]
  have e2 : unwipe ρ1 (ρ1.set i .no) [i] = (ρ1.set i .no).set i (ρ1.getD i .no) := rfl
  rw [e2, List.set_set, set_getD]
  simp [runV, runIO2, runIO, sRet, sSeq, sAsg, sSet, sPar, sIf, sNext, sDrop, thaw, frz, cOp, cVar, cMove, cC, cUn, cCall, cCallL, cTup, cLst, aNil, aCons, cIxV, slotD, gNm, gTp, gMore, gNone, gSb, cLenV, cChain, cAnd, cOr, cNot, asB, tAnd, tOr, tNot, cIf, DL.ret, finF, ioOf, RF.to, RF.io, Sl.mut, Sl.put, Sl.data, Sl.dat, D.bool, D.addE, D.add, D.sub, D.mul, D.div, D.mod, D.pow, D.lt, D.ltE, D.le, D.gt, D.ge, D.neg, opLen, opInt, opAbs, opTuple, opList, opStr, opRepr, opAny, opAll, opSum, cFn, cFnIO, cMeth, cNew, cFld]
/-- all of what is true -/
theorem all_true {f : D → D} : ∀ (ds : List D), (∀ d ∈ ds, f d = .bl true) → opAll [.lst (ds.map f)] = some (.bl true) := by
  intro ds h
  have e : ∀ ds : List D, (∀ d ∈ ds, f d = .bl true) → D.bls (ds.map f) = some (ds.map fun _ => true) := by
    intro ds
    induction ds with
    | nil => intro _; rfl
    | cons d ds ih =>
      intro h
      have h1 := h d List.mem_cons_self
      have h2 := ih fun x hx => h x (List.mem_cons_of_mem _ hx)
      rw [List.map_cons, h1]
      show (D.bls (ds.map f)).map (true :: ·) = _
      rw [h2]
      rfl
  show (D.bls (ds.map f)).map (fun bs => D.bl (bs.all id)) = _
  rw [e ds h]
  simp [runV, runIO2, runIO, sRet, sSeq, sAsg, sSet, sPar, sIf, sNext, sDrop, thaw, frz, cOp, cVar, cMove, cC, cUn, cCall, cCallL, cTup, cLst, aNil, aCons, cIxV, slotD, gNm, gTp, gMore, gNone, gSb, cLenV, cChain, cAnd, cOr, cNot, asB, tAnd, tOr, tNot, cIf, DL.ret, finF, ioOf, RF.to, RF.io, Sl.mut, Sl.put, Sl.data, Sl.dat, D.bool, D.addE, D.add, D.sub, D.mul, D.div, D.mod, D.pow, D.lt, D.ltE, D.le, D.gt, D.ge, D.neg, opLen, opInt, opAbs, opTuple, opList, opStr, opRepr, opAny, opAll, opSum, cFn, cFnIO, cMeth, cNew, cFld]
/-! ### data that can be compared -/
def Lay (n : Nat) (d : D) : Prop := d.py.canLay0 = true ∧ d.py.depth ≤ n
theorem lay_int (n : Nat) (i : Int) : Lay n (.int i) := ⟨by simp [runV, runIO2, runIO, sRet, sSeq, sAsg, sSet, sPar, sIf, sNext, sDrop, thaw, frz, cOp, cVar, cMove, cC, cUn, cCall, cCallL, cTup, cLst, aNil, aCons, cIxV, slotD, gNm, gTp, gMore, gNone, gSb, cLenV, cChain, cAnd, cOr, cNot, asB, tAnd, tOr, tNot, cIf, DL.ret, finF, ioOf, RF.to, RF.io, Sl.mut, Sl.put, Sl.data, Sl.dat, D.bool, D.addE, D.add, D.sub, D.mul, D.div, D.mod, D.pow, D.lt, D.ltE, D.le, D.gt, D.ge, D.neg, opLen, opInt, opAbs, opTuple, opList, opStr, opRepr, opAny, opAll, opSum, cFn, cFnIO, cMeth, cNew, cFld, D.py, PyData.canLay0], by simp [runV, runIO2, runIO, sRet, sSeq, sAsg, sSet, sPar, sIf, sNext, sDrop, thaw, frz, cOp, cVar, cMove, cC, cUn, cCall, cCallL, cTup, cLst, aNil, aCons, cIxV, slotD, gNm, gTp, gMore, gNone, gSb, cLenV, cChain, cAnd, cOr, cNot, asB, tAnd, tOr, tNot, cIf, DL.ret, finF, ioOf, RF.to, RF.io, Sl.mut, Sl.put, Sl.data, Sl.dat, D.bool, D.addE, D.add, D.sub, D.mul, D.div, D.mod, D.pow, D.lt, D.ltE, D.le, D.gt, D.ge, D.neg, opLen, opInt, opAbs, opTuple, opList, opStr, opRepr, opAny, opAll, opSum, cFn, cFnIO, cMeth, cNew, cFld, D.py, PyData.depth]⟩
theorem lay_bl (n : Nat) (b : Bool) : Lay n (.bl b) := ⟨by simp [runV, runIO2, runIO, sRet, sSeq, sAsg, sSet, sPar, sIf, sNext, sDrop, thaw, frz, cOp, cVar, cMove, cC, cUn, cCall, cCallL, cTup, cLst, aNil, aCons, cIxV, slotD, gNm, gTp, gMore, gNone, gSb, cLenV, cChain, cAnd, cOr, cNot, asB, tAnd, tOr, tNot, cIf, DL.ret, finF, ioOf, RF.to, RF.io, Sl.mut, Sl.put, Sl.data, Sl.dat, D.bool, D.addE, D.add, D.sub, D.mul, D.div, D.mod, D.pow, D.lt, D.ltE, D.le, D.gt, D.ge, D.neg, opLen, opInt, opAbs, opTuple, opList, opStr, opRepr, opAny, opAll, opSum, cFn, cFnIO, cMeth, cNew, cFld, D.py, PyData.canLay0], by simp [runV, runIO2, runIO, sRet, sSeq, sAsg, sSet, sPar, sIf, sNext, sDrop, thaw, frz, cOp, cVar, cMove, cC, cUn, cCall, cCallL, cTup, cLst, aNil, aCons, cIxV, slotD, gNm, gTp, gMore, gNone, gSb, cLenV, cChain, cAnd, cOr, cNot, asB, tAnd, tOr, tNot, cIf, DL.ret, finF, ioOf, RF.to, RF.io, Sl.mut, Sl.put, Sl.data, Sl.dat, D.bool, D.addE, D.add, D.sub, D.mul, D.div, D.mod, D.pow, D.lt, D.ltE, D.le, D.gt, D.ge, D.neg, opLen, opInt, opAbs, opTuple, opList, opStr, opRepr, opAny, opAll, opSum, cFn, cFnIO, cMeth, cNew, cFld, D.py, PyData.depth]⟩
theorem lay_non (n : Nat) : Lay n .non := ⟨by simp [runV, runIO2, runIO, sRet, sSeq, sAsg, sSet, sPar, sIf, sNext, sDrop, thaw, frz, cOp, cVar, cMove, cC, cUn, cCall, cCallL, cTup, cLst, aNil, aCons, cIxV, slotD, gNm, gTp, gMore, gNone, gSb, cLenV, cChain, cAnd, cOr, cNot, asB, tAnd, tOr, tNot, cIf, DL.ret, finF, ioOf, RF.to, RF.io, Sl.mut, Sl.put, Sl.data, Sl.dat, D.bool, D.addE, D.add, D.sub, D.mul, D.div, D.mod, D.pow, D.lt, D.ltE, D.le, D.gt, D.ge, D.neg, opLen, opInt, opAbs, opTuple, opList, opStr, opRepr, opAny, opAll, opSum, cFn, cFnIO, cMeth, cNew, cFld, D.py, PyData.canLay0], by simp [runV, runIO2, runIO, sRet, sSeq, sAsg, sSet, sPar, sIf, sNext, sDrop, thaw, frz, cOp, cVar, cMove, cC, cUn, cCall, cCallL, cTup, cLst, aNil, aCons, cIxV, slotD, gNm, gTp, gMore, gNone, gSb, cLenV, cChain, cAnd, cOr, cNot, asB, tAnd, tOr, tNot, cIf, DL.ret, finF, ioOf, RF.to, RF.io, Sl.mut, Sl.put, Sl.data, Sl.dat, D.bool, D.addE, D.add, D.sub, D.mul, D.div, D.mod, D.pow, D.lt, D.ltE, D.le, D.gt, D.ge, D.neg, opLen, opInt, opAbs, opTuple, opList, opStr, opRepr, opAny, opAll, opSum, cFn, cFnIO, cMeth, cNew, cFld, D.py, PyData.depth]⟩
theorem lay_str (n : Nat) {s : Str} (h : PyData.strOk s = true) : Lay n (.str s) := ⟨by simp [runV, runIO2, runIO, sRet, sSeq, sAsg, sSet, sPar, sIf, sNext, sDrop, thaw, frz, cOp, cVar, cMove, cC, cUn, cCall, cCallL, cTup, cLst, aNil, aCons, cIxV, slotD, gNm, gTp, gMore, gNone, gSb, cLenV, cChain, cAnd, cOr, cNot, asB, tAnd, tOr, tNot, cIf, DL.ret, finF, ioOf, RF.to, RF.io, Sl.mut, Sl.put, Sl.data, Sl.dat, D.bool, D.addE, D.add, D.sub, D.mul, D.div, D.mod, D.pow, D.lt, D.ltE, D.le, D.gt, D.ge, D.neg, opLen, opInt, opAbs, opTuple, opList, opStr, opRepr, opAny, opAll, opSum, cFn, cFnIO, cMeth, cNew, cFld, D.py, PyData.canLay0, h], by simp [runV, runIO2, runIO, sRet, sSeq, sAsg, sSet, sPar, sIf, sNext, sDrop, thaw, frz, cOp, cVar, cMove, cC, cUn, cCall, cCallL, cTup, cLst, aNil, aCons, cIxV, slotD, gNm, gTp, gMore, gNone, gSb, cLenV, cChain, cAnd, cOr, cNot, asB, tAnd, tOr, tNot, cIf, DL.ret, finF, ioOf, RF.to, RF.io, Sl.mut, Sl.put, Sl.data, Sl.dat, D.bool, D.addE, D.add, D.sub, D.mul, D.div, D.mod, D.pow, D.lt, D.ltE, D.le, D.gt, D.ge, D.neg, opLen, opInt, opAbs, opTuple, opList, opStr, opRepr, opAny, opAll, opSum, cFn, cFnIO, cMeth, cNew, cFld, D.py, PyData.depth]⟩
theorem lay_all {n : Nat} : ∀ (ds : List D), (∀ d ∈ ds, Lay n d) → PyData.canLayAll0 (D.pys ds) = true ∧ PyData.depthAll (D.pys ds) ≤ n
  | [], _ => ⟨by simp [runV, runIO2, runIO, sRet, sSeq, sAsg, sSet, sPar, sIf, sNext, sDrop, thaw, frz, cOp, cVar, cMove, cC, cUn, cCall, cCallL, cTup, cLst, aNil, aCons, cIxV, slotD, gNm, gTp, gMore, gNone, gSb, cLenV, cChain, cAnd, cOr, cNot, asB, tAnd, tOr, tNot, cIf, DL.ret, finF, ioOf, RF.to, RF.io, Sl.mut, Sl.put, Sl.data, Sl.dat, D.bool, D.addE, D.add, D.sub, D.mul, D.div, D.mod, D.pow, D.lt, D.ltE, D.le, D.gt, D.ge, D.neg, opLen, opInt, opAbs, opTuple, opList, opStr, opRepr, opAny, opAll, opSum, cFn, cFnIO, cMeth, cNew, cFld, D.pys, PyData.canLayAll0], by simp [runV, runIO2, runIO, sRet, sSeq, sAsg, sSet, sPar, sIf, sNext, sDrop, thaw, frz, cOp, cVar, cMove, cC, cUn, cCall, cCallL, cTup, cLst, aNil, aCons, cIxV, slotD, gNm, gTp, gMore, gNone, gSb, cLenV, cChain, cAnd, cOr, cNot, asB, tAnd, tOr, tNot, cIf, DL.ret, finF, ioOf, RF.to, RF.io, Sl.mut, Sl.put, Sl.data, Sl.dat, D.bool, D.addE, D.add, D.sub, D.mul, D.div, D.mod, D.pow, D.lt, D.ltE, D.le, D.gt, D.ge, D.neg, opLen, opInt, opAbs, opTuple, opList, opStr, opRepr, opAny, opAll, opSum, cFn, cFnIO, cMeth, cNew, cFld, D.pys, PyData.depthAll]⟩
  | d :: ds, h => by
    have h1 := h d List.mem_cons_self
    have h2 := lay_all ds fun x hx => h x (List.mem_cons_of_mem _ hx)
    refine ⟨by simp [runV, runIO2, runIO, sRet, sSeq, sAsg, sSet, sPar, sIf, sNext, sDrop, thaw, frz, cOp, cVar, cMove, cC, cUn, cCall, cCallL, cTup, cLst, aNil, aCons, cIxV, slotD, gNm, gTp, gMore, gNone, gSb, cLenV, cChain, cAnd, cOr, cNot, asB, tAnd, tOr, tNot, cIf, DL.ret, finF, ioOf, RF.to, RF.io, Sl.mut, Sl.put, Sl.data, Sl.dat, D.bool, D.addE, D.add, D.sub, D.mul, D.div, D.mod, D.pow, D.lt, D.ltE, D.le, D.gt, D.ge, D.neg, opLen, opInt, opAbs, opTuple, opList, opStr, opRepr, opAny, opAll, opSum, cFn, cFnIO, cMeth, cNew, cFld, D.pys, PyData.canLayAll0, h1.1, h2.1], ?_⟩
    simp only [D.pys, PyData.depthAll]
    exact Nat.max_le.mpr ⟨h1.2, h2.2⟩
theorem lay_tup {n : Nat} {ds : List D} (h : ∀ d ∈ ds, Lay n d) : Lay (n + 1) (.tup ds) := by
  have q := lay_all ds h
  refine ⟨by simp [runV, runIO2, runIO, sRet, sSeq, sAsg, sSet, sPar, sIf, sNext, sDrop, thaw, frz, cOp, cVar, cMove, cC, cUn, cCall, cCallL, cTup, cLst, aNil, aCons, cIxV, slotD, gNm, gTp, gMore, gNone, gSb, cLenV, cChain, cAnd, cOr, cNot, asB, tAnd, tOr, tNot, cIf, DL.ret, finF, ioOf, RF.to, RF.io, Sl.mut, Sl.put, Sl.data, Sl.dat, D.bool, D.addE, D.add, D.sub, D.mul, D.div, D.mod, D.pow, D.lt, D.ltE, D.le, D.gt, D.ge, D.neg, opLen, opInt, opAbs, opTuple, opList, opStr, opRepr, opAny, opAll, opSum, cFn, cFnIO, cMeth, cNew, cFld, D.py, PyData.canLay0, q.1], ?_⟩
  simp only [D.py, PyData.depth]
  have := q.2
  omega
theorem lay_lst {n : Nat} {ds : List D} (h : ∀ d ∈ ds, Lay n d) : Lay (n + 1) (.lst ds) := by
  have q := lay_all ds h
  refine ⟨by simp [runV, runIO2, runIO, sRet, sSeq, sAsg, sSet, sPar, sIf, sNext, sDrop, thaw, frz, cOp, cVar, cMove, cC, cUn, cCall, cCallL, cTup, cLst, aNil, aCons, cIxV, slotD, gNm, gTp, gMore, gNone, gSb, cLenV, cChain, cAnd, cOr, cNot, asB, tAnd, tOr, tNot, cIf, DL.ret, finF, ioOf, RF.to, RF.io, Sl.mut, Sl.put, Sl.data, Sl.dat, D.bool, D.addE, D.add, D.sub, D.mul, D.div, D.mod, D.pow, D.lt, D.ltE, D.le, D.gt, D.ge, D.neg, opLen, opInt, opAbs, opTuple, opList, opStr, opRepr, opAny, opAll, opSum, cFn, cFnIO, cMeth, cNew, cFld, D.py, PyData.canLay0, q.1], ?_⟩
  simp only [D.py, PyData.depth]
  have := q.2
  omega
theorem Lay.sh {n : Nat} {d : D} (h : Lay n d) (hn : n ≤ 64 := by decide) : SeqAt.shaped d.py = true := by
  unfold SeqAt.shaped
  rw [h.1, decide_eq_true (by have := h.2; omega : d.py.depth ≤ 64)]
  rfl
theorem lay_map {α : Type} {n : Nat} {f : α → D} {l : List α} (h : ∀ x ∈ l, Lay n (f x)) : ∀ d ∈ l.map f, Lay n d := by
  intro d hd
  obtain ⟨x, hx, rfl⟩ := List.mem_map.mp hd
  exact h x hx
/-! ### calendars as data -/
def msD (ms : List Int) : D := .tup (ms.map D.int)
structure Mcal where
  epoch : Int
  base : Int
  kinds : List (List Int)
  years : List Nat
def nat (k : Nat) : D := .int (k : Int)
def Mcal.d (c : Mcal) : D := .tup [.int c.epoch, .int c.base, .tup (c.kinds.map msD), .tup (c.years.map nat)]
theorem Mcal.lay (c : Mcal) : Lay 4 c.d := by
  refine lay_tup fun d hd => ?_
  simp only [List.mem_cons, List.not_mem_nil, or_false] at hd
  rcases hd with rfl | rfl | rfl | rfl
  · exact lay_int _ _
  · exact lay_int _ _
  · exact lay_tup (lay_map fun ms _ => lay_tup (lay_map fun x _ => lay_int _ _))
  · exact lay_tup (lay_map fun k _ => lay_int _ _)
def Mcal.cal (c : Mcal) : Cal := ⟨c.epoch, c.base, c.years.map fun k => c.kinds.getD k []⟩
structure Mcal.Ok (c : Mcal) : Prop where
  k1 : 1 ≤ c.kinds.length
  k2 : c.kinds.length ≤ 12
  y1 : 1 ≤ c.years.length
  y2 : c.years.length ≤ 500
  yk : ∀ k ∈ c.years, k < c.kinds.length
  m1 : ∀ ms ∈ c.kinds, 1 ≤ ms.length ∧ ms.length ≤ 20
  mo : ∀ ms ∈ c.kinds, ∀ x ∈ ms, 1 ≤ x ∧ x ≤ 50
  e0 : -1000000000000 ≤ c.epoch ∧ c.epoch ≤ 1000000000000
  b0 : -1000000000000 ≤ c.base ∧ c.base ≤ 1000000000000
section
variable {c : Mcal} (h : c.Ok)
include h
theorem Mcal.Ok.kind {k : Nat} (hk : k ∈ c.years) : c.kinds.getD k [] ∈ c.kinds := by
  rw [getD_lt _ _ (h.yk k hk)]
  exact List.getElem_mem _
theorem Mcal.Ok.cal : c.cal.Ok := by
  refine ⟨?_, fun ms hm => ?_⟩
  · have := h.y1
    intro e
    have l : c.cal.cyc.length = c.years.length := by simp [runV, runIO2, runIO, sRet, sSeq, sAsg, sSet, sPar, sIf, sNext, sDrop, thaw, frz, cOp, cVar, cMove, cC, cUn, cCall, cCallL, cTup, cLst, aNil, aCons, cIxV, slotD, gNm, gTp, gMore, gNone, gSb, cLenV, cChain, cAnd, cOr, cNot, asB, tAnd, tOr, tNot, cIf, DL.ret, finF, ioOf, RF.to, RF.io, Sl.mut, Sl.put, Sl.data, Sl.dat, D.bool, D.addE, D.add, D.sub, D.mul, D.div, D.mod, D.pow, D.lt, D.ltE, D.le, D.gt, D.ge, D.neg, opLen, opInt, opAbs, opTuple, opList, opStr, opRepr, opAny, opAll, opSum, cFn, cFnIO, cMeth, cNew, cFld, Mcal.cal]
    rw [e] at l
    simp [runV, runIO2, runIO, sRet, sSeq, sAsg, sSet, sPar, sIf, sNext, sDrop, thaw, frz, cOp, cVar, cMove, cC, cUn, cCall, cCallL, cTup, cLst, aNil, aCons, cIxV, slotD, gNm, gTp, gMore, gNone, gSb, cLenV, cChain, cAnd, cOr, cNot, asB, tAnd, tOr, tNot, cIf, DL.ret, finF, ioOf, RF.to, RF.io, Sl.mut, Sl.put, Sl.data, Sl.dat, D.bool, D.addE, D.add, D.sub, D.mul, D.div, D.mod, D.pow, D.lt, D.ltE, D.le, D.gt, D.ge, D.neg, opLen, opInt, opAbs, opTuple, opList, opStr, opRepr, opAny, opAll, opSum, cFn, cFnIO, cMeth, cNew, cFld] at l
    omega
  · obtain ⟨k, hk, rfl⟩ := List.mem_map.mp hm
    have q := h.kind hk
    refine ⟨fun e => ?_, fun x hx => (h.mo _ q x hx).1⟩
    have := (h.m1 _ q).1
    rw [e] at this
    simp [runV, runIO2, runIO, sRet, sSeq, sAsg, sSet, sPar, sIf, sNext, sDrop, thaw, frz, cOp, cVar, cMove, cC, cUn, cCall, cCallL, cTup, cLst, aNil, aCons, cIxV, slotD, gNm, gTp, gMore, gNone, gSb, cLenV, cChain, cAnd, cOr, cNot, asB, tAnd, tOr, tNot, cIf, DL.ret, finF, ioOf, RF.to, RF.io, Sl.mut, Sl.put, Sl.data, Sl.dat, D.bool, D.addE, D.add, D.sub, D.mul, D.div, D.mod, D.pow, D.lt, D.ltE, D.le, D.gt, D.ge, D.neg, opLen, opInt, opAbs, opTuple, opList, opStr, opRepr, opAny, opAll, opSum, cFn, cFnIO, cMeth, cNew, cFld] at this
theorem Mcal.Ok.L : c.cal.L = (c.years.length : Int) := by simp [runV, runIO2, runIO, sRet, sSeq, sAsg, sSet, sPar, sIf, sNext, sDrop, thaw, frz, cOp, cVar, cMove, cC, cUn, cCall, cCallL, cTup, cLst, aNil, aCons, cIxV, slotD, gNm, gTp, gMore, gNone, gSb, cLenV, cChain, cAnd, cOr, cNot, asB, tAnd, tOr, tNot, cIf, DL.ret, finF, ioOf, RF.to, RF.io, Sl.mut, Sl.put, Sl.data, Sl.dat, D.bool, D.addE, D.add, D.sub, D.mul, D.div, D.mod, D.pow, D.lt, D.ltE, D.le, D.gt, D.ge, D.neg, opLen, opInt, opAbs, opTuple, opList, opStr, opRepr, opAny, opAll, opSum, cFn, cFnIO, cMeth, cNew, cFld, Cal.L, Mcal.cal]
theorem Mcal.Ok.cl : c.cal.cyc.length = c.years.length := by simp [runV, runIO2, runIO, sRet, sSeq, sAsg, sSet, sPar, sIf, sNext, sDrop, thaw, frz, cOp, cVar, cMove, cC, cUn, cCall, cCallL, cTup, cLst, aNil, aCons, cIxV, slotD, gNm, gTp, gMore, gNone, gSb, cLenV, cChain, cAnd, cOr, cNot, asB, tAnd, tOr, tNot, cIf, DL.ret, finF, ioOf, RF.to, RF.io, Sl.mut, Sl.put, Sl.data, Sl.dat, D.bool, D.addE, D.add, D.sub, D.mul, D.div, D.mod, D.pow, D.lt, D.ltE, D.le, D.gt, D.ge, D.neg, opLen, opInt, opAbs, opTuple, opList, opStr, opRepr, opAny, opAll, opSum, cFn, cFnIO, cMeth, cNew, cFld, Mcal.cal]
theorem Mcal.Ok.mon_in (y : Int) : c.cal.mon y ∈ c.kinds := by
  have q := mon_mem h.cal y
  obtain ⟨k, hk, e⟩ := List.mem_map.mp q
  rw [← e]
  exact h.kind hk
omit h in
theorem sum_le (l : List Int) (b : Int) (hb : 0 ≤ b) : (∀ x ∈ l, x ≤ b) → l.sum ≤ b * l.length := by
  induction l with
  | nil => intro _; simp [runV, runIO2, runIO, sRet, sSeq, sAsg, sSet, sPar, sIf, sNext, sDrop, thaw, frz, cOp, cVar, cMove, cC, cUn, cCall, cCallL, cTup, cLst, aNil, aCons, cIxV, slotD, gNm, gTp, gMore, gNone, gSb, cLenV, cChain, cAnd, cOr, cNot, asB, tAnd, tOr, tNot, cIf, DL.ret, finF, ioOf, RF.to, RF.io, Sl.mut, Sl.put, Sl.data, Sl.dat, D.bool, D.addE, D.add, D.sub, D.mul, D.div, D.mod, D.pow, D.lt, D.ltE, D.le, D.gt, D.ge, D.neg, opLen, opInt, opAbs, opTuple, opList, opStr, opRepr, opAny, opAll, opSum, cFn, cFnIO, cMeth, cNew, cFld]
  | cons x l ih =>
    intro h
    have h1 := h x List.mem_cons_self
    have h2 := ih fun y hy => h y (List.mem_cons_of_mem _ hy)
    rw [List.sum_cons, List.length_cons]
    have : b * ((l.length + 1 : Nat) : Int) = b * l.length + b := by rw [Int.natCast_add, Int.mul_add]; simp [runV, runIO2, runIO, sRet, sSeq, sAsg, sSet, sPar, sIf, sNext, sDrop, thaw, frz, cOp, cVar, cMove, cC, cUn, cCall, cCallL, cTup, cLst, aNil, aCons, cIxV, slotD, gNm, gTp, gMore, gNone, gSb, cLenV, cChain, cAnd, cOr, cNot, asB, tAnd, tOr, tNot, cIf, DL.ret, finF, ioOf, RF.to, RF.io, Sl.mut, Sl.put, Sl.data, Sl.dat, D.bool, D.addE, D.add, D.sub, D.mul, D.div, D.mod, D.pow, D.lt, D.ltE, D.le, D.gt, D.ge, D.neg, opLen, opInt, opAbs, opTuple, opList, opStr, opRepr, opAny, opAll, opSum, cFn, cFnIO, cMeth, cNew, cFld]
    omega
theorem Mcal.Ok.T_le : c.cal.T ≤ 500000 := by
  have a : ∀ x ∈ c.cal.yl, x ≤ 1000 := by
    intro x hx
    obtain ⟨ms, hm, rfl⟩ := List.mem_map.mp hx
    obtain ⟨k, hk, rfl⟩ := List.mem_map.mp hm
    have q := h.kind hk
    have s := sum_le _ 50 (by omega) fun x hx => (h.mo _ q x hx).2
    have := (h.m1 _ q).2
    omega
  have s := sum_le c.cal.yl 1000 (by omega) a
  have l : c.cal.yl.length = c.years.length := by simp [runV, runIO2, runIO, sRet, sSeq, sAsg, sSet, sPar, sIf, sNext, sDrop, thaw, frz, cOp, cVar, cMove, cC, cUn, cCall, cCallL, cTup, cLst, aNil, aCons, cIxV, slotD, gNm, gTp, gMore, gNone, gSb, cLenV, cChain, cAnd, cOr, cNot, asB, tAnd, tOr, tNot, cIf, DL.ret, finF, ioOf, RF.to, RF.io, Sl.mut, Sl.put, Sl.data, Sl.dat, D.bool, D.addE, D.add, D.sub, D.mul, D.div, D.mod, D.pow, D.lt, D.ltE, D.le, D.gt, D.ge, D.neg, opLen, opInt, opAbs, opTuple, opList, opStr, opRepr, opAny, opAll, opSum, cFn, cFnIO, cMeth, cNew, cFld, Cal.yl, Mcal.cal]
  have := h.y2
  unfold Cal.T
  omega
end
/-- the instance of Years -/
def rows (c : Mcal) (i : Nat) : Int := ((c.cal.cyc.map fun ms => (ms.length : Int)).take i).sum
def stL (c : Mcal) (i : Nat) : List D := (List.range (i + 1)).map fun k : Nat => D.int (c.cal.S k)
def rwL (c : Mcal) (i : Nat) : List D := (List.range (i + 1)).map fun k : Nat => D.int (rows c k)
def cyL (c : Mcal) : List D := c.cal.cyc.map msD
def YF (c : Mcal) : List (Str × D) := [("epoch", .int c.epoch), ("base", .int c.base), ("cycle", .lst (cyL c)), ("starts", .lst (stL c c.years.length)), ("rows", .lst (rwL c c.years.length))]
def YD (c : Mcal) : D := .ins "Years" (YF c)
section
variable (c : Mcal)
theorem stL_last (i : Nat) : stL c i = ((List.range i).map fun k : Nat => D.int (c.cal.S k)) ++ [D.int (c.cal.S i)] := by
  unfold stL
  rw [List.range_succ, List.map_append]
  rfl
theorem rwL_last (i : Nat) : rwL c i = ((List.range i).map fun k : Nat => D.int (rows c k)) ++ [D.int (rows c i)] := by
  unfold rwL
  rw [List.range_succ, List.map_append]
  rfl
theorem stL_succ (i : Nat) : stL c (i + 1) = stL c i ++ [D.int (c.cal.S (i + 1))] := stL_last c (i + 1)
theorem rwL_succ (i : Nat) : rwL c (i + 1) = rwL c i ++ [D.int (rows c (i + 1))] := rwL_last c (i + 1)
theorem stL_length (i : Nat) : (stL c i).length = i + 1 := by simp [runV, runIO2, runIO, sRet, sSeq, sAsg, sSet, sPar, sIf, sNext, sDrop, thaw, frz, cOp, cVar, cMove, cC, cUn, cCall, cCallL, cTup, cLst, aNil, aCons, cIxV, slotD, gNm, gTp, gMore, gNone, gSb, cLenV, cChain, cAnd, cOr, cNot, asB, tAnd, tOr, tNot, cIf, DL.ret, finF, ioOf, RF.to, RF.io, Sl.mut, Sl.put, Sl.data, Sl.dat, D.bool, D.addE, D.add, D.sub, D.mul, D.div, D.mod, D.pow, D.lt, D.ltE, D.le, D.gt, D.ge, D.neg, opLen, opInt, opAbs, opTuple, opList, opStr, opRepr, opAny, opAll, opSum, cFn, cFnIO, cMeth, cNew, cFld, stL]
theorem rwL_length (i : Nat) : (rwL c i).length = i + 1 := by simp [runV, runIO2, runIO, sRet, sSeq, sAsg, sSet, sPar, sIf, sNext, sDrop, thaw, frz, cOp, cVar, cMove, cC, cUn, cCall, cCallL, cTup, cLst, aNil, aCons, cIxV, slotD, gNm, gTp, gMore, gNone, gSb, cLenV, cChain, cAnd, cOr, cNot, asB, tAnd, tOr, tNot, cIf, DL.ret, finF, ioOf, RF.to, RF.io, Sl.mut, Sl.put, Sl.data, Sl.dat, D.bool, D.addE, D.add, D.sub, D.mul, D.div, D.mod, D.pow, D.lt, D.ltE, D.le, D.gt, D.ge, D.neg, opLen, opInt, opAbs, opTuple, opList, opStr, opRepr, opAny, opAll, opSum, cFn, cFnIO, cMeth, cNew, cFld, rwL]
@[simp] theorem g_epoch : D.fld "Years" "epoch" (YD c) = some (.int c.epoch) := rfl
@[simp] theorem g_base : D.fld "Years" "base" (YD c) = some (.int c.base) := rfl
@[simp] theorem g_cycle : D.fld "Years" "cycle" (YD c) = some (.lst (cyL c)) := rfl
@[simp] theorem g_starts : D.fld "Years" "starts" (YD c) = some (.lst (stL c c.years.length)) := rfl
@[simp] theorem g_rows : D.fld "Years" "rows" (YD c) = some (.lst (rwL c c.years.length)) := rfl
@[simp] theorem g_days : (YD c).isIns "Years" "days_in_cycle" = true := rfl
@[simp] theorem g_start : (YD c).isIns "Years" "start" = true := rfl
@[simp] theorem g_year_at : (YD c).isIns "Years" "year_at" = true := rfl
@[simp] theorem g_months : (YD c).isIns "Years" "months" = true := rfl
@[simp] theorem g_day_at : (YD c).isIns "Years" "day_at" = true := rfl
@[simp] theorem g_date_at : (YD c).isIns "Years" "date_at" = true := rfl
@[simp] theorem g_month_number : (YD c).isIns "Years" "month_number" = true := rfl
@[simp] theorem g_month_at : (YD c).isIns "Years" "month_at" = true := rfl
@[simp] theorem g_months_later : (YD c).isIns "Years" "months_later" = true := rfl
@[simp] theorem g_years_later : (YD c).isIns "Years" "years_later" = true := rfl
@[simp] theorem g_fitted : (YD c).isIns "Years" "fitted" = true := rfl
@[simp] theorem yd_eq : D.ins "Years" (YF c) = YD c := rfl
end
section
variable {c : Mcal} (h : c.Ok)
include h
theorem rows_succ {i : Nat} (hi : i < c.years.length) : rows c (i + 1) = rows c i + ((c.cal.cyc.getD i []).length : Int) := by
  unfold rows
  have l : i < c.cal.cyc.length := by rw [h.cl]; exact hi
  rw [sum_take_succ _ _ (by simpa [runV, runIO2, runIO, sRet, sSeq, sAsg, sSet, sPar, sIf, sNext, sDrop, thaw, frz, cOp, cVar, cMove, cC, cUn, cCall, cCallL, cTup, cLst, aNil, aCons, cIxV, slotD, gNm, gTp, gMore, gNone, gSb, cLenV, cChain, cAnd, cOr, cNot, asB, tAnd, tOr, tNot, cIf, DL.ret, finF, ioOf, RF.to, RF.io, Sl.mut, Sl.put, Sl.data, Sl.dat, D.bool, D.addE, D.add, D.sub, D.mul, D.div, D.mod, D.pow, D.lt, D.ltE, D.le, D.gt, D.ge, D.neg, opLen, opInt, opAbs, opTuple, opList, opStr, opRepr, opAny, opAll, opSum, cFn, cFnIO, cMeth, cNew, cFld] using l), List.getElem_map, getD_lt _ _ l]
theorem cyL_length : (cyL c).length = c.years.length := by simp [runV, runIO2, runIO, sRet, sSeq, sAsg, sSet, sPar, sIf, sNext, sDrop, thaw, frz, cOp, cVar, cMove, cC, cUn, cCall, cCallL, cTup, cLst, aNil, aCons, cIxV, slotD, gNm, gTp, gMore, gNone, gSb, cLenV, cChain, cAnd, cOr, cNot, asB, tAnd, tOr, tNot, cIf, DL.ret, finF, ioOf, RF.to, RF.io, Sl.mut, Sl.put, Sl.data, Sl.dat, D.bool, D.addE, D.add, D.sub, D.mul, D.div, D.mod, D.pow, D.lt, D.ltE, D.le, D.gt, D.ge, D.neg, opLen, opInt, opAbs, opTuple, opList, opStr, opRepr, opAny, opAll, opSum, cFn, cFnIO, cMeth, cNew, cFld, cyL, Mcal.cal]
theorem st_at {k : Int} {n : Nat} (e : k = n) (hn : n ≤ c.years.length) : D.ixI (.lst (stL c c.years.length)) (.int k) = some (.int (c.cal.S n)) := by
  rw [ix_lst _ e (by rw [stL_length]; omega)]
  simp [runV, runIO2, runIO, sRet, sSeq, sAsg, sSet, sPar, sIf, sNext, sDrop, thaw, frz, cOp, cVar, cMove, cC, cUn, cCall, cCallL, cTup, cLst, aNil, aCons, cIxV, slotD, gNm, gTp, gMore, gNone, gSb, cLenV, cChain, cAnd, cOr, cNot, asB, tAnd, tOr, tNot, cIf, DL.ret, finF, ioOf, RF.to, RF.io, Sl.mut, Sl.put, Sl.data, Sl.dat, D.bool, D.addE, D.add, D.sub, D.mul, D.div, D.mod, D.pow, D.lt, D.ltE, D.le, D.gt, D.ge, D.neg, opLen, opInt, opAbs, opTuple, opList, opStr, opRepr, opAny, opAll, opSum, cFn, cFnIO, cMeth, cNew, cFld, stL]
theorem rw_at {k : Int} {n : Nat} (e : k = n) (hn : n ≤ c.years.length) : D.ixI (.lst (rwL c c.years.length)) (.int k) = some (.int (rows c n)) := by
  rw [ix_lst _ e (by rw [rwL_length]; omega)]
  simp [runV, runIO2, runIO, sRet, sSeq, sAsg, sSet, sPar, sIf, sNext, sDrop, thaw, frz, cOp, cVar, cMove, cC, cUn, cCall, cCallL, cTup, cLst, aNil, aCons, cIxV, slotD, gNm, gTp, gMore, gNone, gSb, cLenV, cChain, cAnd, cOr, cNot, asB, tAnd, tOr, tNot, cIf, DL.ret, finF, ioOf, RF.to, RF.io, Sl.mut, Sl.put, Sl.data, Sl.dat, D.bool, D.addE, D.add, D.sub, D.mul, D.div, D.mod, D.pow, D.lt, D.ltE, D.le, D.gt, D.ge, D.neg, opLen, opInt, opAbs, opTuple, opList, opStr, opRepr, opAny, opAll, opSum, cFn, cFnIO, cMeth, cNew, cFld, rwL]
theorem st_all : D.ixI (.lst (stL c c.years.length)) (.int (-1)) = some (.int c.cal.T) := by
  have hl := atI_last ((List.range c.years.length).map fun k : Nat => D.int (c.cal.S k)) (D.int (c.cal.S c.years.length))
  rw [← stL_last, ← h.cl, S_all, h.cl] at hl
  exact hl
theorem rw_all : D.ixI (.lst (rwL c c.years.length)) (.int (-1)) = some (.int (rows c c.years.length)) := by
  have hl := atI_last ((List.range c.years.length).map fun k : Nat => D.int (rows c k)) (D.int (rows c c.years.length))
  rw [← rwL_last] at hl
  exact hl
theorem cy_at (y : Int) : D.ixI (.lst (cyL c)) (.int ((y - c.base) % (c.years.length : Int))) = some (msD (c.cal.mon y)) := by
  have a := at_lt h.cal y
  have e := at_int h.cal y
  rw [h.L] at e
  have eb : c.cal.base = c.base := rfl
  rw [eb] at e
  rw [ix_lst _ e.symm (by rw [cyL_length h, ← h.cl]; exact a)]
  unfold Cal.mon
  rw [getD_lt _ _ a]
  simp [runV, runIO2, runIO, sRet, sSeq, sAsg, sSet, sPar, sIf, sNext, sDrop, thaw, frz, cOp, cVar, cMove, cC, cUn, cCall, cCallL, cTup, cLst, aNil, aCons, cIxV, slotD, gNm, gTp, gMore, gNone, gSb, cLenV, cChain, cAnd, cOr, cNot, asB, tAnd, tOr, tNot, cIf, DL.ret, finF, ioOf, RF.to, RF.io, Sl.mut, Sl.put, Sl.data, Sl.dat, D.bool, D.addE, D.add, D.sub, D.mul, D.div, D.mod, D.pow, D.lt, D.ltE, D.le, D.gt, D.ge, D.neg, opLen, opInt, opAbs, opTuple, opList, opStr, opRepr, opAny, opAll, opSum, cFn, cFnIO, cMeth, cNew, cFld, cyL]
/-- a year's kind, in the made calendar -/
theorem ys_at (y : Int) : ∃ k : Nat, k < c.kinds.length ∧ D.ixI (.tup (c.years.map nat)) (.int ((y - c.base) % (c.years.length : Int))) = some (.int (k : Int)) ∧ D.ixI (.tup (c.kinds.map msD)) (.int (k : Int)) = some (msD (c.cal.mon y)) := by
  have a := at_lt h.cal y
  have e := at_int h.cal y
  rw [h.L] at e
  have eb : c.cal.base = c.base := rfl
  rw [eb] at e
  have a2 : c.cal.at_ y < c.years.length := by rw [← h.cl]; exact a
  have hk := h.yk _ (List.getElem_mem a2)
  refine ⟨c.years[c.cal.at_ y], hk, ?_, ?_⟩
  · rw [ix_tup _ e.symm (by simpa [runV, runIO2, runIO, sRet, sSeq, sAsg, sSet, sPar, sIf, sNext, sDrop, thaw, frz, cOp, cVar, cMove, cC, cUn, cCall, cCallL, cTup, cLst, aNil, aCons, cIxV, slotD, gNm, gTp, gMore, gNone, gSb, cLenV, cChain, cAnd, cOr, cNot, asB, tAnd, tOr, tNot, cIf, DL.ret, finF, ioOf, RF.to, RF.io, Sl.mut, Sl.put, Sl.data, Sl.dat, D.bool, D.addE, D.add, D.sub, D.mul, D.div, D.mod, D.pow, D.lt, D.ltE, D.le, D.gt, D.ge, D.neg, opLen, opInt, opAbs, opTuple, opList, opStr, opRepr, opAny, opAll, opSum, cFn, cFnIO, cMeth, cNew, cFld] using a2)]
    simp [runV, runIO2, runIO, sRet, sSeq, sAsg, sSet, sPar, sIf, sNext, sDrop, thaw, frz, cOp, cVar, cMove, cC, cUn, cCall, cCallL, cTup, cLst, aNil, aCons, cIxV, slotD, gNm, gTp, gMore, gNone, gSb, cLenV, cChain, cAnd, cOr, cNot, asB, tAnd, tOr, tNot, cIf, DL.ret, finF, ioOf, RF.to, RF.io, Sl.mut, Sl.put, Sl.data, Sl.dat, D.bool, D.addE, D.add, D.sub, D.mul, D.div, D.mod, D.pow, D.lt, D.ltE, D.le, D.gt, D.ge, D.neg, opLen, opInt, opAbs, opTuple, opList, opStr, opRepr, opAny, opAll, opSum, cFn, cFnIO, cMeth, cNew, cFld, nat]
  · rw [ix_tup _ rfl (by simpa [runV, runIO2, runIO, sRet, sSeq, sAsg, sSet, sPar, sIf, sNext, sDrop, thaw, frz, cOp, cVar, cMove, cC, cUn, cCall, cCallL, cTup, cLst, aNil, aCons, cIxV, slotD, gNm, gTp, gMore, gNone, gSb, cLenV, cChain, cAnd, cOr, cNot, asB, tAnd, tOr, tNot, cIf, DL.ret, finF, ioOf, RF.to, RF.io, Sl.mut, Sl.put, Sl.data, Sl.dat, D.bool, D.addE, D.add, D.sub, D.mul, D.div, D.mod, D.pow, D.lt, D.ltE, D.le, D.gt, D.ge, D.neg, opLen, opInt, opAbs, opTuple, opList, opStr, opRepr, opAny, opAll, opSum, cFn, cFnIO, cMeth, cNew, cFld] using hk)]
    unfold Cal.mon
    have e3 : c.cal.cyc.getD (c.cal.at_ y) [] = c.kinds.getD c.years[c.cal.at_ y] [] := by
      rw [getD_lt _ _ a]
      exact List.getElem_map _
    rw [e3, getD_lt _ _ hk]
    simp [runV, runIO2, runIO, sRet, sSeq, sAsg, sSet, sPar, sIf, sNext, sDrop, thaw, frz, cOp, cVar, cMove, cC, cUn, cCall, cCallL, cTup, cLst, aNil, aCons, cIxV, slotD, gNm, gTp, gMore, gNone, gSb, cLenV, cChain, cAnd, cOr, cNot, asB, tAnd, tOr, tNot, cIf, DL.ret, finF, ioOf, RF.to, RF.io, Sl.mut, Sl.put, Sl.data, Sl.dat, D.bool, D.addE, D.add, D.sub, D.mul, D.div, D.mod, D.pow, D.lt, D.ltE, D.le, D.gt, D.ge, D.neg, opLen, opInt, opAbs, opTuple, opList, opStr, opRepr, opAny, opAll, opSum, cFn, cFnIO, cMeth, cNew, cFld]
end
end DL

end
section
namespace Wk29
open PySem PySem.Spec L2 DL
def top (i : Nat) : Stmt := PySem.Challenge.pw_alldue_k29_dates_by_the_civil_count.main.body.getD i (.Pass ⟨0, 0, 0, 0⟩)
def clsBody (s : Stmt) : List Stmt := match s with
  | .ClassDef _ _ _ b _ _ _ _ _ _ _ => b
  | _ => []
abbrev s_is_integer : Stmt := top 6
abbrev s_is_between : Stmt := top 7
abbrev s_is_tuple : Stmt := top 8
abbrev s_is_leap : Stmt := top 20
abbrev s_made_of : Stmt := top 21
abbrev s_is_a_calendar : Stmt := top 22
abbrev s_is_a_date : Stmt := top 23
abbrev s_need_calendar : Stmt := top 24
abbrev s_need_date : Stmt := top 25
abbrev s_last_place : Stmt := top 28
abbrev s_Years_days_in_cycle : Stmt := (clsBody (top 27)).getD 1 (.Pass ⟨0, 0, 0, 0⟩)
abbrev s_Years___init__ : Stmt := (clsBody (top 27)).getD 0 (.Pass ⟨0, 0, 0, 0⟩)
abbrev s_cycle_days : Stmt := top 31
abbrev s_Years_start : Stmt := (clsBody (top 27)).getD 3 (.Pass ⟨0, 0, 0, 0⟩)
abbrev s_year_start : Stmt := top 32
abbrev s_Years_months : Stmt := (clsBody (top 27)).getD 2 (.Pass ⟨0, 0, 0, 0⟩)
abbrev s_Years_day_at : Stmt := (clsBody (top 27)).getD 6 (.Pass ⟨0, 0, 0, 0⟩)
abbrev s_day_of : Stmt := top 33
abbrev s_Years_year_at : Stmt := (clsBody (top 27)).getD 4 (.Pass ⟨0, 0, 0, 0⟩)
abbrev s_Years_date_at : Stmt := (clsBody (top 27)).getD 5 (.Pass ⟨0, 0, 0, 0⟩)
abbrev s_date_of : Stmt := top 34
abbrev s_weekday : Stmt := top 35
abbrev s_u_law_seed : Stmt := top 37
abbrev s_u_law_any : Stmt := top 38
abbrev s_u_law_one_of : Stmt := top 39
abbrev s_u_law_far : Stmt := top 40
abbrev s_u_law_named : Stmt := top 41
abbrev s_u_law_made : Stmt := top 42
abbrev s_u_law_year_lengths : Stmt := top 43
abbrev s_u_law_kind_of : Stmt := top 44
abbrev s_u_law_year_begin : Stmt := top 45
abbrev s_u_law_date_of : Stmt := top 46
abbrev s_u_law_drawn_made : Stmt := top 47
abbrev s_u_law_drawn_calendar : Stmt := top 48
abbrev s_u_law_leap : Stmt := top 49
abbrev s_u_law_civil : Stmt := top 50
abbrev s_u_law_next : Stmt := top 51
abbrev s_u_law_ends_and_far : Stmt := top 52
abbrev s_u_law_right : Stmt := top 53
abbrev s_u_law_led_along : Stmt := top 54
abbrev s_law : Stmt := top 55
def c_MOST : D := (.int 1000000000000)
def c_NAMES : D := (.tup [(.str "gregorian"), (.str "julian"), (.str "islamic"), (.str "coptic")])
def c_COMMON : D := (.tup [(.int 31), (.int 28), (.int 31), (.int 30), (.int 31), (.int 30), (.int 31), (.int 31), (.int 30), (.int 31), (.int 30), (.int 31)])
def c_LEAP : D := (.tup [(.int 31), (.int 29), (.int 31), (.int 30), (.int 31), (.int 30), (.int 31), (.int 31), (.int 30), (.int 31), (.int 30), (.int 31)])
def c_PLAIN : D := (.tup [(.int 30), (.int 29), (.int 30), (.int 29), (.int 30), (.int 29), (.int 30), (.int 29), (.int 30), (.int 29), (.int 30), (.int 29)])
def c_LONGER : D := (.tup [(.int 30), (.int 29), (.int 30), (.int 29), (.int 30), (.int 29), (.int 30), (.int 29), (.int 30), (.int 29), (.int 30), (.int 30)])
def c_LONGER_YEARS : D := (.tup [(.int 2), (.int 5), (.int 7), (.int 10), (.int 13), (.int 16), (.int 18), (.int 21), (.int 24), (.int 26), (.int 29)])
def c_JULIAN : D := (.tup [(.int 13), (.int 2000), (.tup [(.tup [(.int 31), (.int 28), (.int 31), (.int 30), (.int 31), (.int 30), (.int 31), (.int 31), (.int 30), (.int 31), (.int 30), (.int 31)]), (.tup [(.int 31), (.int 29), (.int 31), (.int 30), (.int 31), (.int 30), (.int 31), (.int 31), (.int 30), (.int 31), (.int 30), (.int 31)])]), (.tup [(.int 1), (.int 0), (.int 0), (.int 0)])])
def c_COPTIC : D := (.tup [(.int (-626515)), (.int 1), (.tup [(.tup [(.int 30), (.int 30), (.int 30), (.int 30), (.int 30), (.int 30), (.int 30), (.int 30), (.int 30), (.int 30), (.int 30), (.int 30), (.int 5)]), (.tup [(.int 30), (.int 30), (.int 30), (.int 30), (.int 30), (.int 30), (.int 30), (.int 30), (.int 30), (.int 30), (.int 30), (.int 30), (.int 6)])]), (.tup [(.int 0), (.int 0), (.int 1), (.int 0)])])
def c_WEEK : D := (.int 7)
def excN : List Str := ["DayError", "InvalidCalendar", "InvalidDate"]
def tb_DayError : List (Str × Bool) := [("DayError", true), ("InvalidCalendar", true), ("InvalidDate", true)]
def tb_InvalidCalendar : List (Str × Bool) := [("DayError", false), ("InvalidCalendar", true), ("InvalidDate", false)]
def tb_InvalidDate : List (Str × Bool) := [("DayError", false), ("InvalidCalendar", false), ("InvalidDate", true)]
structure Txt (P : Program) (K : PySem.W.Frag) (mg : Str → Option Value) : Prop where
  f_abs : mg "abs" = none
  f_all : mg "all" = none
  f_bool : mg "bool" = none
  f_divmod : mg "divmod" = none
  f_int : mg "int" = none
  f_isinstance : mg "isinstance" = none
  f_len : mg "len" = none
  f_range : mg "range" = none
  f_str : mg "str" = none
  f_sum : mg "sum" = none
  f_tuple : mg "tuple" = none
  c_COMMON : ConAt K mg "COMMON" c_COMMON
  c_COPTIC : ConAt K mg "COPTIC" c_COPTIC
  g_InvalidCalendar : mg "InvalidCalendar" = some (.ref (He.ga K "InvalidCalendar"))
  g_InvalidDate : mg "InvalidDate" = some (.ref (He.ga K "InvalidDate"))
  c_JULIAN : ConAt K mg "JULIAN" c_JULIAN
  c_LEAP : ConAt K mg "LEAP" c_LEAP
  c_LONGER : ConAt K mg "LONGER" c_LONGER
  c_LONGER_YEARS : ConAt K mg "LONGER_YEARS" c_LONGER_YEARS
  c_MOST : ConAt K mg "MOST" c_MOST
  c_NAMES : ConAt K mg "NAMES" c_NAMES
  c_PLAIN : ConAt K mg "PLAIN" c_PLAIN
  c_WEEK : ConAt K mg "WEEK" c_WEEK
  g_Years : mg "Years" = some (.ref (He.ga K "Years"))
  g__law_any : mg "_law_any" = some (.ref (He.ga K "_law_any"))
  g__law_civil : mg "_law_civil" = some (.ref (He.ga K "_law_civil"))
  g__law_date_of : mg "_law_date_of" = some (.ref (He.ga K "_law_date_of"))
  g__law_drawn_calendar : mg "_law_drawn_calendar" = some (.ref (He.ga K "_law_drawn_calendar"))
  g__law_drawn_made : mg "_law_drawn_made" = some (.ref (He.ga K "_law_drawn_made"))
  g__law_ends_and_far : mg "_law_ends_and_far" = some (.ref (He.ga K "_law_ends_and_far"))
  g__law_far : mg "_law_far" = some (.ref (He.ga K "_law_far"))
  g__law_kind_of : mg "_law_kind_of" = some (.ref (He.ga K "_law_kind_of"))
  g__law_leap : mg "_law_leap" = some (.ref (He.ga K "_law_leap"))
  g__law_led_along : mg "_law_led_along" = some (.ref (He.ga K "_law_led_along"))
  g__law_made : mg "_law_made" = some (.ref (He.ga K "_law_made"))
  g__law_named : mg "_law_named" = some (.ref (He.ga K "_law_named"))
  g__law_next : mg "_law_next" = some (.ref (He.ga K "_law_next"))
  g__law_one_of : mg "_law_one_of" = some (.ref (He.ga K "_law_one_of"))
  g__law_right : mg "_law_right" = some (.ref (He.ga K "_law_right"))
  g__law_seed : mg "_law_seed" = some (.ref (He.ga K "_law_seed"))
  g__law_year_begin : mg "_law_year_begin" = some (.ref (He.ga K "_law_year_begin"))
  g__law_year_lengths : mg "_law_year_lengths" = some (.ref (He.ga K "_law_year_lengths"))
  g_anew : mg "anew" = some (.ref (He.ga K "anew"))
  g_cycle_days : mg "cycle_days" = some (.ref (He.ga K "cycle_days"))
  g_date_of : mg "date_of" = some (.ref (He.ga K "date_of"))
  g_day_of : mg "day_of" = some (.ref (He.ga K "day_of"))
  g_is_a_calendar : mg "is_a_calendar" = some (.ref (He.ga K "is_a_calendar"))
  g_is_a_date : mg "is_a_date" = some (.ref (He.ga K "is_a_date"))
  g_is_between : mg "is_between" = some (.ref (He.ga K "is_between"))
  g_is_integer : mg "is_integer" = some (.ref (He.ga K "is_integer"))
  g_is_leap : mg "is_leap" = some (.ref (He.ga K "is_leap"))
  g_is_tuple : mg "is_tuple" = some (.ref (He.ga K "is_tuple"))
  g_last_place : mg "last_place" = some (.ref (He.ga K "last_place"))
  g_made_of : mg "made_of" = some (.ref (He.ga K "made_of"))
  g_need_calendar : mg "need_calendar" = some (.ref (He.ga K "need_calendar"))
  g_need_date : mg "need_date" = some (.ref (He.ga K "need_date"))
  g_weekday : mg "weekday" = some (.ref (He.ga K "weekday"))
  g_year_start : mg "year_start" = some (.ref (He.ga K "year_start"))
  d_is_integer : ∃ fd, FunD K "is_integer" "is_integer" (defArgs s_is_integer) (defBody s_is_integer) (defScope s_is_integer) [] [] (He.ga K "is_integer") fd
  d_is_between : ∃ fd, FunD K "is_between" "is_between" (defArgs s_is_between) (defBody s_is_between) (defScope s_is_between) [] [] (He.ga K "is_between") fd
  d_is_tuple : ∃ fd, FunD K "is_tuple" "is_tuple" (defArgs s_is_tuple) (defBody s_is_tuple) (defScope s_is_tuple) [] [] (He.ga K "is_tuple") fd
  d_is_leap : ∃ fd, FunD K "is_leap" "is_leap" (defArgs s_is_leap) (defBody s_is_leap) (defScope s_is_leap) [] [] (He.ga K "is_leap") fd
  d_made_of : ∃ fd, FunD K "made_of" "made_of" (defArgs s_made_of) (defBody s_made_of) (defScope s_made_of) [] [] (He.ga K "made_of") fd
  d_is_a_calendar : ∃ fd, FunD K "is_a_calendar" "is_a_calendar" (defArgs s_is_a_calendar) (defBody s_is_a_calendar) (defScope s_is_a_calendar) [] [] (He.ga K "is_a_calendar") fd
  d_is_a_date : ∃ fd, FunD K "is_a_date" "is_a_date" (defArgs s_is_a_date) (defBody s_is_a_date) (defScope s_is_a_date) [] [] (He.ga K "is_a_date") fd
  d_need_calendar : ∃ fd, FunD K "need_calendar" "need_calendar" (defArgs s_need_calendar) (defBody s_need_calendar) (defScope s_need_calendar) [] [] (He.ga K "need_calendar") fd
  d_need_date : ∃ fd, FunD K "need_date" "need_date" (defArgs s_need_date) (defBody s_need_date) (defScope s_need_date) [] [] (He.ga K "need_date") fd
  d_last_place : ∃ fd, FunD K "last_place" "last_place" (defArgs s_last_place) (defBody s_last_place) (defScope s_last_place) [] [] (He.ga K "last_place") fd
  d_Years_days_in_cycle : ∃ fd, FunD K "days_in_cycle" "Years.days_in_cycle" (defArgs s_Years_days_in_cycle) (defBody s_Years_days_in_cycle) (defScope s_Years_days_in_cycle) [] [] (He.ma K (He.ga K "Years") "days_in_cycle") fd
  d_Years___init__ : ∃ fd, FunD K "__init__" "Years.__init__" (defArgs s_Years___init__) (defBody s_Years___init__) (defScope s_Years___init__) [] [] (He.ma K (He.ga K "Years") "__init__") fd
  d_cycle_days : ∃ fd, FunD K "cycle_days" "cycle_days" (defArgs s_cycle_days) (defBody s_cycle_days) (defScope s_cycle_days) [] [] (He.ga K "cycle_days") fd
  d_Years_start : ∃ fd, FunD K "start" "Years.start" (defArgs s_Years_start) (defBody s_Years_start) (defScope s_Years_start) [] [] (He.ma K (He.ga K "Years") "start") fd
  d_year_start : ∃ fd, FunD K "year_start" "year_start" (defArgs s_year_start) (defBody s_year_start) (defScope s_year_start) [] [] (He.ga K "year_start") fd
  d_Years_months : ∃ fd, FunD K "months" "Years.months" (defArgs s_Years_months) (defBody s_Years_months) (defScope s_Years_months) [] [] (He.ma K (He.ga K "Years") "months") fd
  d_Years_day_at : ∃ fd, FunD K "day_at" "Years.day_at" (defArgs s_Years_day_at) (defBody s_Years_day_at) (defScope s_Years_day_at) [] [] (He.ma K (He.ga K "Years") "day_at") fd
  d_day_of : ∃ fd, FunD K "day_of" "day_of" (defArgs s_day_of) (defBody s_day_of) (defScope s_day_of) [] [] (He.ga K "day_of") fd
  d_Years_year_at : ∃ fd, FunD K "year_at" "Years.year_at" (defArgs s_Years_year_at) (defBody s_Years_year_at) (defScope s_Years_year_at) [] [] (He.ma K (He.ga K "Years") "year_at") fd
  d_Years_date_at : ∃ fd, FunD K "date_at" "Years.date_at" (defArgs s_Years_date_at) (defBody s_Years_date_at) (defScope s_Years_date_at) [] [] (He.ma K (He.ga K "Years") "date_at") fd
  d_date_of : ∃ fd, FunD K "date_of" "date_of" (defArgs s_date_of) (defBody s_date_of) (defScope s_date_of) [] [] (He.ga K "date_of") fd
  d_weekday : ∃ fd, FunD K "weekday" "weekday" (defArgs s_weekday) (defBody s_weekday) (defScope s_weekday) [] [] (He.ga K "weekday") fd
  d_u_law_seed : ∃ fd, FunD K "_law_seed" "_law_seed" (defArgs s_u_law_seed) (defBody s_u_law_seed) (defScope s_u_law_seed) [] [] (He.ga K "_law_seed") fd
  d_u_law_any : ∃ fd, FunD K "_law_any" "_law_any" (defArgs s_u_law_any) (defBody s_u_law_any) (defScope s_u_law_any) [] [] (He.ga K "_law_any") fd
  d_u_law_one_of : ∃ fd, FunD K "_law_one_of" "_law_one_of" (defArgs s_u_law_one_of) (defBody s_u_law_one_of) (defScope s_u_law_one_of) [] [] (He.ga K "_law_one_of") fd
  d_u_law_far : ∃ fd, FunD K "_law_far" "_law_far" (defArgs s_u_law_far) (defBody s_u_law_far) (defScope s_u_law_far) [] [] (He.ga K "_law_far") fd
  d_u_law_named : ∃ fd, FunD K "_law_named" "_law_named" (defArgs s_u_law_named) (defBody s_u_law_named) (defScope s_u_law_named) [] [] (He.ga K "_law_named") fd
  d_u_law_made : ∃ fd, FunD K "_law_made" "_law_made" (defArgs s_u_law_made) (defBody s_u_law_made) (defScope s_u_law_made) [] [] (He.ga K "_law_made") fd
  d_u_law_year_lengths : ∃ fd, FunD K "_law_year_lengths" "_law_year_lengths" (defArgs s_u_law_year_lengths) (defBody s_u_law_year_lengths) (defScope s_u_law_year_lengths) [] [] (He.ga K "_law_year_lengths") fd
  d_u_law_kind_of : ∃ fd, FunD K "_law_kind_of" "_law_kind_of" (defArgs s_u_law_kind_of) (defBody s_u_law_kind_of) (defScope s_u_law_kind_of) [] [] (He.ga K "_law_kind_of") fd
  d_u_law_year_begin : ∃ fd, FunD K "_law_year_begin" "_law_year_begin" (defArgs s_u_law_year_begin) (defBody s_u_law_year_begin) (defScope s_u_law_year_begin) [] [] (He.ga K "_law_year_begin") fd
  d_u_law_date_of : ∃ fd, FunD K "_law_date_of" "_law_date_of" (defArgs s_u_law_date_of) (defBody s_u_law_date_of) (defScope s_u_law_date_of) [] [] (He.ga K "_law_date_of") fd
  d_u_law_drawn_made : ∃ fd, FunD K "_law_drawn_made" "_law_drawn_made" (defArgs s_u_law_drawn_made) (defBody s_u_law_drawn_made) (defScope s_u_law_drawn_made) [] [] (He.ga K "_law_drawn_made") fd
  d_u_law_drawn_calendar : ∃ fd, FunD K "_law_drawn_calendar" "_law_drawn_calendar" (defArgs s_u_law_drawn_calendar) (defBody s_u_law_drawn_calendar) (defScope s_u_law_drawn_calendar) [] [] (He.ga K "_law_drawn_calendar") fd
  d_u_law_leap : ∃ fd, FunD K "_law_leap" "_law_leap" (defArgs s_u_law_leap) (defBody s_u_law_leap) (defScope s_u_law_leap) [] [] (He.ga K "_law_leap") fd
  d_u_law_civil : ∃ fd, FunD K "_law_civil" "_law_civil" (defArgs s_u_law_civil) (defBody s_u_law_civil) (defScope s_u_law_civil) [] [] (He.ga K "_law_civil") fd
  d_u_law_next : ∃ fd, FunD K "_law_next" "_law_next" (defArgs s_u_law_next) (defBody s_u_law_next) (defScope s_u_law_next) [] [] (He.ga K "_law_next") fd
  d_u_law_ends_and_far : ∃ fd, FunD K "_law_ends_and_far" "_law_ends_and_far" (defArgs s_u_law_ends_and_far) (defBody s_u_law_ends_and_far) (defScope s_u_law_ends_and_far) [] [] (He.ga K "_law_ends_and_far") fd
  d_u_law_right : ∃ fd, FunD K "_law_right" "_law_right" (defArgs s_u_law_right) (defBody s_u_law_right) (defScope s_u_law_right) [] [] (He.ga K "_law_right") fd
  d_u_law_led_along : ∃ fd, FunD K "_law_led_along" "_law_led_along" (defArgs s_u_law_led_along) (defBody s_u_law_led_along) (defScope s_u_law_led_along) [] [] (He.ga K "_law_led_along") fd
  d_law : ∃ fd, FunD K "law" "law" (defArgs s_law) (defBody s_law) (defScope s_law) [] [] (He.ga K "law") fd
  k_Years : Cls K (He.ga K "Years")
  mk_Years : Mk K (He.ga K "Years") (He.ma K (He.ga K "Years") "__init__")
  na_Years_base : NoAttr K (He.ga K "Years") "base"
  na_Years_cycle : NoAttr K (He.ga K "Years") "cycle"
  na_Years_epoch : NoAttr K (He.ga K "Years") "epoch"
  na_Years_rows : NoAttr K (He.ga K "Years") "rows"
  na_Years_starts : NoAttr K (He.ga K "Years") "starts"
  me_Years_days_in_cycle : Meth K (He.ga K "Years") "days_in_cycle" (He.ma K (He.ga K "Years") "days_in_cycle")
  me_Years_start : Meth K (He.ga K "Years") "start" (He.ma K (He.ga K "Years") "start")
  me_Years_months : Meth K (He.ga K "Years") "months" (He.ma K (He.ga K "Years") "months")
  me_Years_day_at : Meth K (He.ga K "Years") "day_at" (He.ma K (He.ga K "Years") "day_at")
  me_Years_year_at : Meth K (He.ga K "Years") "year_at" (He.ma K (He.ga K "Years") "year_at")
  me_Years_date_at : Meth K (He.ga K "Years") "date_at" (He.ma K (He.ga K "Years") "date_at")
  day : ∀ C ∈ excN, PySem.DayX.Txt P K mg (He.ga K C) (He.ga K "DayError") (He.ma K (He.ga K "DayError") "__init__")
  ty_DayError : TyOk K (.o tb_DayError) (.ref (He.ga K "DayError")) (.ref (He.ga K "DayError"))
  ex_DayError : ∀ C b, tb_DayError.lookup C = some b → PySem.W.exmOne K (.ref (He.ga K C)) (.ref (He.ga K "DayError")) = some b
  ty_InvalidCalendar : TyOk K (.o tb_InvalidCalendar) (.ref (He.ga K "InvalidCalendar")) (.ref (He.ga K "InvalidCalendar"))
  ex_InvalidCalendar : ∀ C b, tb_InvalidCalendar.lookup C = some b → PySem.W.exmOne K (.ref (He.ga K C)) (.ref (He.ga K "InvalidCalendar")) = some b
  ty_InvalidDate : TyOk K (.o tb_InvalidDate) (.ref (He.ga K "InvalidDate")) (.ref (He.ga K "InvalidDate"))
  ex_InvalidDate : ∀ C b, tb_InvalidDate.lookup C = some b → PySem.W.exmOne K (.ref (He.ga K C)) (.ref (He.ga K "InvalidDate")) = some b
noncomputable def b_is_integer : M Fl := (sRet (thaw (cAnd (cIs (.b "int") (cVar 0)) (cNot (cIs (.b "bool") (cVar 0))))))
noncomputable def m_is_integer : List D → RF := runV 1 1 b_is_integer
noncomputable def b_is_between : M Fl := (sRet (thaw (cAnd (frz (cFn m_is_integer (aCons (cVar 0) aNil))) (cChain D.le D.le (cVar 1) (cVar 0) (cVar 2)))))
noncomputable def m_is_between : List D → RF := runV 3 3 b_is_between
noncomputable def b_is_tuple : M Fl := (sRet (thaw (cAnd (cIs (.b "tuple") (cVar 0)) (cChain D.le D.le (cVar 1) (cLenV 0) (cVar 2)))))
noncomputable def m_is_tuple : List D → RF := runV 3 3 b_is_tuple
noncomputable def b_is_leap : M Fl := (sRet (thaw (cAnd (cOp D.eq (cOp D.mod (cVar 0) (cC (.int 4))) (cC (.int 0))) (cOr (cOp D.ne (cOp D.mod (cVar 0) (cC (.int 100))) (cC (.int 0))) (cOp D.eq (cOp D.mod (cVar 0) (cC (.int 400))) (cC (.int 0)))))))
noncomputable def m_is_leap : List D → RF := runV 1 1 b_is_leap
noncomputable def e_made_of_0 : M D := (cCall opInt (aCons (frz (cFn m_is_leap (aCons (cVar 1) aNil))) aNil))
noncomputable def e_made_of_1 : M D := (cCall opInt (aCons (cOp D.inE (cVar 1) (cC c_LONGER_YEARS)) aNil))
noncomputable def b_made_of : M Fl := (sSeq (sIf (asB (cOp D.eq (cVar 0) (cC (.str "gregorian")))) (sRet (thaw (cTup (aCons (cC (.int 0)) (aCons (cC (.int 2000)) (aCons (cTup (aCons (cC c_COMMON) (aCons (cC c_LEAP) aNil))) (aCons (cCall opTuple (aCons (frz (cLc [1] (cSpan D.span2 (aCons (cC (.int 2000)) (aCons (cC (.int 2400)) aNil))) (gNm 1) tTrue e_made_of_0)) aNil)) aNil))))))) sNext) (sSeq (sIf (asB (cOp D.eq (cVar 0) (cC (.str "julian")))) (sRet (thaw (cC c_JULIAN))) sNext) (sSeq (sIf (asB (cOp D.eq (cVar 0) (cC (.str "islamic")))) (sRet (thaw (cTup (aCons (cUn D.neg (cC (.int 503105))) (aCons (cC (.int 1)) (aCons (cTup (aCons (cC c_PLAIN) (aCons (cC c_LONGER) aNil))) (aCons (cCall opTuple (aCons (frz (cLc [1] (cSpan D.span2 (aCons (cC (.int 1)) (aCons (cC (.int 31)) aNil))) (gNm 1) tTrue e_made_of_1)) aNil)) aNil))))))) sNext) (sSeq (sIf (asB (cOp D.eq (cVar 0) (cC (.str "coptic")))) (sRet (thaw (cC c_COPTIC))) sNext) (sRet (cMove 0))))))
noncomputable def m_made_of : List D → RF := runV 2 1 b_made_of
noncomputable def e_is_a_calendar_0 : M D := (frz (cFn m_is_between (aCons (cVar 4) (aCons (cC (.int 1)) (aCons (cC (.int 50)) aNil)))))
noncomputable def l_is_a_calendar_1 : M Fl := (sIf (tOr (tNot (asB (frz (cFn m_is_tuple (aCons (cVar 3) (aCons (cC (.int 1)) (aCons (cC (.int 20)) aNil))))))) (tNot (asB (cCall opAll (aCons (frz (cLc [4] (cItems (cVar 3)) (gNm 4) tTrue e_is_a_calendar_0)) aNil))))) (sRet (thaw (cC (.bl false)))) sNext)
noncomputable def e_is_a_calendar_2 : M D := (frz (cFn m_is_between (aCons (cVar 5) (aCons (cC (.int 0)) (aCons (cOp D.sub (cLenV 1) (cC (.int 1))) aNil)))))
noncomputable def b_is_a_calendar : M Fl := (sSeq (sIf (asB (cIs (.b "str") (cVar 0))) (sRet (thaw (cOp D.inE (cVar 0) (cC c_NAMES)))) sNext) (sSeq (sIf (tOr (tNot (asB (frz (cFn m_is_tuple (aCons (cVar 0) (aCons (cC (.int 4)) (aCons (cC (.int 4)) aNil))))))) (tOr (tNot (asB (frz (cFn m_is_between (aCons (cIxV 0 (cC (.int 0))) (aCons (cUn D.neg (cC c_MOST)) (aCons (cC c_MOST) aNil))))))) (tNot (asB (frz (cFn m_is_between (aCons (cIxV 0 (cC (.int 1))) (aCons (cUn D.neg (cC c_MOST)) (aCons (cC c_MOST) aNil))))))))) (sRet (thaw (cC (.bl false)))) sNext) (sSeq (sAsg (cTup (aCons (cIxV 0 (cC (.int 2))) (aCons (cIxV 0 (cC (.int 3))) aNil))) (gTp (gMore (gNm 1) (gMore (gNm 2) gNone)))) (sSeq (sIf (tOr (tNot (asB (frz (cFn m_is_tuple (aCons (cVar 1) (aCons (cC (.int 1)) (aCons (cC (.int 12)) aNil))))))) (tNot (asB (frz (cFn m_is_tuple (aCons (cVar 2) (aCons (cC (.int 1)) (aCons (cC (.int 500)) aNil)))))))) (sRet (thaw (cC (.bl false)))) sNext) (sSeq (sFor (cItems (cVar 1)) (gNm 3) l_is_a_calendar_1) (sRet (thaw (cCall opAll (aCons (frz (cLc [5] (cItems (cVar 2)) (gNm 5) tTrue e_is_a_calendar_2)) aNil)))))))))
noncomputable def m_is_a_calendar : List D → RF := runV 6 1 b_is_a_calendar
noncomputable def e_is_a_date_0 : M D := (frz (cFn m_is_integer (aCons (cVar 2) aNil)))
noncomputable def b_is_a_date : M Fl := (sSeq (sIf (tOr (tNot (asB (frz (cFn m_is_tuple (aCons (cVar 1) (aCons (cC (.int 3)) (aCons (cC (.int 3)) aNil))))))) (tNot (asB (cCall opAll (aCons (frz (cLc [2] (cItems (cVar 1)) (gNm 2) tTrue e_is_a_date_0)) aNil))))) (sRet (thaw (cC (.bl false)))) sNext) (sSeq (sAsg (cOp D.ixI (cIxV 0 (cC (.int 2))) (cOp D.ixI (cIxV 0 (cC (.int 3))) (cOp D.mod (cOp D.sub (cIxV 1 (cC (.int 0))) (cIxV 0 (cC (.int 1)))) (cCall opLen (aCons (cIxV 0 (cC (.int 3))) aNil))))) (gNm 3)) (sRet (thaw (cAnd (cChain D.le D.le (cC (.int 1)) (cIxV 1 (cC (.int 1))) (cLenV 3)) (cChain D.le D.le (cC (.int 1)) (cIxV 1 (cC (.int 2))) (cIxV 3 (cOp D.sub (cIxV 1 (cC (.int 1))) (cC (.int 1))))))))))
noncomputable def m_is_a_date : List D → RF := runV 4 2 b_is_a_date
noncomputable def b_need_calendar : M Fl := (sSeq (sIf (tNot (asB (frz (cFn m_is_a_calendar (aCons (cVar 0) aNil))))) cBad sNext) (sRet (cFn m_made_of (aCons (cVar 0) aNil))))
noncomputable def m_need_calendar : List D → RF := runV 1 1 b_need_calendar
noncomputable def b_need_date : M Fl := (sIf (tNot (asB (frz (cFn m_is_a_date (aCons (cVar 0) (aCons (cVar 1) aNil)))))) cBad sNext)
noncomputable def m_need_date : List D → RF := runV 2 2 b_need_date
noncomputable def t_last_place_0 : M Bool := (asB (cOp D.gt (cOp D.sub (cVar 3) (cVar 2)) (cC (.int 1))))
noncomputable def l_last_place_1 : M Fl := (sSeq (sAsg (cOp D.div (cOp D.addE (cVar 2) (cVar 3)) (cC (.int 2))) (gNm 4)) (sIf (asB (cOp D.le (cIxV 0 (cVar 4)) (cVar 1))) (sSet 2 (cMove 4)) (sSet 3 (cMove 4))))
noncomputable def b_last_place : M Fl := (sSeq (sPar 2 3 (aCons (cC (.int 0)) (aCons (cOp D.sub (cLenV 0) (cC (.int 1))) aNil))) (sSeq (sWhile t_last_place_0 l_last_place_1) (sRet (cMove 2))))
noncomputable def m_last_place : List D → RF := runV 5 2 b_last_place
noncomputable def b_Years_days_in_cycle : M Fl := (sRet (thaw (cOp D.ixI (cFld "Years" "starts" (cVar 0)) (cUn D.neg (cC (.int 1))))))
noncomputable def m_Years_days_in_cycle : List D → RF := runV 1 1 b_Years_days_in_cycle
noncomputable def l_Years___init___0 : MN := (nSeq (nApp "Years" "starts" (cOp D.addE (cOp D.ixI (cFld "Years" "starts" (cVar 0)) (cUn D.neg (cC (.int 1)))) (cCall opSum (aCons (cVar 3) aNil)))) (nApp "Years" "rows" (cOp D.addE (cOp D.ixI (cFld "Years" "rows" (cVar 0)) (cUn D.neg (cC (.int 1)))) (cLenV 3))))
noncomputable def e_Years___init___1 : M D := (cOp D.ixI (cIxV 1 (cC (.int 2))) (cVar 2))
noncomputable def b_Years___init__ : MN := (nSeq (nSet "Years" "epoch" false (thaw (cIxV 1 (cC (.int 0))))) (nSeq (nSet "Years" "base" false (thaw (cIxV 1 (cC (.int 1))))) (nSeq (nSet "Years" "cycle" true (cLc [2] (cItems (cIxV 1 (cC (.int 3)))) (gNm 2) tTrue e_Years___init___1)) (nSeq (nSet "Years" "starts" false (cLst (aCons (cC (.int 0)) aNil))) (nSeq (nSet "Years" "rows" false (cLst (aCons (cC (.int 0)) aNil))) (nFor "cycle" 3 l_Years___init___0))))))
noncomputable def m_Years___init__ : List D → Option (List (Str × D)) := runN 4 2 b_Years___init__
noncomputable def b_cycle_days : M Fl := (sRet (cMeth "Years" "days_in_cycle" m_Years_days_in_cycle (cNew "Years" m_Years___init__ (aCons (frz (cFn m_need_calendar (aCons (cVar 0) aNil))) aNil)) aNil))
noncomputable def m_cycle_days : List D → RF := runV 1 1 b_cycle_days
noncomputable def b_Years_start : M Fl := (sSeq (sAsg (cCall opDivmod (aCons (cOp D.sub (cVar 1) (cFld "Years" "base" (cVar 0))) (aCons (cCall opLen (aCons (cFld "Years" "cycle" (cVar 0)) aNil)) aNil))) (gTp (gMore (gNm 2) (gMore (gNm 3) gNone)))) (sRet (thaw (cOp D.addE (cOp D.addE (cFld "Years" "epoch" (cVar 0)) (cOp D.mul (cVar 2) (frz (cMeth "Years" "days_in_cycle" m_Years_days_in_cycle (cVar 0) aNil)))) (cOp D.ixI (cFld "Years" "starts" (cVar 0)) (cVar 3))))))
noncomputable def m_Years_start : List D → RF := runV 4 2 b_Years_start
noncomputable def b_year_start : M Fl := (sRet (cMeth "Years" "start" m_Years_start (cNew "Years" m_Years___init__ (aCons (frz (cFn m_need_calendar (aCons (cVar 0) aNil))) aNil)) (aCons (cVar 1) aNil)))
noncomputable def m_year_start : List D → RF := runV 2 2 b_year_start
noncomputable def b_Years_months : M Fl := (sRet (thaw (cOp D.ixI (cFld "Years" "cycle" (cVar 0)) (cOp D.mod (cOp D.sub (cVar 1) (cFld "Years" "base" (cVar 0))) (cCall opLen (aCons (cFld "Years" "cycle" (cVar 0)) aNil))))))
noncomputable def m_Years_months : List D → RF := runV 2 2 b_Years_months
noncomputable def b_Years_day_at : M Fl := (sRet (thaw (cOp D.sub (cOp D.addE (cOp D.addE (frz (cMeth "Years" "start" m_Years_start (cVar 0) (aCons (cIxV 1 (cC (.int 0))) aNil))) (cCall opSum (aCons (frz (cSl (frz (cMeth "Years" "months" m_Years_months (cVar 0) (aCons (cIxV 1 (cC (.int 0))) aNil))) oNone (oSome (cOp D.sub (cIxV 1 (cC (.int 1))) (cC (.int 1)))))) aNil))) (cIxV 1 (cC (.int 2)))) (cC (.int 1)))))
noncomputable def m_Years_day_at : List D → RF := runV 2 2 b_Years_day_at
noncomputable def b_day_of : M Fl := (sSeq (sSet 2 (cFn m_need_calendar (aCons (cVar 0) aNil))) (sSeq (sDrop (frz (cFn m_need_date (aCons (cVar 2) (aCons (cVar 1) aNil))))) (sRet (cMeth "Years" "day_at" m_Years_day_at (cNew "Years" m_Years___init__ (aCons (cVar 2) aNil)) (aCons (cVar 1) aNil)))))
noncomputable def m_day_of : List D → RF := runV 3 2 b_day_of
noncomputable def b_Years_year_at : M Fl := (sSeq (sAsg (cCall opDivmod (aCons (cOp D.sub (cVar 1) (cFld "Years" "epoch" (cVar 0))) (aCons (frz (cMeth "Years" "days_in_cycle" m_Years_days_in_cycle (cVar 0) aNil)) aNil))) (gTp (gMore (gNm 2) (gMore (gNm 3) gNone)))) (sSeq (sSet 4 (cFn m_last_place (aCons (cFld "Years" "starts" (cVar 0)) (aCons (cVar 3) aNil)))) (sRet (thaw (cTup (aCons (cOp D.addE (cOp D.addE (cFld "Years" "base" (cVar 0)) (cOp D.mul (cVar 2) (cCall opLen (aCons (cFld "Years" "cycle" (cVar 0)) aNil)))) (cVar 4)) (aCons (cOp D.sub (cVar 3) (cOp D.ixI (cFld "Years" "starts" (cVar 0)) (cVar 4))) aNil)))))))
noncomputable def m_Years_year_at : List D → RF := runV 5 2 b_Years_year_at
noncomputable def l_Years_date_at_0 : M Fl := (sSeq (sIf (asB (cOp D.ltE (cVar 3) (cVar 5))) (sRet (thaw (cTup (aCons (cVar 2) (aCons (cVar 4) (aCons (cOp D.addE (cVar 3) (cC (.int 1))) aNil)))))) sNext) (sSeq (sAug 3 D.sub (cVar 5)) (sAug 4 D.addI (cC (.int 1)))))
noncomputable def b_Years_date_at : M Fl := (sSeq (sAsg (frz (cMeth "Years" "year_at" m_Years_year_at (cVar 0) (aCons (cVar 1) aNil))) (gTp (gMore (gNm 2) (gMore (gNm 3) gNone)))) (sSeq (sAsg (cC (.int 1)) (gNm 4)) (sSeq (sFor (cItems (frz (cMeth "Years" "months" m_Years_months (cVar 0) (aCons (cVar 2) aNil)))) (gNm 5) l_Years_date_at_0) (sRet (thaw (cTup (aCons (cVar 2) (aCons (cVar 4) (aCons (cOp D.addE (cVar 3) (cC (.int 1))) aNil)))))))))
noncomputable def m_Years_date_at : List D → RF := runV 6 2 b_Years_date_at
noncomputable def b_date_of : M Fl := (sRet (cMeth "Years" "date_at" m_Years_date_at (cNew "Years" m_Years___init__ (aCons (frz (cFn m_need_calendar (aCons (cVar 0) aNil))) aNil)) (aCons (cVar 1) aNil)))
noncomputable def m_date_of : List D → RF := runV 2 2 b_date_of
noncomputable def b_weekday : M Fl := (sRet (thaw (cOp D.mod (cOp D.addE (cVar 0) (cC (.int 5))) (cC c_WEEK))))
noncomputable def m_weekday : List D → RF := runV 1 1 b_weekday
noncomputable def b_u_law_seed : M Fl := (sRet (cLst (aCons (cCall opTuple (aCons (cVar 0) aNil)) (aCons (cC (.int 0)) (aCons (cC (.int 0)) aNil)))))
noncomputable def m_u_law_seed : List D → RF := runV 1 1 b_u_law_seed
noncomputable def b_u_law_any : M Fl := (sSeq (sIf (asB (cOp D.ltE (cVar 1) (cC (.int 2)))) (sRet (thaw (cC (.int 0)))) sNext) (sSeq (sIf (asB (cOp D.gt (cIxV 0 (cC (.int 2))) (cC (.int 0)))) (sSeq (sAsg (cTup (aCons (cOp D.mod (cCall opInt (aCons (cIxV 0 (cC (.int 2))) aNil)) (cVar 1)) (aCons (cOp D.div (cIxV 0 (cC (.int 2))) (cVar 1)) aNil))) (gTp (gMore (gNm 2) (gMore (gSb 0 (cC (.int 2))) gNone)))) (sRet (cMove 2))) sNext) (sSeq (sAsg (cOp D.addE (cIxV 0 (cC (.int 1))) (cC (.int 1))) (gSb 0 (cC (.int 1)))) (sSeq (sAsg (cIxV 0 (cC (.int 1))) (gNm 3)) (sSeq (sSet 4 (cIf (asB (cOp D.gt (cCall opLen (aCons (cIxV 0 (cC (.int 0))) aNil)) (cC (.int 0)))) (thaw (cOp D.ixI (cIxV 0 (cC (.int 0))) (cOp D.mod (cCall opInt (aCons (cOp D.sub (cVar 3) (cC (.int 1))) aNil)) (cCall opLen (aCons (cIxV 0 (cC (.int 0))) aNil))))) (thaw (cC (.int 0))))) (sSeq (sIf (tAnd (asB (cOp D.le (cVar 3) (cCall opLen (aCons (cIxV 0 (cC (.int 0))) aNil)))) (asB (cOp D.ge (cVar 4) (cOp D.pow (cC (.int 10)) (cC (.int 18)))))) (sSeq (sAsg (cOp D.div (cVar 4) (cVar 1)) (gSb 0 (cC (.int 2)))) (sRet (thaw (cOp D.mod (cCall opInt (aCons (cVar 4) aNil)) (cVar 1))))) sNext) (sSeq (sAsg (cOp D.mod (cCall opInt (aCons (cOp D.mul (cOp D.addE (cOp D.mod (cCall opInt (aCons (cVar 4) aNil)) (cC (.int 999999937))) (cOp D.mul (cC (.int 101)) (cVar 3))) (cC (.int 630360016))) aNil)) (cC (.int 2147483647))) (gNm 5)) (sSeq (sAsg (cOp D.mod (cCall opInt (aCons (cOp D.addE (cOp D.mul (cVar 5) (cVar 5)) (cOp D.mul (cVar 3) (cC (.int 62089911)))) aNil)) (cC (.int 2147483629))) (gNm 5)) (sSeq (sAsg (cOp D.mod (cCall opInt (aCons (cOp D.mul (cOp D.addE (cVar 5) (cVar 3)) (cOp D.addE (cOp D.addE (cVar 5) (cOp D.mul (cC (.int 3)) (cVar 3))) (cC (.int 1)))) aNil)) (cC (.int 999999937))) (gNm 5)) (sRet (thaw (cOp D.mod (cCall opInt (aCons (cOp D.div (cVar 5) (cC (.int 8))) aNil)) (cVar 1)))))))))))))
noncomputable def m_u_law_any : List D → List D → RF := runIO2 6 2 b_u_law_any
noncomputable def b_u_law_one_of : M Fl := (sRet (thaw (cIxV 1 (frz (cFnIO 0 m_u_law_any (aCons (cLenV 1) aNil))))))
noncomputable def m_u_law_one_of : List D → List D → RF := runIO2 2 2 b_u_law_one_of
noncomputable def b_u_law_far : M Fl := (sSeq (sPar 1 2 (aCons (cOp D.sub (cC (.int 1)) (cOp D.mul (cC (.int 2)) (frz (cFnIO 0 m_u_law_any (aCons (cC (.int 2)) aNil))))) (aCons (frz (cLst (aCons (frz (cFnIO 0 m_u_law_any (aCons (cC (.int 400)) aNil))) (aCons (cOp D.sub (cC (.int 250000)) (frz (cFnIO 0 m_u_law_any (aCons (cC (.int 500)) aNil)))) (aCons (cOp D.addE (cOp D.pow (cC (.int 10)) (cC (.int 9))) (frz (cFnIO 0 m_u_law_any (aCons (cC (.int 99999)) aNil)))) aNil))))) aNil))) (sSeq (sAsg (cOp D.addE (cVar 2) (frz (cLst (aCons (cOp D.sub (cOp D.pow (cC (.int 10)) (cC (.int 29))) (frz (cFnIO 0 m_u_law_any (aCons (cC (.int 99999)) aNil)))) (aCons (cOp D.addE (cC (.int 123456789012345678901)) (frz (cFnIO 0 m_u_law_any (aCons (cC (.int 9999)) aNil)))) aNil))))) (gNm 2)) (sRet (thaw (cOp D.mul (cVar 1) (cIxV 2 (frz (cFnIO 0 m_u_law_any (aCons (cC (.int 5)) aNil)))))))))
noncomputable def m_u_law_far : List D → List D → RF := runIO2 3 1 b_u_law_far
noncomputable def e_u_law_named_0 : M D := (cCall opInt (aCons (cAnd (cOp D.eq (cOp D.mod (cCall opInt (aCons (cVar 3) aNil)) (cC (.int 4))) (cC (.int 0))) (cOr (cOp D.gt (cOp D.mod (cCall opInt (aCons (cVar 3) aNil)) (cC (.int 100))) (cC (.int 0))) (cOp D.eq (cOp D.mod (cCall opInt (aCons (cVar 3) aNil)) (cC (.int 400))) (cC (.int 0))))) aNil))
noncomputable def e_u_law_named_1 : M D := (cCall opInt (aCons (cOp D.inE (cVar 3) (cTup (aCons (cC (.int 2)) (aCons (cC (.int 5)) (aCons (cC (.int 7)) (aCons (cC (.int 10)) (aCons (cC (.int 13)) (aCons (cC (.int 16)) (aCons (cC (.int 18)) (aCons (cC (.int 21)) (aCons (cC (.int 24)) (aCons (cC (.int 26)) (aCons (cC (.int 29)) aNil))))))))))))) aNil))
noncomputable def b_u_law_named : M Fl := (sSeq (sAsg (cTup (aCons (cTup (aCons (cC (.int 31)) (aCons (cC (.int 28)) (aCons (cC (.int 31)) (aCons (cC (.int 30)) (aCons (cC (.int 31)) (aCons (cC (.int 30)) (aCons (cC (.int 31)) (aCons (cC (.int 31)) (aCons (cC (.int 30)) (aCons (cC (.int 31)) (aCons (cC (.int 30)) (aCons (cC (.int 31)) aNil))))))))))))) (aCons (cTup (aCons (cC (.int 31)) (aCons (cC (.int 29)) (aCons (cC (.int 31)) (aCons (cC (.int 30)) (aCons (cC (.int 31)) (aCons (cC (.int 30)) (aCons (cC (.int 31)) (aCons (cC (.int 31)) (aCons (cC (.int 30)) (aCons (cC (.int 31)) (aCons (cC (.int 30)) (aCons (cC (.int 31)) aNil))))))))))))) aNil))) (gTp (gMore (gNm 1) (gMore (gNm 2) gNone)))) (sSeq (sIf (asB (cOp D.eq (cVar 0) (cC (.str "gregorian")))) (sRet (thaw (cTup (aCons (cC (.int 0)) (aCons (cC (.int 2000)) (aCons (cTup (aCons (cVar 1) (aCons (cVar 2) aNil))) (aCons (cCall opTuple (aCons (frz (cLc [3] (cSpan D.span1 (aCons (cC (.int 400)) aNil)) (gNm 3) tTrue e_u_law_named_0)) aNil)) aNil))))))) sNext) (sSeq (sIf (asB (cOp D.eq (cVar 0) (cC (.str "julian")))) (sRet (thaw (cTup (aCons (cC (.int 13)) (aCons (cC (.int 2000)) (aCons (cTup (aCons (cVar 1) (aCons (cVar 2) aNil))) (aCons (cTup (aCons (cC (.int 1)) (aCons (cC (.int 0)) (aCons (cC (.int 0)) (aCons (cC (.int 0)) aNil))))) aNil))))))) sNext) (sSeq (sIf (asB (cOp D.eq (cVar 0) (cC (.str "islamic")))) (sRet (thaw (cTup (aCons (cUn D.neg (cC (.int 503105))) (aCons (cC (.int 1)) (aCons (cTup (aCons (cOp D.mul (cTup (aCons (cC (.int 30)) (aCons (cC (.int 29)) aNil))) (cC (.int 6))) (aCons (cOp D.addE (cOp D.mul (cTup (aCons (cC (.int 30)) (aCons (cC (.int 29)) aNil))) (cC (.int 5))) (cTup (aCons (cC (.int 30)) (aCons (cC (.int 30)) aNil)))) aNil))) (aCons (cCall opTuple (aCons (frz (cLc [3] (cSpan D.span2 (aCons (cC (.int 1)) (aCons (cC (.int 31)) aNil))) (gNm 3) tTrue e_u_law_named_1)) aNil)) aNil))))))) sNext) (sRet (thaw (cTup (aCons (cUn D.neg (cC (.int 626515))) (aCons (cC (.int 1)) (aCons (cTup (aCons (cOp D.addE (cOp D.mul (cTup (aCons (cC (.int 30)) aNil)) (cC (.int 12))) (cTup (aCons (cC (.int 5)) aNil))) (aCons (cOp D.addE (cOp D.mul (cTup (aCons (cC (.int 30)) aNil)) (cC (.int 12))) (cTup (aCons (cC (.int 6)) aNil))) aNil))) (aCons (cTup (aCons (cC (.int 0)) (aCons (cC (.int 0)) (aCons (cC (.int 1)) (aCons (cC (.int 0)) aNil))))) aNil)))))))))))
noncomputable def m_u_law_named : List D → RF := runV 4 1 b_u_law_named
noncomputable def b_u_law_made : M Fl := (sRet (cIf (asB (cIs (.b "str") (cVar 0))) (cFn m_u_law_named (aCons (cVar 0) aNil)) (cMove 0)))
noncomputable def m_u_law_made : List D → RF := runV 1 1 b_u_law_made
noncomputable def e_u_law_year_lengths_0 : M D := (cCall opSum (aCons (cIxV 3 (cVar 5)) aNil))
noncomputable def b_u_law_year_lengths : M Fl := (sSeq (sAsg (frz (cFn m_u_law_made (aCons (cVar 0) aNil))) (gTp (gMore (gNm 1) (gMore (gNm 2) (gMore (gNm 3) (gMore (gNm 4) gNone)))))) (sRet (cLc [5] (cItems (cVar 4)) (gNm 5) tTrue e_u_law_year_lengths_0)))
noncomputable def m_u_law_year_lengths : List D → RF := runV 6 1 b_u_law_year_lengths
noncomputable def b_u_law_kind_of : M Fl := (sSeq (sAsg (frz (cFn m_u_law_made (aCons (cVar 0) aNil))) (gTp (gMore (gNm 2) (gMore (gNm 3) (gMore (gNm 4) (gMore (gNm 5) gNone)))))) (sRet (thaw (cIxV 4 (cIxV 5 (cOp D.mod (cCall opInt (aCons (cOp D.sub (cVar 1) (cVar 3)) aNil)) (cLenV 5)))))))
noncomputable def m_u_law_kind_of : List D → RF := runV 6 2 b_u_law_kind_of
noncomputable def b_u_law_year_begin : M Fl := (sSeq (sAsg (frz (cFn m_u_law_made (aCons (cVar 0) aNil))) (gTp (gMore (gNm 2) (gMore (gNm 3) (gMore (gNm 4) (gMore (gNm 5) gNone)))))) (sSeq (sPar 6 7 (aCons (frz (cFn m_u_law_year_lengths (aCons (cVar 0) aNil))) (aCons (cOp D.div (cOp D.sub (cVar 1) (cVar 3)) (cLenV 5)) aNil))) (sRet (thaw (cOp D.addE (cOp D.addE (cVar 2) (cOp D.mul (cVar 7) (cCall opSum (aCons (cVar 6) aNil)))) (cCall opSum (aCons (frz (cSl (cVar 6) oNone (oSome (cOp D.sub (cOp D.sub (cVar 1) (cVar 3)) (cOp D.mul (cVar 7) (cLenV 5)))))) aNil)))))))
noncomputable def m_u_law_year_begin : List D → RF := runV 8 2 b_u_law_year_begin
noncomputable def l_u_law_date_of_0 : M Fl := (sSeq (sIf (asB (cOp D.ltE (cVar 8) (cVar 10))) sBrk sNext) (sPar 8 9 (aCons (cOp D.sub (cVar 8) (cVar 10)) (aCons (cOp D.addE (cVar 9) (cC (.int 1))) aNil))))
noncomputable def l_u_law_date_of_1 : M Fl := (sSeq (sIf (asB (cOp D.ltE (cVar 8) (cIxV 11 (cOp D.sub (cVar 12) (cC (.int 1)))))) (sRet (thaw (cTup (aCons (cVar 9) (aCons (cVar 12) (aCons (cOp D.addE (cVar 8) (cC (.int 1))) aNil)))))) sNext) (sAsg (cOp D.sub (cVar 8) (cIxV 11 (cOp D.sub (cVar 12) (cC (.int 1))))) (gNm 8)))
noncomputable def b_u_law_date_of : M Fl := (sSeq (sAsg (frz (cFn m_u_law_made (aCons (cVar 0) aNil))) (gTp (gMore (gNm 2) (gMore (gNm 3) (gMore (gNm 4) (gMore (gNm 5) gNone)))))) (sSeq (sSet 6 (cFn m_u_law_year_lengths (aCons (cVar 0) aNil))) (sSeq (sAsg (cOp D.div (cOp D.sub (cVar 1) (cVar 2)) (cCall opSum (aCons (cVar 6) aNil))) (gNm 7)) (sSeq (sPar 8 9 (aCons (cOp D.sub (cOp D.sub (cVar 1) (cVar 2)) (cOp D.mul (cVar 7) (cCall opSum (aCons (cVar 6) aNil)))) (aCons (cOp D.addE (cVar 3) (cOp D.mul (cVar 7) (cLenV 5))) aNil))) (sSeq (sFor (cItems (cVar 6)) (gNm 10) l_u_law_date_of_0) (sSeq (sSet 11 (cFn m_u_law_kind_of (aCons (cVar 0) (aCons (cVar 9) aNil)))) (sSeq (sFor (cSpan D.span2 (aCons (cC (.int 1)) (aCons (cOp D.addE (cLenV 11) (cC (.int 1))) aNil))) (gNm 12) l_u_law_date_of_1) (sRet (thaw (cC .non))))))))))
noncomputable def m_u_law_date_of : List D → RF := runV 13 2 b_u_law_date_of
noncomputable def e_u_law_drawn_made_0 : M D := (cOp D.addE (cC (.int 1)) (frz (cFnIO 0 m_u_law_any (aCons (cOp D.ixI (frz (cLst (aCons (cC (.int 1)) (aCons (cC (.int 4)) (aCons (cC (.int 12)) (aCons (cC (.int 50)) aNil)))))) (frz (cFnIO 0 m_u_law_any (aCons (cC (.int 4)) aNil)))) aNil))))
noncomputable def l_u_law_drawn_made_1 : M Fl := (sApp 1 (cCall opTuple (aCons (frz (cLc [3] (cSpan D.span1 (aCons (cOp D.addE (cC (.int 1)) (frz (cFnIO 0 m_u_law_any (aCons (cC (.int 5)) aNil)))) aNil)) (gNm 3) tTrue e_u_law_drawn_made_0)) aNil)))
noncomputable def e_u_law_drawn_made_2 : M D := (frz (cFnIO 0 m_u_law_any (aCons (cLenV 1) aNil)))
noncomputable def b_u_law_drawn_made : M Fl := (sSeq (sSet 1 (cLst aNil)) (sSeq (sFor (cSpan D.span1 (aCons (cOp D.addE (cC (.int 1)) (frz (cFnIO 0 m_u_law_any (aCons (cC (.int 3)) aNil)))) aNil)) (gNm 2) l_u_law_drawn_made_1) (sSeq (sIf (asB (cOp D.eq (frz (cFnIO 0 m_u_law_any (aCons (cC (.int 4)) aNil))) (cC (.int 0)))) (sApp 1 (cIxV 1 (cC (.int 0)))) sNext) (sSeq (sAsg (cCall opTuple (aCons (frz (cLc [2] (cSpan D.span1 (aCons (cOp D.addE (cC (.int 1)) (frz (cFnIO 0 m_u_law_any (aCons (cC (.int 7)) aNil)))) aNil)) (gNm 2) tTrue e_u_law_drawn_made_2)) aNil)) (gNm 4)) (sRet (thaw (cTup (aCons (frz (cFnIO 0 m_u_law_one_of (aCons (frz (cLst (aCons (cC (.int 0)) (aCons (cC (.int 3)) (aCons (cUn D.neg (cC (.int 17))) (aCons (cOp D.pow (cC (.int 10)) (cC (.int 12))) (aCons (cUn D.neg (cOp D.pow (cC (.int 10)) (cC (.int 12)))) (aCons (cC (.int 250000)) aNil)))))))) aNil))) (aCons (frz (cFnIO 0 m_u_law_one_of (aCons (frz (cLst (aCons (cC (.int 0)) (aCons (cC (.int 1)) (aCons (cC (.int 2000)) (aCons (cUn D.neg (cC (.int 5))) (aCons (cOp D.pow (cC (.int 10)) (cC (.int 12))) (aCons (cUn D.neg (cOp D.pow (cC (.int 10)) (cC (.int 12)))) aNil)))))))) aNil))) (aCons (cCall opTuple (aCons (cVar 1) aNil)) (aCons (cVar 4) aNil)))))))))))
noncomputable def m_u_law_drawn_made : List D → List D → RF := runIO2 5 1 b_u_law_drawn_made
noncomputable def b_u_law_drawn_calendar : M Fl := (sRet (cIf (asB (cOp D.eq (frz (cFnIO 0 m_u_law_any (aCons (cC (.int 2)) aNil))) (cC (.int 0)))) (cFnIO 0 m_u_law_one_of (aCons (frz (cLst (aCons (cC (.str "gregorian")) (aCons (cC (.str "julian")) (aCons (cC (.str "islamic")) (aCons (cC (.str "coptic")) aNil)))))) aNil)) (cFnIO 0 m_u_law_drawn_made aNil)))
noncomputable def m_u_law_drawn_calendar : List D → List D → RF := runIO2 1 1 b_u_law_drawn_calendar
noncomputable def b_u_law_leap : M Fl := (sSeq (sIf (asB (cOp D.eq (cVar 0) (cC (.str "julian")))) (sRet (thaw (cOp D.eq (cOp D.mod (cCall opInt (aCons (cVar 1) aNil)) (cC (.int 4))) (cC (.int 0))))) sNext) (sRet (thaw (cAnd (cOp D.eq (cOp D.mod (cCall opInt (aCons (cVar 1) aNil)) (cC (.int 4))) (cC (.int 0))) (cOr (cOp D.gt (cOp D.mod (cCall opInt (aCons (cVar 1) aNil)) (cC (.int 100))) (cC (.int 0))) (cOp D.eq (cOp D.mod (cCall opInt (aCons (cVar 1) aNil)) (cC (.int 400))) (cC (.int 0))))))))
noncomputable def m_u_law_leap : List D → RF := runV 2 2 b_u_law_leap
noncomputable def b_u_law_civil : M Fl := (sSeq (sAsg (cVar 1) (gTp (gMore (gNm 2) (gMore (gNm 3) (gMore (gNm 4) gNone))))) (sSeq (sIf (asB (cOp D.eq (cVar 0) (cC (.str "coptic")))) (sRet (thaw (cOp D.sub (cOp D.addE (cOp D.addE (cOp D.addE (cOp D.addE (cUn D.neg (cC (.int 626515))) (cOp D.mul (cC (.int 365)) (cOp D.sub (cVar 2) (cC (.int 1))))) (cOp D.div (cVar 2) (cC (.int 4)))) (cOp D.mul (cC (.int 30)) (cOp D.sub (cVar 3) (cC (.int 1))))) (cVar 4)) (cC (.int 1))))) sNext) (sSeq (sIf (asB (cOp D.eq (cVar 0) (cC (.str "islamic")))) (sRet (thaw (cOp D.sub (cOp D.addE (cOp D.addE (cOp D.addE (cOp D.addE (cOp D.addE (cUn D.neg (cC (.int 503105))) (cOp D.mul (cC (.int 354)) (cOp D.sub (cVar 2) (cC (.int 1))))) (cOp D.div (cOp D.addE (cOp D.mul (cC (.int 11)) (cVar 2)) (cC (.int 3))) (cC (.int 30)))) (cOp D.mul (cC (.int 29)) (cOp D.sub (cVar 3) (cC (.int 1))))) (cOp D.div (cVar 3) (cC (.int 2)))) (cVar 4)) (cC (.int 1))))) sNext) (sSeq (sAsg (cCall opInt (aCons (cOp D.ltE (cVar 3) (cC (.int 3))) aNil)) (gNm 5)) (sSeq (sPar 6 7 (aCons (cOp D.sub (cVar 2) (cVar 5)) (aCons (cOp D.addE (cOp D.sub (cVar 3) (cC (.int 3))) (cOp D.mul (cC (.int 12)) (cVar 5))) aNil))) (sSeq (sAsg (cOp D.sub (cOp D.addE (cOp D.addE (cOp D.addE (cOp D.mul (cC (.int 365)) (cVar 6)) (cOp D.div (cVar 6) (cC (.int 4)))) (cOp D.div (cOp D.addE (cOp D.mul (cC (.int 153)) (cVar 7)) (cC (.int 2))) (cC (.int 5)))) (cVar 4)) (cC (.int 1))) (gNm 8)) (sRet (cIf (asB (cOp D.eq (cVar 0) (cC (.str "gregorian")))) (thaw (cOp D.sub (cOp D.addE (cOp D.sub (cVar 8) (cOp D.div (cVar 6) (cC (.int 100)))) (cOp D.div (cVar 6) (cC (.int 400)))) (cC (.int 730425)))) (thaw (cOp D.sub (cVar 8) (cC (.int 730427))))))))))))
noncomputable def m_u_law_civil : List D → RF := runV 9 2 b_u_law_civil
noncomputable def b_u_law_next : M Fl := (sSeq (sAsg (cVar 1) (gTp (gMore (gNm 2) (gMore (gNm 3) (gMore (gNm 4) gNone))))) (sSeq (sSet 5 (cFn m_u_law_kind_of (aCons (cVar 0) (aCons (cVar 2) aNil)))) (sSeq (sIf (asB (cOp D.ltE (cVar 4) (cIxV 5 (cOp D.sub (cVar 3) (cC (.int 1)))))) (sRet (thaw (cTup (aCons (cVar 2) (aCons (cVar 3) (aCons (cOp D.addE (cVar 4) (cC (.int 1))) aNil)))))) sNext) (sRet (cIf (asB (cOp D.ltE (cVar 3) (cLenV 5))) (thaw (cTup (aCons (cVar 2) (aCons (cOp D.addE (cVar 3) (cC (.int 1))) (aCons (cC (.int 1)) aNil))))) (thaw (cTup (aCons (cOp D.addE (cVar 2) (cC (.int 1))) (aCons (cC (.int 1)) (aCons (cC (.int 1)) aNil))))))))))
noncomputable def m_u_law_next : List D → RF := runV 6 2 b_u_law_next
noncomputable def e_u_law_ends_and_far_0 : M D := (cOp D.addE (frz (cFn m_u_law_year_begin (aCons (cVar 1) (aCons (cVar 2) aNil)))) (cVar 4))
noncomputable def b_u_law_ends_and_far : M Fl := (sSeq (sSet 2 (cFnIO 0 m_u_law_one_of (aCons (frz (cLst (aCons (cC (.int 2000)) (aCons (cC (.int 1900)) (aCons (cC (.int 2100)) (aCons (cC (.int 4)) (aCons (cC (.int 1)) (aCons (cC (.int 0)) (aCons (cUn D.neg (cC (.int 1))) (aCons (cUn D.neg (cC (.int 400))) (aCons (cC (.int 1582)) (aCons (cOp D.addE (cOp D.pow (cC (.int 10)) (cC (.int 20))) (cC (.int 7))) aNil)))))))))))) aNil))) (sSeq (sSet 3 (cLc [4] (cItems (cTup (aCons (cUn D.neg (cC (.int 1))) (aCons (cC (.int 0)) (aCons (cC (.int 58)) (aCons (cC (.int 59)) (aCons (cC (.int 60)) aNil))))))) (gNm 4) tTrue e_u_law_ends_and_far_0)) (sRet (thaw (cOp D.addE (cVar 3) (frz (cLst (aCons (frz (cFnIO 0 m_u_law_far aNil)) (aCons (frz (cFnIO 0 m_u_law_far aNil)) (aCons (cOp D.ixI (frz (cFn m_u_law_made (aCons (cVar 1) aNil))) (cC (.int 0))) (aCons (cOp D.sub (cOp D.ixI (frz (cFn m_u_law_made (aCons (cVar 1) aNil))) (cC (.int 0))) (cC (.int 1))) aNil)))))))))))
noncomputable def m_u_law_ends_and_far : List D → List D → RF := runIO2 5 2 b_u_law_ends_and_far
noncomputable def b_u_law_right : M Fl := (sSeq (sSet 2 (cFn m_date_of (aCons (cVar 0) (aCons (cVar 1) aNil)))) (sSeq (sIf (tOr (asB (cOp D.ne (cVar 2) (frz (cFn m_u_law_date_of (aCons (cVar 0) (aCons (cVar 1) aNil)))))) (tOr (asB (cOp D.ne (frz (cFnK 0 (["day", "calendar"] : List Str).length [1, 0] m_date_of aNil (aCons (cVar 1) (aCons (cVar 0) aNil)))) (cVar 2))) (tOr (asB (cOp D.ne (frz (cFn m_day_of (aCons (cVar 0) (aCons (cVar 2) aNil)))) (cVar 1))) (asB (cOp D.ne (frz (cFnK 0 (["date", "calendar"] : List Str).length [1, 0] m_day_of aNil (aCons (cVar 2) (aCons (cVar 0) aNil)))) (cVar 1)))))) (sRet (thaw (cC (.bl false)))) sNext) (sSeq (sSet 3 (cFn m_date_of (aCons (cVar 0) (aCons (cOp D.addE (cVar 1) (cC (.int 1))) aNil)))) (sSeq (sIf (tOr (asB (cOp D.ne (cVar 3) (frz (cFn m_u_law_next (aCons (cVar 0) (aCons (cVar 2) aNil)))))) (tNot (asB (cOp D.ltE (cVar 2) (cVar 3))))) (sRet (thaw (cC (.bl false)))) sNext) (sSeq (sPar 4 5 (aCons (frz (cFn m_cycle_days (aCons (cVar 0) aNil))) (aCons (cCall opLen (aCons (cOp D.ixI (frz (cFn m_u_law_made (aCons (cVar 0) aNil))) (cC (.int 3))) aNil)) aNil))) (sRet (thaw (cAnd (cOp D.eq (frz (cFn m_date_of (aCons (cVar 0) (aCons (cOp D.addE (cVar 1) (cVar 4)) aNil)))) (cOp D.addE (cTup (aCons (cOp D.addE (cIxV 2 (cC (.int 0))) (cVar 5)) aNil)) (frz (cSl (cVar 2) (oSome (cC (.int 1))) oNone)))) (cOp D.eq (frz (cFn m_date_of (aCons (cVar 0) (aCons (cOp D.sub (cVar 1) (cOp D.mul (cC (.int 3)) (cVar 4))) aNil)))) (cOp D.addE (cTup (aCons (cOp D.sub (cIxV 2 (cC (.int 0))) (cOp D.mul (cC (.int 3)) (cVar 5))) aNil)) (frz (cSl (cVar 2) (oSome (cC (.int 1))) oNone))))))))))))
noncomputable def m_u_law_right : List D → RF := runV 6 2 b_u_law_right
noncomputable def b_u_law_led_along : M Fl := (sSeq (sAsg (frz (cFn m_u_law_made (aCons (cVar 1) aNil))) (gTp (gMore (gNm 2) (gMore (gNm 3) (gMore (gNm 4) (gMore (gNm 5) gNone)))))) (sSeq (sPar 6 7 (aCons (frz (cFnIO 0 m_u_law_one_of (aCons (frz (cLst (aCons (cC (.int 1)) (aCons (cUn D.neg (cC (.int 1))) (aCons (cC (.int 250000)) (aCons (cUn D.neg (cC (.int 249999))) (aCons (cOp D.pow (cC (.int 10)) (cC (.int 11))) aNil))))))) aNil))) (aCons (frz (cFnIO 0 m_u_law_one_of (aCons (frz (cLst (aCons (cC (.int 1)) (aCons (cUn D.neg (cC (.int 3))) (aCons (cOp D.pow (cC (.int 10)) (cC (.int 11))) aNil))))) aNil))) aNil))) (sSeq (sIf (tOr (asB (cOp D.gt (cCall opAbs (aCons (cOp D.addE (cVar 2) (cVar 6)) aNil)) (cOp D.pow (cC (.int 10)) (cC (.int 12))))) (asB (cOp D.gt (cCall opAbs (aCons (cOp D.addE (cVar 3) (cVar 7)) aNil)) (cOp D.pow (cC (.int 10)) (cC (.int 12)))))) (sRet (thaw (cC (.bl true)))) sNext) (sSeq (sPar 8 9 (aCons (cTup (aCons (cOp D.addE (cVar 2) (cVar 6)) (aCons (cOp D.addE (cVar 3) (cVar 7)) (aCons (cVar 4) (aCons (cVar 5) aNil))))) (aCons (frz (cFnIO 0 m_u_law_far aNil)) aNil))) (sSeq (sSet 10 (cFn m_date_of (aCons (cVar 1) (aCons (cVar 9) aNil)))) (sRet (thaw (cAnd (cOp D.eq (frz (cFn m_date_of (aCons (cVar 8) (aCons (cOp D.addE (cVar 9) (cVar 6)) aNil)))) (cOp D.addE (cTup (aCons (cOp D.addE (cIxV 10 (cC (.int 0))) (cVar 7)) aNil)) (frz (cSl (cVar 10) (oSome (cC (.int 1))) oNone)))) (cOp D.eq (frz (cFn m_day_of (aCons (cVar 8) (aCons (cOp D.addE (cTup (aCons (cOp D.addE (cIxV 10 (cC (.int 0))) (cVar 7)) aNil)) (frz (cSl (cVar 10) (oSome (cC (.int 1))) oNone))) aNil)))) (cOp D.addE (cVar 9) (cVar 6)))))))))))
noncomputable def m_u_law_led_along : List D → List D → RF := runIO2 11 2 b_u_law_led_along
noncomputable def l_law_0 : M Fl := (sSeq (sIf (tNot (asB (frz (cFn m_u_law_right (aCons (cVar 3) (aCons (cVar 4) aNil)))))) (sRet (thaw (cC (.bl false)))) sNext) (sSeq (sIf (tAnd (asB (cIs (.b "str") (cVar 3))) (asB (cOp D.ne (frz (cFn m_u_law_civil (aCons (cVar 3) (aCons (frz (cFn m_date_of (aCons (cVar 3) (aCons (cVar 4) aNil)))) aNil)))) (cVar 4)))) (sRet (thaw (cC (.bl false)))) sNext) (sIf (tOr (asB (cOp D.ne (frz (cFn m_weekday (aCons (cVar 4) aNil))) (cOp D.mod (cCall opInt (aCons (cOp D.addE (cVar 4) (cC (.int 5))) aNil)) (cC (.int 7))))) (asB (cOp D.ne (frz (cFnK 0 (["day"] : List Str).length [0] m_weekday aNil (aCons (cVar 4) aNil))) (frz (cFn m_weekday (aCons (cOp D.addE (cVar 4) (cOp D.mul (cC (.int 7)) (cOp D.pow (cC (.int 10)) (cC (.int 20))))) aNil)))))) (sRet (thaw (cC (.bl false)))) sNext)))
noncomputable def l_law_1 : M Fl := (sSeq (sSet 3 (cFnIO 1 m_u_law_drawn_calendar aNil)) (sSeq (sFor (cItems (frz (cFnIO 1 m_u_law_ends_and_far (aCons (cVar 3) aNil)))) (gNm 4) l_law_0) (sIf (tNot (asB (frz (cFnIO 1 m_u_law_led_along (aCons (cVar 3) aNil))))) (sRet (thaw (cC (.bl false)))) sNext)))
noncomputable def l_law_2 : M Fl := (sSeq (sSet 6 (cFnIO 1 m_u_law_one_of (aCons (frz (cLst (aCons (cC (.int 1900)) (aCons (cC (.int 2000)) (aCons (cC (.int 2100)) (aCons (cC (.int 2400)) (aCons (cUn D.neg (cC (.int 4))) (aCons (cUn D.neg (cC (.int 100))) (aCons (cC (.int 0)) (aCons (cOp D.pow (cC (.int 10)) (cC (.int 12))) aNil)))))))))) aNil))) (sSeq (sIf (asB (cOp D.ne (cOp D.eq (cOp D.sub (frz (cFn m_day_of (aCons (cVar 5) (aCons (cTup (aCons (cVar 6) (aCons (cC (.int 3)) (aCons (cC (.int 1)) aNil)))) aNil)))) (frz (cFn m_day_of (aCons (cVar 5) (aCons (cTup (aCons (cVar 6) (aCons (cC (.int 2)) (aCons (cC (.int 28)) aNil)))) aNil))))) (cC (.int 2))) (frz (cFn m_u_law_leap (aCons (cVar 5) (aCons (cVar 6) aNil)))))) (sRet (thaw (cC (.bl false)))) sNext) (sIf (asB (cOp D.ne (cOp D.sub (frz (cFn m_year_start (aCons (cVar 5) (aCons (cOp D.addE (cVar 6) (cC (.int 1))) aNil)))) (frz (cFn m_year_start (aCons (cVar 5) (aCons (cVar 6) aNil))))) (cOp D.addE (cC (.int 365)) (cCall opInt (aCons (frz (cFn m_u_law_leap (aCons (cVar 5) (aCons (cVar 6) aNil)))) aNil))))) (sRet (thaw (cC (.bl false)))) sNext)))
noncomputable def b_law : M Fl := (sSeq (sSet 1 (cFn m_u_law_seed (aCons (cVar 0) aNil))) (sSeq (sFor (cSpan D.span1 (aCons (cC (.int 4)) aNil)) (gNm 2) l_law_1) (sSeq (sFor (cItems (cTup (aCons (cC (.str "gregorian")) (aCons (cC (.str "julian")) aNil)))) (gNm 5) l_law_2) (sRet (thaw (cOp D.eq (frz (cLst (aCons (frz (cFn m_date_of (aCons (cC (.str "gregorian")) (aCons (cC (.int 0)) aNil)))) (aCons (frz (cFn m_date_of (aCons (cC (.str "julian")) (aCons (cC (.int 13)) aNil)))) (aCons (frz (cFn m_date_of (aCons (cC (.str "islamic")) (aCons (cUn D.neg (cC (.int 503105))) aNil)))) (aCons (frz (cFn m_date_of (aCons (cC (.str "coptic")) (aCons (cUn D.neg (cC (.int 626515))) aNil)))) aNil)))))) (frz (cLst (aCons (cTup (aCons (cC (.int 2000)) (aCons (cC (.int 1)) (aCons (cC (.int 1)) aNil)))) (aCons (cTup (aCons (cC (.int 2000)) (aCons (cC (.int 1)) (aCons (cC (.int 1)) aNil)))) (aCons (cTup (aCons (cC (.int 1)) (aCons (cC (.int 1)) (aCons (cC (.int 1)) aNil)))) (aCons (cTup (aCons (cC (.int 1)) (aCons (cC (.int 1)) (aCons (cC (.int 1)) aNil)))) aNil))))))))))))
noncomputable def m_law : List D → RF := runV0 7 1 b_law
section
variable {w : World} {K : PySem.W.Frag} {mg : Str → Option Value} {base : Heap}
theorem sc_is_integer : FnScope ["value"] ["value"] (defScope s_is_integer) := ⟨rfl, rfl, rfl, by decide +kernel, rfl, by decide +kernel, by decide +kernel⟩
theorem ok_is_integer (T : Txt PySem.Challenge.pw_alldue_k29_dates_by_the_civil_count K mg) : ∃ fd, FnOk PySem.Challenge.pw_alldue_k29_dates_by_the_civil_count w K mg base (L2.CX PySem.Challenge.pw_alldue_k29_dates_by_the_civil_count w) 1 (He.ga K "is_integer") fd ["value"] (spV K m_is_integer) ∧ PySem.W.keepIn K (.ref (He.ga K "is_integer")) = true ∧ Binds K fd ["value"] [] := by
  obtain ⟨fd, F⟩ := T.d_is_integer
  have SC := sc_is_integer
  have hb : Body PySem.Challenge.pw_alldue_k29_dates_by_the_civil_count w K mg base "is_integer" (defBody s_is_integer) (defScope s_is_integer) (He.ga K "is_integer") ["value"] 0 b_is_integer := fun cdv A outer s H E hr => by exact (dss_one (ds_ret (de_of (dv_and (dv_is (.b (by decide)) rfl T.f_isinstance (dv_var (pv 0)) (pe_bltn rfl T.f_int PyProof.Rows.boot_int rfl)) (dv_one (dv_not (dv_is (.b (by decide)) rfl T.f_isinstance (dv_var (pv 0)) (pe_bltn rfl T.f_bool PyProof.Rows.boot_bool rfl))))))))
  exact ⟨fd, fn_V F SC hb, F.kp, F.bindsN (fun _ _ _ _ _ _ us hl => match us, hl with | [_], _ => rfl)⟩
theorem sc_is_between : FnScope ["value", "low", "high"] ["value", "low", "high"] (defScope s_is_between) := ⟨rfl, rfl, rfl, by decide +kernel, rfl, by decide +kernel, by decide +kernel⟩
theorem ok_is_between (T : Txt PySem.Challenge.pw_alldue_k29_dates_by_the_civil_count K mg) : ∃ fd, FnOk PySem.Challenge.pw_alldue_k29_dates_by_the_civil_count w K mg base (L2.CX PySem.Challenge.pw_alldue_k29_dates_by_the_civil_count w) 2 (He.ga K "is_between") fd ["value", "low", "high"] (spV K m_is_between) ∧ PySem.W.keepIn K (.ref (He.ga K "is_between")) = true ∧ Binds K fd ["value", "low", "high"] [] := by
  obtain ⟨fd, F⟩ := T.d_is_between
  have SC := sc_is_between
  obtain ⟨_, G_is_integer, K_is_integer, B_is_integer⟩ := ok_is_integer (w := w) (base := base) T
  have hb : Body PySem.Challenge.pw_alldue_k29_dates_by_the_civil_count w K mg base "is_between" (defBody s_is_between) (defScope s_is_between) (He.ga K "is_between") ["value", "low", "high"] 1 b_is_between := fun cdv A outer s H E hr => by exact (dss_one (ds_ret (de_of (dv_and (dv_of (de_call G_is_integer (hr.mono (by decide)) rfl T.g_is_integer K_is_integer B_is_integer (takes_of rfl rfl rfl rfl) (da_cons (dv_var (pv 0)) da_nil))) (dv_one (dv_chain do_le do_le (dv_var (pv 1)) (dv_var (pv 0)) (dv_var (pv 2))))))))
  exact ⟨fd, fn_V F SC hb, F.kp, F.bindsN (fun _ _ _ _ _ _ us hl => match us, hl with | [_, _, _], _ => rfl)⟩
theorem sc_is_tuple : FnScope ["value", "low", "high"] ["value", "low", "high"] (defScope s_is_tuple) := ⟨rfl, rfl, rfl, by decide +kernel, rfl, by decide +kernel, by decide +kernel⟩
theorem ok_is_tuple (T : Txt PySem.Challenge.pw_alldue_k29_dates_by_the_civil_count K mg) : ∃ fd, FnOk PySem.Challenge.pw_alldue_k29_dates_by_the_civil_count w K mg base (L2.CX PySem.Challenge.pw_alldue_k29_dates_by_the_civil_count w) 1 (He.ga K "is_tuple") fd ["value", "low", "high"] (spV K m_is_tuple) ∧ PySem.W.keepIn K (.ref (He.ga K "is_tuple")) = true ∧ Binds K fd ["value", "low", "high"] [] := by
  obtain ⟨fd, F⟩ := T.d_is_tuple
  have SC := sc_is_tuple
  have hb : Body PySem.Challenge.pw_alldue_k29_dates_by_the_civil_count w K mg base "is_tuple" (defBody s_is_tuple) (defScope s_is_tuple) (He.ga K "is_tuple") ["value", "low", "high"] 0 b_is_tuple := fun cdv A outer s H E hr => by exact (dss_one (ds_ret (de_of (dv_and (dv_is (.b (by decide)) rfl T.f_isinstance (dv_var (pv 0)) (pe_bltn rfl T.f_tuple PyProof.Rows.boot_tuple rfl)) (dv_one (dv_chain do_le do_le (dv_var (pv 1)) (dv_lenV (pv 0) rfl T.f_len) (dv_var (pv 2))))))))
  exact ⟨fd, fn_V F SC hb, F.kp, F.bindsN (fun _ _ _ _ _ _ us hl => match us, hl with | [_, _, _], _ => rfl)⟩
theorem sc_is_leap : FnScope ["year"] ["year"] (defScope s_is_leap) := ⟨rfl, rfl, rfl, by decide +kernel, rfl, by decide +kernel, by decide +kernel⟩
theorem ok_is_leap (T : Txt PySem.Challenge.pw_alldue_k29_dates_by_the_civil_count K mg) : ∃ fd, FnOk PySem.Challenge.pw_alldue_k29_dates_by_the_civil_count w K mg base (L2.CX PySem.Challenge.pw_alldue_k29_dates_by_the_civil_count w) 1 (He.ga K "is_leap") fd ["year"] (spV K m_is_leap) ∧ PySem.W.keepIn K (.ref (He.ga K "is_leap")) = true ∧ Binds K fd ["year"] [] := by
  obtain ⟨fd, F⟩ := T.d_is_leap
  have SC := sc_is_leap
  have hb : Body PySem.Challenge.pw_alldue_k29_dates_by_the_civil_count w K mg base "is_leap" (defBody s_is_leap) (defScope s_is_leap) (He.ga K "is_leap") ["year"] 0 b_is_leap := fun cdv A outer s H E hr => by exact (dss_one (ds_ret (de_of (dv_and (dv_cmp (do_eq hr.units) (dv_bin do_mod (dv_var (pv 0)) dv_int) dv_int) (dv_one (dv_or (dv_cmp (do_ne hr.units) (dv_bin do_mod (dv_var (pv 0)) dv_int) dv_int) (dv_one (dv_cmp (do_eq hr.units) (dv_bin do_mod (dv_var (pv 0)) dv_int) dv_int))))))))
  exact ⟨fd, fn_V F SC hb, F.kp, F.bindsN (fun _ _ _ _ _ _ us hl => match us, hl with | [_], _ => rfl)⟩
theorem sc_made_of : FnScope ["calendar", "year"] ["calendar"] (defScope s_made_of) := ⟨rfl, rfl, rfl, by decide +kernel, rfl, by decide +kernel, by decide +kernel⟩
theorem ok_made_of (T : Txt PySem.Challenge.pw_alldue_k29_dates_by_the_civil_count K mg) : ∃ fd, FnOk PySem.Challenge.pw_alldue_k29_dates_by_the_civil_count w K mg base (L2.CX PySem.Challenge.pw_alldue_k29_dates_by_the_civil_count w) 2 (He.ga K "made_of") fd ["calendar"] (spV K m_made_of) ∧ PySem.W.keepIn K (.ref (He.ga K "made_of")) = true ∧ Binds K fd ["calendar"] [] := by
  obtain ⟨fd, F⟩ := T.d_made_of
  have SC := sc_made_of
  obtain ⟨_, G_is_leap, K_is_leap, B_is_leap⟩ := ok_is_leap (w := w) (base := base) T
  have hb : Body PySem.Challenge.pw_alldue_k29_dates_by_the_civil_count w K mg base "made_of" (defBody s_made_of) (defScope s_made_of) (He.ga K "made_of") ["calendar", "year"] 1 b_made_of := fun cdv A outer s H E hr => by exact (dss_cons (ds_if (dt_cmp (do_eq hr.units) (dv_var (pv 0)) dv_str) (dss_one (ds_ret (de_of (dv_tup (da_cons dv_int (da_cons dv_int (da_cons (dv_tup (da_cons (dv_con rfl (T.c_COMMON)) (da_cons (dv_con rfl (T.c_LEAP)) da_nil))) (da_cons (dv_callTy (call_tuple_of) dc_tuple rfl T.f_tuple PyProof.Rows.boot_tuple (da_cons (dv_of (de_lc (own := [("year", 1)]) rfl SC.nd (di_range2 rfl T.f_range (da_cons dv_int (da_cons dv_int da_nil))) (blkOk_by (N := ["calendar", "year"]) (sc := defScope s_made_of) (by decide +kernel)) (fun _ _ _ _ _ => (dg_name SC.nd rfl (by first | exact Or.inl rfl | exact Or.inr rfl))) (fun _ _ _ _ _ => dts_nil) (fun _ _ _ _ _ => (dv_callTy (call_int1) dc_int rfl T.f_int PyProof.Rows.boot_int (da_cons (dv_of (de_call G_is_leap (hr.mono (by decide)) rfl T.g_is_leap K_is_leap B_is_leap takes0 (da_cons (dv_var (pv 1)) da_nil))) da_nil))))) da_nil)) da_nil)))))))) dss_nil) (dss_cons (ds_if (dt_cmp (do_eq hr.units) (dv_var (pv 0)) dv_str) (dss_one (ds_ret (de_of (dv_con rfl (T.c_JULIAN))))) dss_nil) (dss_cons (ds_if (dt_cmp (do_eq hr.units) (dv_var (pv 0)) dv_str) (dss_one (ds_ret (de_of (dv_tup (da_cons (dv_neg dv_int) (da_cons dv_int (da_cons (dv_tup (da_cons (dv_con rfl (T.c_PLAIN)) (da_cons (dv_con rfl (T.c_LONGER)) da_nil))) (da_cons (dv_callTy (call_tuple_of) dc_tuple rfl T.f_tuple PyProof.Rows.boot_tuple (da_cons (dv_of (de_lc (own := [("year", 1)]) rfl SC.nd (di_range2 rfl T.f_range (da_cons dv_int (da_cons dv_int da_nil))) (blkOk_by (N := ["calendar", "year"]) (sc := defScope s_made_of) (by decide +kernel)) (fun _ _ _ _ _ => (dg_name SC.nd rfl (by first | exact Or.inl rfl | exact Or.inr rfl))) (fun _ _ _ _ _ => dts_nil) (fun _ _ _ _ _ => (dv_callTy (call_int1) dc_int rfl T.f_int PyProof.Rows.boot_int (da_cons (dv_cmp (do_in hr.units65) (dv_var (pv 1)) (dv_con rfl (T.c_LONGER_YEARS))) da_nil))))) da_nil)) da_nil)))))))) dss_nil) (dss_cons (ds_if (dt_cmp (do_eq hr.units) (dv_var (pv 0)) dv_str) (dss_one (ds_ret (de_of (dv_con rfl (T.c_COPTIC))))) dss_nil) (dss_one (ds_ret (de_move (pv 0))))))))
  exact ⟨fd, fn_V F SC hb, F.kp, F.bindsN (fun _ _ _ _ _ _ us hl => match us, hl with | [_], _ => rfl)⟩
theorem sc_is_a_calendar : FnScope ["value", "kinds", "years", "kind", "length", "index"] ["value"] (defScope s_is_a_calendar) := ⟨rfl, rfl, rfl, by decide +kernel, rfl, by decide +kernel, by decide +kernel⟩
theorem ok_is_a_calendar (T : Txt PySem.Challenge.pw_alldue_k29_dates_by_the_civil_count K mg) : ∃ fd, FnOk PySem.Challenge.pw_alldue_k29_dates_by_the_civil_count w K mg base (L2.CX PySem.Challenge.pw_alldue_k29_dates_by_the_civil_count w) 3 (He.ga K "is_a_calendar") fd ["value"] (spV K m_is_a_calendar) ∧ PySem.W.keepIn K (.ref (He.ga K "is_a_calendar")) = true ∧ Binds K fd ["value"] [] := by
  obtain ⟨fd, F⟩ := T.d_is_a_calendar
  have SC := sc_is_a_calendar
  obtain ⟨_, G_is_between, K_is_between, B_is_between⟩ := ok_is_between (w := w) (base := base) T
  obtain ⟨_, G_is_tuple, K_is_tuple, B_is_tuple⟩ := ok_is_tuple (w := w) (base := base) T
  have hb : Body PySem.Challenge.pw_alldue_k29_dates_by_the_civil_count w K mg base "is_a_calendar" (defBody s_is_a_calendar) (defScope s_is_a_calendar) (He.ga K "is_a_calendar") ["value", "kinds", "years", "kind", "length", "index"] 2 b_is_a_calendar := fun cdv A outer s H E hr => by exact (dss_cons (ds_if (dt_val (dv_is (.b (by decide)) rfl T.f_isinstance (dv_var (pv 0)) (pe_bltn rfl T.f_str PyProof.Rows.boot_str rfl))) (dss_one (ds_ret (de_of (dv_cmp (do_in hr.units65) (dv_var (pv 0)) (dv_con rfl (T.c_NAMES)))))) dss_nil) (dss_cons (ds_if (DL.dt_of (dw_or (dt_not (dt_val (dv_of (de_call G_is_tuple (hr.mono (by decide)) rfl T.g_is_tuple K_is_tuple B_is_tuple (takes_of rfl rfl rfl rfl) (da_cons (dv_var (pv 0)) (da_cons dv_int (da_cons dv_int da_nil))))))) (dw_or (dt_not (dt_val (dv_of (de_call G_is_between (hr.mono (by decide)) rfl T.g_is_between K_is_between B_is_between (takes_of rfl rfl rfl rfl) (da_cons (dv_ixV (pv 0) dv_int) (da_cons (dv_neg (dv_con rfl (T.c_MOST))) (da_cons (dv_con rfl (T.c_MOST)) da_nil))))))) (dw_or1 (dt_not (dt_val (dv_of (de_call G_is_between (hr.mono (by decide)) rfl T.g_is_between K_is_between B_is_between (takes_of rfl rfl rfl rfl) (da_cons (dv_ixV (pv 0) dv_int) (da_cons (dv_neg (dv_con rfl (T.c_MOST))) (da_cons (dv_con rfl (T.c_MOST)) da_nil))))))))))) (dss_one (ds_ret (de_of dv_bl))) dss_nil) (dss_cons (ds_asg (dv_tup (da_cons (dv_ixV (pv 0) dv_int) (da_cons (dv_ixV (pv 0) dv_int) da_nil))) (dg_tup rfl (dgs_cons (dg_name SC.nd rfl (by first | exact Or.inl rfl | exact Or.inr rfl)) (dgs_cons (dg_name SC.nd rfl (by first | exact Or.inl rfl | exact Or.inr rfl)) dgs_nil)) (gMore_len (gMore_len gNone_len)))) (dss_cons (ds_if (DL.dt_of (dw_or (dt_not (dt_val (dv_of (de_call G_is_tuple (hr.mono (by decide)) rfl T.g_is_tuple K_is_tuple B_is_tuple (takes_of rfl rfl rfl rfl) (da_cons (dv_var (pv 1)) (da_cons dv_int (da_cons dv_int da_nil))))))) (dw_or1 (dt_not (dt_val (dv_of (de_call G_is_tuple (hr.mono (by decide)) rfl T.g_is_tuple K_is_tuple B_is_tuple (takes_of rfl rfl rfl rfl) (da_cons (dv_var (pv 2)) (da_cons dv_int (da_cons dv_int da_nil)))))))))) (dss_one (ds_ret (de_of dv_bl))) dss_nil) (dss_cons (ds_for (passes_of rfl) rfl (di_any (dv_var (pv 1))) (dg_name SC.nd rfl (by first | exact Or.inl rfl | exact Or.inr rfl)) (dss_one (ds_if (DL.dt_of (dw_or (dt_not (dt_val (dv_of (de_call G_is_tuple (hr.mono (by decide)) rfl T.g_is_tuple K_is_tuple B_is_tuple (takes_of rfl rfl rfl rfl) (da_cons (dv_var (pv 3)) (da_cons dv_int (da_cons dv_int da_nil))))))) (dw_or1 (dt_not (dt_val (dv_callB (cr_all rfl) dc_all rfl T.f_all boot_all (da_cons (dv_of (de_lc (own := [("length", 4)]) rfl SC.nd (di_any (dv_var (pv 3))) (blkOk_by (N := ["value", "kinds", "years", "kind", "length", "index"]) (sc := defScope s_is_a_calendar) (by decide +kernel)) (fun _ _ _ _ _ => (dg_name SC.nd rfl (by first | exact Or.inl rfl | exact Or.inr rfl))) (fun _ _ _ _ _ => dts_nil) (fun _ _ _ _ _ => (dv_of (de_call G_is_between (hr.mono (by decide)) rfl T.g_is_between K_is_between B_is_between takes0 (da_cons (dv_var (pv 4)) (da_cons dv_int (da_cons dv_int da_nil)))))))) da_nil))))))) (dss_one (ds_ret (de_of dv_bl))) dss_nil))) (dss_one (ds_ret (de_of (dv_callB (cr_all rfl) dc_all rfl T.f_all boot_all (da_cons (dv_of (de_lc (own := [("index", 5)]) rfl SC.nd (di_any (dv_var (pv 2))) (blkOk_by (N := ["value", "kinds", "years", "kind", "length", "index"]) (sc := defScope s_is_a_calendar) (by decide +kernel)) (fun _ _ _ _ _ => (dg_name SC.nd rfl (by first | exact Or.inl rfl | exact Or.inr rfl))) (fun _ _ _ _ _ => dts_nil) (fun _ _ _ _ _ => (dv_of (de_call G_is_between (hr.mono (by decide)) rfl T.g_is_between K_is_between B_is_between takes0 (da_cons (dv_var (pv 5)) (da_cons dv_int (da_cons (dv_bin do_sub (dv_lenV (pv 1) rfl T.f_len) dv_int) da_nil)))))))) da_nil))))))))))
  exact ⟨fd, fn_V F SC hb, F.kp, F.bindsN (fun _ _ _ _ _ _ us hl => match us, hl with | [_], _ => rfl)⟩
theorem sc_is_a_date : FnScope ["made", "value", "part", "months"] ["made", "value"] (defScope s_is_a_date) := ⟨rfl, rfl, rfl, by decide +kernel, rfl, by decide +kernel, by decide +kernel⟩
theorem ok_is_a_date (T : Txt PySem.Challenge.pw_alldue_k29_dates_by_the_civil_count K mg) : ∃ fd, FnOk PySem.Challenge.pw_alldue_k29_dates_by_the_civil_count w K mg base (L2.CX PySem.Challenge.pw_alldue_k29_dates_by_the_civil_count w) 2 (He.ga K "is_a_date") fd ["made", "value"] (spV K m_is_a_date) ∧ PySem.W.keepIn K (.ref (He.ga K "is_a_date")) = true ∧ Binds K fd ["made", "value"] [] := by
  obtain ⟨fd, F⟩ := T.d_is_a_date
  have SC := sc_is_a_date
  obtain ⟨_, G_is_integer, K_is_integer, B_is_integer⟩ := ok_is_integer (w := w) (base := base) T
  obtain ⟨_, G_is_tuple, K_is_tuple, B_is_tuple⟩ := ok_is_tuple (w := w) (base := base) T
  have hb : Body PySem.Challenge.pw_alldue_k29_dates_by_the_civil_count w K mg base "is_a_date" (defBody s_is_a_date) (defScope s_is_a_date) (He.ga K "is_a_date") ["made", "value", "part", "months"] 1 b_is_a_date := fun cdv A outer s H E hr => by exact (dss_cons (ds_if (DL.dt_of (dw_or (dt_not (dt_val (dv_of (de_call G_is_tuple (hr.mono (by decide)) rfl T.g_is_tuple K_is_tuple B_is_tuple (takes_of rfl rfl rfl rfl) (da_cons (dv_var (pv 1)) (da_cons dv_int (da_cons dv_int da_nil))))))) (dw_or1 (dt_not (dt_val (dv_callB (cr_all rfl) dc_all rfl T.f_all boot_all (da_cons (dv_of (de_lc (own := [("part", 2)]) rfl SC.nd (di_any (dv_var (pv 1))) (blkOk_by (N := ["made", "value", "part", "months"]) (sc := defScope s_is_a_date) (by decide +kernel)) (fun _ _ _ _ _ => (dg_name SC.nd rfl (by first | exact Or.inl rfl | exact Or.inr rfl))) (fun _ _ _ _ _ => dts_nil) (fun _ _ _ _ _ => (dv_of (de_call G_is_integer (hr.mono (by decide)) rfl T.g_is_integer K_is_integer B_is_integer takes0 (da_cons (dv_var (pv 2)) da_nil)))))) da_nil))))))) (dss_one (ds_ret (de_of dv_bl))) dss_nil) (dss_cons (ds_asg (dv_ix (dv_ixV (pv 0) dv_int) (dv_ix (dv_ixV (pv 0) dv_int) (dv_bin do_mod (dv_bin do_sub (dv_ixV (pv 1) dv_int) (dv_ixV (pv 0) dv_int)) (dv_callB (call_len) dc_len rfl T.f_len PySem.boot_len (da_cons (dv_ixV (pv 0) dv_int) da_nil))))) (dg_name SC.nd rfl (by first | exact Or.inl rfl | exact Or.inr rfl))) (dss_one (ds_ret (de_of (dv_and (dv_chain do_le do_le dv_int (dv_ixV (pv 1) dv_int) (dv_lenV (pv 3) rfl T.f_len)) (dv_one (dv_chain do_le do_le dv_int (dv_ixV (pv 1) dv_int) (dv_ixV (pv 3) (dv_bin do_sub (dv_ixV (pv 1) dv_int) dv_int))))))))))
  exact ⟨fd, fn_V F SC hb, F.kp, F.bindsN (fun _ _ _ _ _ _ us hl => match us, hl with | [_, _], _ => rfl)⟩
theorem sc_need_calendar : FnScope ["calendar"] ["calendar"] (defScope s_need_calendar) := ⟨rfl, rfl, rfl, by decide +kernel, rfl, by decide +kernel, by decide +kernel⟩
theorem ok_need_calendar (T : Txt PySem.Challenge.pw_alldue_k29_dates_by_the_civil_count K mg) : ∃ fd, FnOk PySem.Challenge.pw_alldue_k29_dates_by_the_civil_count w K mg base (L2.CX PySem.Challenge.pw_alldue_k29_dates_by_the_civil_count w) 4 (He.ga K "need_calendar") fd ["calendar"] (spV K m_need_calendar) ∧ PySem.W.keepIn K (.ref (He.ga K "need_calendar")) = true ∧ Binds K fd ["calendar"] [] := by
  obtain ⟨fd, F⟩ := T.d_need_calendar
  have SC := sc_need_calendar
  obtain ⟨_, G_is_a_calendar, K_is_a_calendar, B_is_a_calendar⟩ := ok_is_a_calendar (w := w) (base := base) T
  obtain ⟨_, G_made_of, K_made_of, B_made_of⟩ := ok_made_of (w := w) (base := base) T
  have hb : Body PySem.Challenge.pw_alldue_k29_dates_by_the_civil_count w K mg base "need_calendar" (defBody s_need_calendar) (defScope s_need_calendar) (He.ga K "need_calendar") ["calendar"] 3 b_need_calendar := fun cdv A outer s H E hr => by exact (dss_cons (ds_if (dt_not (dt_val (dv_of (de_call G_is_a_calendar (hr.mono (by decide)) rfl T.g_is_a_calendar K_is_a_calendar B_is_a_calendar (takes_of rfl rfl rfl rfl) (da_cons (dv_var (pv 0)) da_nil))))) (dss_one ds_bad) dss_nil) (dss_one (ds_ret (de_call G_made_of (hr.mono (by decide)) rfl T.g_made_of K_made_of B_made_of (takes_of rfl rfl rfl rfl) (da_cons (dv_var (pv 0)) da_nil)))))
  exact ⟨fd, fn_V F SC hb, F.kp, F.bindsN (fun _ _ _ _ _ _ us hl => match us, hl with | [_], _ => rfl)⟩
theorem sc_need_date : FnScope ["made", "date"] ["made", "date"] (defScope s_need_date) := ⟨rfl, rfl, rfl, by decide +kernel, rfl, by decide +kernel, by decide +kernel⟩
theorem ok_need_date (T : Txt PySem.Challenge.pw_alldue_k29_dates_by_the_civil_count K mg) : ∃ fd, FnOk PySem.Challenge.pw_alldue_k29_dates_by_the_civil_count w K mg base (L2.CX PySem.Challenge.pw_alldue_k29_dates_by_the_civil_count w) 3 (He.ga K "need_date") fd ["made", "date"] (spV K m_need_date) ∧ PySem.W.keepIn K (.ref (He.ga K "need_date")) = true ∧ Binds K fd ["made", "date"] [] := by
  obtain ⟨fd, F⟩ := T.d_need_date
  have SC := sc_need_date
  obtain ⟨_, G_is_a_date, K_is_a_date, B_is_a_date⟩ := ok_is_a_date (w := w) (base := base) T
  have hb : Body PySem.Challenge.pw_alldue_k29_dates_by_the_civil_count w K mg base "need_date" (defBody s_need_date) (defScope s_need_date) (He.ga K "need_date") ["made", "date"] 2 b_need_date := fun cdv A outer s H E hr => by exact (dss_one (ds_if (dt_not (dt_val (dv_of (de_call G_is_a_date (hr.mono (by decide)) rfl T.g_is_a_date K_is_a_date B_is_a_date (takes_of rfl rfl rfl rfl) (da_cons (dv_var (pv 0)) (da_cons (dv_var (pv 1)) da_nil)))))) (dss_one ds_bad) dss_nil))
  exact ⟨fd, fn_V F SC hb, F.kp, F.bindsN (fun _ _ _ _ _ _ us hl => match us, hl with | [_, _], _ => rfl)⟩
theorem sc_last_place : FnScope ["sums", "rest", "low", "high", "half"] ["sums", "rest"] (defScope s_last_place) := ⟨rfl, rfl, rfl, by decide +kernel, rfl, by decide +kernel, by decide +kernel⟩
theorem ok_last_place (T : Txt PySem.Challenge.pw_alldue_k29_dates_by_the_civil_count K mg) : ∃ fd, FnOk PySem.Challenge.pw_alldue_k29_dates_by_the_civil_count w K mg base (L2.CX PySem.Challenge.pw_alldue_k29_dates_by_the_civil_count w) 1 (He.ga K "last_place") fd ["sums", "rest"] (spV K m_last_place) ∧ PySem.W.keepIn K (.ref (He.ga K "last_place")) = true ∧ Binds K fd ["sums", "rest"] [] := by
  obtain ⟨fd, F⟩ := T.d_last_place
  have SC := sc_last_place
  have hb : Body PySem.Challenge.pw_alldue_k29_dates_by_the_civil_count w K mg base "last_place" (defBody s_last_place) (defScope s_last_place) (He.ga K "last_place") ["sums", "rest", "low", "high", "half"] 0 b_last_place := fun cdv A outer s H E hr => by exact (dss_cons (ds_par rfl SC.nd rfl rfl (by decide) rfl rfl (da_cons dv_int (da_cons (dv_bin do_sub (dv_lenV (pv 0) rfl T.f_len) dv_int) da_nil)) rfl) (dss_cons (ds_while (passes_of rfl) (dt_cmp do_gt (dv_bin do_sub (dv_var (pv 3)) (dv_var (pv 2))) dv_int) (dss_cons (ds_asg (dv_bin do_div (dv_bin do_addE (dv_var (pv 2)) (dv_var (pv 3))) dv_int) (dg_name SC.nd rfl (by first | exact Or.inl rfl | exact Or.inr rfl))) (dss_one (ds_if (dt_cmp do_le (dv_ixV (pv 0) (dv_var (pv 4))) (dv_var (pv 1))) (dss_one (ds_set SC.nd rfl (by first | exact Or.inl rfl | exact Or.inr rfl) (de_move (pv 4)))) (dss_one (ds_set SC.nd rfl (by first | exact Or.inl rfl | exact Or.inr rfl) (de_move (pv 4)))))))) (dss_one (ds_ret (de_move (pv 2))))))
  exact ⟨fd, fn_V F SC hb, F.kp, F.bindsN (fun _ _ _ _ _ _ us hl => match us, hl with | [_, _], _ => rfl)⟩
theorem sc_Years_days_in_cycle : FnScope ["self"] ["self"] (defScope s_Years_days_in_cycle) := ⟨rfl, rfl, rfl, by decide +kernel, rfl, by decide +kernel, by decide +kernel⟩
theorem ok_Years_days_in_cycle (T : Txt PySem.Challenge.pw_alldue_k29_dates_by_the_civil_count K mg) : ∃ fd, FnOk PySem.Challenge.pw_alldue_k29_dates_by_the_civil_count w K mg base (L2.CX PySem.Challenge.pw_alldue_k29_dates_by_the_civil_count w) 1 (He.ma K (He.ga K "Years") "days_in_cycle") fd ["self"] (spV K m_Years_days_in_cycle) ∧ PySem.W.keepIn K (.ref (He.ma K (He.ga K "Years") "days_in_cycle")) = true ∧ Binds K fd ["self"] [] := by
  obtain ⟨fd, F⟩ := T.d_Years_days_in_cycle
  have SC := sc_Years_days_in_cycle
  have hb : Body PySem.Challenge.pw_alldue_k29_dates_by_the_civil_count w K mg base "Years.days_in_cycle" (defBody s_Years_days_in_cycle) (defScope s_Years_days_in_cycle) (He.ma K (He.ga K "Years") "days_in_cycle") ["self"] 0 b_Years_days_in_cycle := fun cdv A outer s H E hr => by exact (dss_one (ds_ret (de_of (dv_ix (dv_fld T.k_Years (T.na_Years_starts) (dv_var (pv 0))) (dv_neg dv_int)))))
  exact ⟨fd, fn_V F SC hb, F.kp, F.bindsN (fun _ _ _ _ _ _ us hl => match us, hl with | [_], _ => rfl)⟩
theorem sc_Years___init__ : FnScope ["self", "made", "index", "months"] ["self", "made"] (defScope s_Years___init__) := ⟨rfl, rfl, rfl, by decide +kernel, rfl, by decide +kernel, by decide +kernel⟩
theorem ok_Years___init__ (T : Txt PySem.Challenge.pw_alldue_k29_dates_by_the_civil_count K mg) : ∃ fd, FnOk PySem.Challenge.pw_alldue_k29_dates_by_the_civil_count w K mg base (L2.CX PySem.Challenge.pw_alldue_k29_dates_by_the_civil_count w) 1 (He.ma K (He.ga K "Years") "__init__") fd ["self", "made"] (spNew K "Years" m_Years___init__) ∧ PySem.W.keepIn K (.ref (He.ma K (He.ga K "Years") "__init__")) = true ∧ Binds K fd ["self", "made"] [] := by
  obtain ⟨fd, F⟩ := T.d_Years___init__
  have SC := sc_Years___init__
  have hb : BodyN PySem.Challenge.pw_alldue_k29_dates_by_the_civil_count w K mg base "Years.__init__" (defBody s_Years___init__) (defScope s_Years___init__) (He.ma K (He.ga K "Years") "__init__") ["self", "made", "index", "months"] 0 "Years" b_Years___init__ := fun cdv A outer s H E hr => by exact (dn_cons (dn_set T.k_Years T.na_Years_epoch (pv 0) (de_of (dv_ixV (pv 1) dv_int))) (dn_cons (dn_set T.k_Years T.na_Years_base (pv 0) (de_of (dv_ixV (pv 1) dv_int))) (dn_cons (dn_set T.k_Years T.na_Years_cycle (pv 0) (de_lc (own := [("index", 2)]) rfl SC.nd (di_any (dv_ixV (pv 1) dv_int)) (blkOk_by (N := ["self", "made", "index", "months"]) (sc := defScope s_Years___init__) (by decide +kernel)) (fun _ _ _ _ _ => (dg_name SC.nd rfl (by first | exact Or.inl rfl | exact Or.inr rfl))) (fun _ _ _ _ _ => dts_nil) (fun _ _ _ _ _ => (dv_ix (dv_ixV (pv 1) dv_int) (dv_var (pv 2)))))) (dn_cons (dn_set T.k_Years T.na_Years_starts (pv 0) (de_lst (da_cons dv_int da_nil))) (dn_cons (dn_set T.k_Years T.na_Years_rows (pv 0) (de_lst (da_cons dv_int da_nil))) (dn_one (dn_for (passes_of rfl) rfl (by decide) SC.nd rfl (by first | exact Or.inl rfl | exact Or.inr rfl) T.k_Years T.na_Years_cycle (pv 0) (dn_cons (dn_app T.k_Years T.na_Years_starts (pv 0) (dv_bin do_addE (dv_ix (dv_fld T.k_Years (T.na_Years_starts) (dv_var (pv 0))) (dv_neg dv_int)) (dv_callB (cr_sumA rfl) dc_sum rfl T.f_sum boot_sum (da_cons (dv_var (pv 3)) da_nil)))) (dn_one (dn_app T.k_Years T.na_Years_rows (pv 0) (dv_bin do_addE (dv_ix (dv_fld T.k_Years (T.na_Years_rows) (dv_var (pv 0))) (dv_neg dv_int)) (dv_lenV (pv 3) rfl T.f_len))))))))))))
  exact ⟨fd, fn_new F SC hb, F.kp, F.bindsN (fun _ _ _ _ _ _ us hl => match us, hl with | [_, _], _ => rfl)⟩
theorem sc_cycle_days : FnScope ["calendar"] ["calendar"] (defScope s_cycle_days) := ⟨rfl, rfl, rfl, by decide +kernel, rfl, by decide +kernel, by decide +kernel⟩
theorem ok_cycle_days (T : Txt PySem.Challenge.pw_alldue_k29_dates_by_the_civil_count K mg) : ∃ fd, FnOk PySem.Challenge.pw_alldue_k29_dates_by_the_civil_count w K mg base (L2.CX PySem.Challenge.pw_alldue_k29_dates_by_the_civil_count w) 5 (He.ga K "cycle_days") fd ["calendar"] (spV K m_cycle_days) ∧ PySem.W.keepIn K (.ref (He.ga K "cycle_days")) = true ∧ Binds K fd ["calendar"] [] := by
  obtain ⟨fd, F⟩ := T.d_cycle_days
  have SC := sc_cycle_days
  obtain ⟨_, G_Years___init__, K_Years___init__, B_Years___init__⟩ := ok_Years___init__ (w := w) (base := base) T
  obtain ⟨_, G_Years_days_in_cycle, K_Years_days_in_cycle, B_Years_days_in_cycle⟩ := ok_Years_days_in_cycle (w := w) (base := base) T
  obtain ⟨_, G_need_calendar, K_need_calendar, B_need_calendar⟩ := ok_need_calendar (w := w) (base := base) T
  have hb : Body PySem.Challenge.pw_alldue_k29_dates_by_the_civil_count w K mg base "cycle_days" (defBody s_cycle_days) (defScope s_cycle_days) (He.ga K "cycle_days") ["calendar"] 4 b_cycle_days := fun cdv A outer s H E hr => by exact (dss_one (ds_ret (de_meth0 T.k_Years T.me_Years_days_in_cycle G_Years_days_in_cycle (hr.mono (by decide)) B_Years_days_in_cycle (takes_of rfl rfl rfl rfl) (dv_new T.mk_Years G_Years___init__ (hr.mono (by decide)) rfl T.g_Years B_Years___init__ (da_cons (dv_of (de_call G_need_calendar (hr.mono (by decide)) rfl T.g_need_calendar K_need_calendar B_need_calendar (takes_of rfl rfl rfl rfl) (da_cons (dv_var (pv 0)) da_nil))) da_nil)))))
  exact ⟨fd, fn_V F SC hb, F.kp, F.bindsN (fun _ _ _ _ _ _ us hl => match us, hl with | [_], _ => rfl)⟩
theorem sc_Years_start : FnScope ["self", "year", "turns", "place"] ["self", "year"] (defScope s_Years_start) := ⟨rfl, rfl, rfl, by decide +kernel, rfl, by decide +kernel, by decide +kernel⟩
theorem ok_Years_start (T : Txt PySem.Challenge.pw_alldue_k29_dates_by_the_civil_count K mg) : ∃ fd, FnOk PySem.Challenge.pw_alldue_k29_dates_by_the_civil_count w K mg base (L2.CX PySem.Challenge.pw_alldue_k29_dates_by_the_civil_count w) 2 (He.ma K (He.ga K "Years") "start") fd ["self", "year"] (spV K m_Years_start) ∧ PySem.W.keepIn K (.ref (He.ma K (He.ga K "Years") "start")) = true ∧ Binds K fd ["self", "year"] [] := by
  obtain ⟨fd, F⟩ := T.d_Years_start
  have SC := sc_Years_start
  obtain ⟨_, G_Years_days_in_cycle, K_Years_days_in_cycle, B_Years_days_in_cycle⟩ := ok_Years_days_in_cycle (w := w) (base := base) T
  have hb : Body PySem.Challenge.pw_alldue_k29_dates_by_the_civil_count w K mg base "Years.start" (defBody s_Years_start) (defScope s_Years_start) (He.ma K (He.ga K "Years") "start") ["self", "year", "turns", "place"] 1 b_Years_start := fun cdv A outer s H E hr => by exact (dss_cons (ds_asg (dv_callB (call_divmodW) dc_divmod rfl T.f_divmod boot_divmod (da_cons (dv_bin do_sub (dv_var (pv 1)) (dv_fld T.k_Years (T.na_Years_base) (dv_var (pv 0)))) (da_cons (dv_callB (call_len) dc_len rfl T.f_len PySem.boot_len (da_cons (dv_fld T.k_Years (T.na_Years_cycle) (dv_var (pv 0))) da_nil)) da_nil))) (dg_tup rfl (dgs_cons (dg_name SC.nd rfl (by first | exact Or.inl rfl | exact Or.inr rfl)) (dgs_cons (dg_name SC.nd rfl (by first | exact Or.inl rfl | exact Or.inr rfl)) dgs_nil)) (gMore_len (gMore_len gNone_len)))) (dss_one (ds_ret (de_of (dv_bin do_addE (dv_bin do_addE (dv_fld T.k_Years (T.na_Years_epoch) (dv_var (pv 0))) (dv_bin do_mul (dv_var (pv 2)) (dv_of (de_meth0 T.k_Years T.me_Years_days_in_cycle G_Years_days_in_cycle (hr.mono (by decide)) B_Years_days_in_cycle (takes_of rfl rfl rfl rfl) (dv_var (pv 0)))))) (dv_ix (dv_fld T.k_Years (T.na_Years_starts) (dv_var (pv 0))) (dv_var (pv 3))))))))
  exact ⟨fd, fn_V F SC hb, F.kp, F.bindsN (fun _ _ _ _ _ _ us hl => match us, hl with | [_, _], _ => rfl)⟩
theorem sc_year_start : FnScope ["calendar", "year"] ["calendar", "year"] (defScope s_year_start) := ⟨rfl, rfl, rfl, by decide +kernel, rfl, by decide +kernel, by decide +kernel⟩
theorem ok_year_start (T : Txt PySem.Challenge.pw_alldue_k29_dates_by_the_civil_count K mg) : ∃ fd, FnOk PySem.Challenge.pw_alldue_k29_dates_by_the_civil_count w K mg base (L2.CX PySem.Challenge.pw_alldue_k29_dates_by_the_civil_count w) 5 (He.ga K "year_start") fd ["calendar", "year"] (spV K m_year_start) ∧ PySem.W.keepIn K (.ref (He.ga K "year_start")) = true ∧ Binds K fd ["calendar", "year"] [] := by
  obtain ⟨fd, F⟩ := T.d_year_start
  have SC := sc_year_start
  obtain ⟨_, G_Years___init__, K_Years___init__, B_Years___init__⟩ := ok_Years___init__ (w := w) (base := base) T
  obtain ⟨_, G_Years_start, K_Years_start, B_Years_start⟩ := ok_Years_start (w := w) (base := base) T
  obtain ⟨_, G_need_calendar, K_need_calendar, B_need_calendar⟩ := ok_need_calendar (w := w) (base := base) T
  have hb : Body PySem.Challenge.pw_alldue_k29_dates_by_the_civil_count w K mg base "year_start" (defBody s_year_start) (defScope s_year_start) (He.ga K "year_start") ["calendar", "year"] 4 b_year_start := fun cdv A outer s H E hr => by exact (dss_one (ds_ret (de_meth T.k_Years T.me_Years_start G_Years_start (hr.mono (by decide)) B_Years_start (takes_of rfl rfl rfl rfl) (dv_new T.mk_Years G_Years___init__ (hr.mono (by decide)) rfl T.g_Years B_Years___init__ (da_cons (dv_of (de_call G_need_calendar (hr.mono (by decide)) rfl T.g_need_calendar K_need_calendar B_need_calendar (takes_of rfl rfl rfl rfl) (da_cons (dv_var (pv 0)) da_nil))) da_nil)) (da_cons (dv_var (pv 1)) da_nil))))
  exact ⟨fd, fn_V F SC hb, F.kp, F.bindsN (fun _ _ _ _ _ _ us hl => match us, hl with | [_, _], _ => rfl)⟩
theorem sc_Years_months : FnScope ["self", "year"] ["self", "year"] (defScope s_Years_months) := ⟨rfl, rfl, rfl, by decide +kernel, rfl, by decide +kernel, by decide +kernel⟩
theorem ok_Years_months (T : Txt PySem.Challenge.pw_alldue_k29_dates_by_the_civil_count K mg) : ∃ fd, FnOk PySem.Challenge.pw_alldue_k29_dates_by_the_civil_count w K mg base (L2.CX PySem.Challenge.pw_alldue_k29_dates_by_the_civil_count w) 1 (He.ma K (He.ga K "Years") "months") fd ["self", "year"] (spV K m_Years_months) ∧ PySem.W.keepIn K (.ref (He.ma K (He.ga K "Years") "months")) = true ∧ Binds K fd ["self", "year"] [] := by
  obtain ⟨fd, F⟩ := T.d_Years_months
  have SC := sc_Years_months
  have hb : Body PySem.Challenge.pw_alldue_k29_dates_by_the_civil_count w K mg base "Years.months" (defBody s_Years_months) (defScope s_Years_months) (He.ma K (He.ga K "Years") "months") ["self", "year"] 0 b_Years_months := fun cdv A outer s H E hr => by exact (dss_one (ds_ret (de_of (dv_ix (dv_fld T.k_Years (T.na_Years_cycle) (dv_var (pv 0))) (dv_bin do_mod (dv_bin do_sub (dv_var (pv 1)) (dv_fld T.k_Years (T.na_Years_base) (dv_var (pv 0)))) (dv_callB (call_len) dc_len rfl T.f_len PySem.boot_len (da_cons (dv_fld T.k_Years (T.na_Years_cycle) (dv_var (pv 0))) da_nil)))))))
  exact ⟨fd, fn_V F SC hb, F.kp, F.bindsN (fun _ _ _ _ _ _ us hl => match us, hl with | [_, _], _ => rfl)⟩
theorem sc_Years_day_at : FnScope ["self", "date"] ["self", "date"] (defScope s_Years_day_at) := ⟨rfl, rfl, rfl, by decide +kernel, rfl, by decide +kernel, by decide +kernel⟩
theorem ok_Years_day_at (T : Txt PySem.Challenge.pw_alldue_k29_dates_by_the_civil_count K mg) : ∃ fd, FnOk PySem.Challenge.pw_alldue_k29_dates_by_the_civil_count w K mg base (L2.CX PySem.Challenge.pw_alldue_k29_dates_by_the_civil_count w) 3 (He.ma K (He.ga K "Years") "day_at") fd ["self", "date"] (spV K m_Years_day_at) ∧ PySem.W.keepIn K (.ref (He.ma K (He.ga K "Years") "day_at")) = true ∧ Binds K fd ["self", "date"] [] := by
  obtain ⟨fd, F⟩ := T.d_Years_day_at
  have SC := sc_Years_day_at
  obtain ⟨_, G_Years_months, K_Years_months, B_Years_months⟩ := ok_Years_months (w := w) (base := base) T
  obtain ⟨_, G_Years_start, K_Years_start, B_Years_start⟩ := ok_Years_start (w := w) (base := base) T
  have hb : Body PySem.Challenge.pw_alldue_k29_dates_by_the_civil_count w K mg base "Years.day_at" (defBody s_Years_day_at) (defScope s_Years_day_at) (He.ma K (He.ga K "Years") "day_at") ["self", "date"] 2 b_Years_day_at := fun cdv A outer s H E hr => by exact (dss_one (ds_ret (de_of (dv_bin do_sub (dv_bin do_addE (dv_bin do_addE (dv_of (de_meth T.k_Years T.me_Years_start G_Years_start (hr.mono (by decide)) B_Years_start (takes_of rfl rfl rfl rfl) (dv_var (pv 0)) (da_cons (dv_ixV (pv 1) dv_int) da_nil))) (dv_callB (cr_sumA rfl) dc_sum rfl T.f_sum boot_sum (da_cons (dv_of (de_slice (dv_of (de_meth T.k_Years T.me_Years_months G_Years_months (hr.mono (by decide)) B_Years_months (takes_of rfl rfl rfl rfl) (dv_var (pv 0)) (da_cons (dv_ixV (pv 1) dv_int) da_nil))) do_none (do_some (dv_bin do_sub (dv_ixV (pv 1) dv_int) dv_int)))) da_nil))) (dv_ixV (pv 1) dv_int)) dv_int))))
  exact ⟨fd, fn_V F SC hb, F.kp, F.bindsN (fun _ _ _ _ _ _ us hl => match us, hl with | [_, _], _ => rfl)⟩
theorem sc_day_of : FnScope ["calendar", "date", "whole"] ["calendar", "date"] (defScope s_day_of) := ⟨rfl, rfl, rfl, by decide +kernel, rfl, by decide +kernel, by decide +kernel⟩
theorem ok_day_of (T : Txt PySem.Challenge.pw_alldue_k29_dates_by_the_civil_count K mg) : ∃ fd, FnOk PySem.Challenge.pw_alldue_k29_dates_by_the_civil_count w K mg base (L2.CX PySem.Challenge.pw_alldue_k29_dates_by_the_civil_count w) 5 (He.ga K "day_of") fd ["calendar", "date"] (spV K m_day_of) ∧ PySem.W.keepIn K (.ref (He.ga K "day_of")) = true ∧ Binds K fd ["calendar", "date"] [] ∧ KPick K fd ["calendar", "date"] 0 ["date", "calendar"] [1, 0] := by
  obtain ⟨fd, F⟩ := T.d_day_of
  have SC := sc_day_of
  obtain ⟨_, G_Years___init__, K_Years___init__, B_Years___init__⟩ := ok_Years___init__ (w := w) (base := base) T
  obtain ⟨_, G_Years_day_at, K_Years_day_at, B_Years_day_at⟩ := ok_Years_day_at (w := w) (base := base) T
  obtain ⟨_, G_need_calendar, K_need_calendar, B_need_calendar⟩ := ok_need_calendar (w := w) (base := base) T
  obtain ⟨_, G_need_date, K_need_date, B_need_date⟩ := ok_need_date (w := w) (base := base) T
  have hb : Body PySem.Challenge.pw_alldue_k29_dates_by_the_civil_count w K mg base "day_of" (defBody s_day_of) (defScope s_day_of) (He.ga K "day_of") ["calendar", "date", "whole"] 4 b_day_of := fun cdv A outer s H E hr => by exact (dss_cons (ds_set SC.nd rfl (by first | exact Or.inl rfl | exact Or.inr rfl) (de_call G_need_calendar (hr.mono (by decide)) rfl T.g_need_calendar K_need_calendar B_need_calendar (takes_of rfl rfl rfl rfl) (da_cons (dv_var (pv 0)) da_nil))) (dss_cons (ds_expr (dv_of (de_call G_need_date (hr.mono (by decide)) rfl T.g_need_date K_need_date B_need_date (takes_of rfl rfl rfl rfl) (da_cons (dv_var (pv 2)) (da_cons (dv_var (pv 1)) da_nil))))) (dss_one (ds_ret (de_meth T.k_Years T.me_Years_day_at G_Years_day_at (hr.mono (by decide)) B_Years_day_at (takes_of rfl rfl rfl rfl) (dv_new T.mk_Years G_Years___init__ (hr.mono (by decide)) rfl T.g_Years B_Years___init__ (da_cons (dv_var (pv 2)) da_nil)) (da_cons (dv_var (pv 1)) da_nil))))))
  exact ⟨fd, fn_V F SC hb, F.kp, F.bindsN (fun _ _ _ _ _ _ us hl => match us, hl with | [_, _], _ => rfl), F.kpick 0 ["date", "calendar"] [1, 0] (fun _ _ _ _ _ _ us ws h1 h2 => match us, h1, ws, h2 with | [], _, [_, _], _ => rfl)⟩
theorem sc_Years_year_at : FnScope ["self", "day", "turns", "rest", "place"] ["self", "day"] (defScope s_Years_year_at) := ⟨rfl, rfl, rfl, by decide +kernel, rfl, by decide +kernel, by decide +kernel⟩
theorem ok_Years_year_at (T : Txt PySem.Challenge.pw_alldue_k29_dates_by_the_civil_count K mg) : ∃ fd, FnOk PySem.Challenge.pw_alldue_k29_dates_by_the_civil_count w K mg base (L2.CX PySem.Challenge.pw_alldue_k29_dates_by_the_civil_count w) 2 (He.ma K (He.ga K "Years") "year_at") fd ["self", "day"] (spV K m_Years_year_at) ∧ PySem.W.keepIn K (.ref (He.ma K (He.ga K "Years") "year_at")) = true ∧ Binds K fd ["self", "day"] [] := by
  obtain ⟨fd, F⟩ := T.d_Years_year_at
  have SC := sc_Years_year_at
  obtain ⟨_, G_Years_days_in_cycle, K_Years_days_in_cycle, B_Years_days_in_cycle⟩ := ok_Years_days_in_cycle (w := w) (base := base) T
  obtain ⟨_, G_last_place, K_last_place, B_last_place⟩ := ok_last_place (w := w) (base := base) T
  have hb : Body PySem.Challenge.pw_alldue_k29_dates_by_the_civil_count w K mg base "Years.year_at" (defBody s_Years_year_at) (defScope s_Years_year_at) (He.ma K (He.ga K "Years") "year_at") ["self", "day", "turns", "rest", "place"] 1 b_Years_year_at := fun cdv A outer s H E hr => by exact (dss_cons (ds_asg (dv_callB (call_divmodW) dc_divmod rfl T.f_divmod boot_divmod (da_cons (dv_bin do_sub (dv_var (pv 1)) (dv_fld T.k_Years (T.na_Years_epoch) (dv_var (pv 0)))) (da_cons (dv_of (de_meth0 T.k_Years T.me_Years_days_in_cycle G_Years_days_in_cycle (hr.mono (by decide)) B_Years_days_in_cycle (takes_of rfl rfl rfl rfl) (dv_var (pv 0)))) da_nil))) (dg_tup rfl (dgs_cons (dg_name SC.nd rfl (by first | exact Or.inl rfl | exact Or.inr rfl)) (dgs_cons (dg_name SC.nd rfl (by first | exact Or.inl rfl | exact Or.inr rfl)) dgs_nil)) (gMore_len (gMore_len gNone_len)))) (dss_cons (ds_set SC.nd rfl (by first | exact Or.inl rfl | exact Or.inr rfl) (de_call G_last_place (hr.mono (by decide)) rfl T.g_last_place K_last_place B_last_place (takes_of rfl rfl rfl rfl) (da_cons (dv_fld T.k_Years (T.na_Years_starts) (dv_var (pv 0))) (da_cons (dv_var (pv 3)) da_nil)))) (dss_one (ds_ret (de_of (dv_tup (da_cons (dv_bin do_addE (dv_bin do_addE (dv_fld T.k_Years (T.na_Years_base) (dv_var (pv 0))) (dv_bin do_mul (dv_var (pv 2)) (dv_callB (call_len) dc_len rfl T.f_len PySem.boot_len (da_cons (dv_fld T.k_Years (T.na_Years_cycle) (dv_var (pv 0))) da_nil)))) (dv_var (pv 4))) (da_cons (dv_bin do_sub (dv_var (pv 3)) (dv_ix (dv_fld T.k_Years (T.na_Years_starts) (dv_var (pv 0))) (dv_var (pv 4)))) da_nil))))))))
  exact ⟨fd, fn_V F SC hb, F.kp, F.bindsN (fun _ _ _ _ _ _ us hl => match us, hl with | [_, _], _ => rfl)⟩
theorem sc_Years_date_at : FnScope ["self", "day", "year", "rest", "month", "length"] ["self", "day"] (defScope s_Years_date_at) := ⟨rfl, rfl, rfl, by decide +kernel, rfl, by decide +kernel, by decide +kernel⟩
theorem ok_Years_date_at (T : Txt PySem.Challenge.pw_alldue_k29_dates_by_the_civil_count K mg) : ∃ fd, FnOk PySem.Challenge.pw_alldue_k29_dates_by_the_civil_count w K mg base (L2.CX PySem.Challenge.pw_alldue_k29_dates_by_the_civil_count w) 3 (He.ma K (He.ga K "Years") "date_at") fd ["self", "day"] (spV K m_Years_date_at) ∧ PySem.W.keepIn K (.ref (He.ma K (He.ga K "Years") "date_at")) = true ∧ Binds K fd ["self", "day"] [] := by
  obtain ⟨fd, F⟩ := T.d_Years_date_at
  have SC := sc_Years_date_at
  obtain ⟨_, G_Years_months, K_Years_months, B_Years_months⟩ := ok_Years_months (w := w) (base := base) T
  obtain ⟨_, G_Years_year_at, K_Years_year_at, B_Years_year_at⟩ := ok_Years_year_at (w := w) (base := base) T
  have hb : Body PySem.Challenge.pw_alldue_k29_dates_by_the_civil_count w K mg base "Years.date_at" (defBody s_Years_date_at) (defScope s_Years_date_at) (He.ma K (He.ga K "Years") "date_at") ["self", "day", "year", "rest", "month", "length"] 2 b_Years_date_at := fun cdv A outer s H E hr => by exact (dss_cons (ds_asg (dv_of (de_meth T.k_Years T.me_Years_year_at G_Years_year_at (hr.mono (by decide)) B_Years_year_at (takes_of rfl rfl rfl rfl) (dv_var (pv 0)) (da_cons (dv_var (pv 1)) da_nil))) (dg_tup rfl (dgs_cons (dg_name SC.nd rfl (by first | exact Or.inl rfl | exact Or.inr rfl)) (dgs_cons (dg_name SC.nd rfl (by first | exact Or.inl rfl | exact Or.inr rfl)) dgs_nil)) (gMore_len (gMore_len gNone_len)))) (dss_cons (ds_asg dv_int (dg_name SC.nd rfl (by first | exact Or.inl rfl | exact Or.inr rfl))) (dss_cons (ds_for (passes_of rfl) rfl (di_any (dv_of (de_meth T.k_Years T.me_Years_months G_Years_months (hr.mono (by decide)) B_Years_months (takes_of rfl rfl rfl rfl) (dv_var (pv 0)) (da_cons (dv_var (pv 2)) da_nil)))) (dg_name SC.nd rfl (by first | exact Or.inl rfl | exact Or.inr rfl)) (dss_cons (ds_if (dt_cmp (do_ltE hr.units0) (dv_var (pv 3)) (dv_var (pv 5))) (dss_one (ds_ret (de_of (dv_tup (da_cons (dv_var (pv 2)) (da_cons (dv_var (pv 4)) (da_cons (dv_bin do_addE (dv_var (pv 3)) dv_int) da_nil))))))) dss_nil) (dss_cons (ds_aug SC.nd rfl (by first | exact Or.inl rfl | exact Or.inr rfl) (dv_var (pv 5)) di_sub) (dss_one (ds_aug SC.nd rfl (by first | exact Or.inl rfl | exact Or.inr rfl) dv_int di_add))))) (dss_one (ds_ret (de_of (dv_tup (da_cons (dv_var (pv 2)) (da_cons (dv_var (pv 4)) (da_cons (dv_bin do_addE (dv_var (pv 3)) dv_int) da_nil))))))))))
  exact ⟨fd, fn_V F SC hb, F.kp, F.bindsN (fun _ _ _ _ _ _ us hl => match us, hl with | [_, _], _ => rfl)⟩
theorem sc_date_of : FnScope ["calendar", "day"] ["calendar", "day"] (defScope s_date_of) := ⟨rfl, rfl, rfl, by decide +kernel, rfl, by decide +kernel, by decide +kernel⟩
theorem ok_date_of (T : Txt PySem.Challenge.pw_alldue_k29_dates_by_the_civil_count K mg) : ∃ fd, FnOk PySem.Challenge.pw_alldue_k29_dates_by_the_civil_count w K mg base (L2.CX PySem.Challenge.pw_alldue_k29_dates_by_the_civil_count w) 5 (He.ga K "date_of") fd ["calendar", "day"] (spV K m_date_of) ∧ PySem.W.keepIn K (.ref (He.ga K "date_of")) = true ∧ Binds K fd ["calendar", "day"] [] ∧ KPick K fd ["calendar", "day"] 0 ["day", "calendar"] [1, 0] := by
  obtain ⟨fd, F⟩ := T.d_date_of
  have SC := sc_date_of
  obtain ⟨_, G_Years___init__, K_Years___init__, B_Years___init__⟩ := ok_Years___init__ (w := w) (base := base) T
  obtain ⟨_, G_Years_date_at, K_Years_date_at, B_Years_date_at⟩ := ok_Years_date_at (w := w) (base := base) T
  obtain ⟨_, G_need_calendar, K_need_calendar, B_need_calendar⟩ := ok_need_calendar (w := w) (base := base) T
  have hb : Body PySem.Challenge.pw_alldue_k29_dates_by_the_civil_count w K mg base "date_of" (defBody s_date_of) (defScope s_date_of) (He.ga K "date_of") ["calendar", "day"] 4 b_date_of := fun cdv A outer s H E hr => by exact (dss_one (ds_ret (de_meth T.k_Years T.me_Years_date_at G_Years_date_at (hr.mono (by decide)) B_Years_date_at (takes_of rfl rfl rfl rfl) (dv_new T.mk_Years G_Years___init__ (hr.mono (by decide)) rfl T.g_Years B_Years___init__ (da_cons (dv_of (de_call G_need_calendar (hr.mono (by decide)) rfl T.g_need_calendar K_need_calendar B_need_calendar (takes_of rfl rfl rfl rfl) (da_cons (dv_var (pv 0)) da_nil))) da_nil)) (da_cons (dv_var (pv 1)) da_nil))))
  exact ⟨fd, fn_V F SC hb, F.kp, F.bindsN (fun _ _ _ _ _ _ us hl => match us, hl with | [_, _], _ => rfl), F.kpick 0 ["day", "calendar"] [1, 0] (fun _ _ _ _ _ _ us ws h1 h2 => match us, h1, ws, h2 with | [], _, [_, _], _ => rfl)⟩
theorem sc_weekday : FnScope ["day"] ["day"] (defScope s_weekday) := ⟨rfl, rfl, rfl, by decide +kernel, rfl, by decide +kernel, by decide +kernel⟩
theorem ok_weekday (T : Txt PySem.Challenge.pw_alldue_k29_dates_by_the_civil_count K mg) : ∃ fd, FnOk PySem.Challenge.pw_alldue_k29_dates_by_the_civil_count w K mg base (L2.CX PySem.Challenge.pw_alldue_k29_dates_by_the_civil_count w) 1 (He.ga K "weekday") fd ["day"] (spV K m_weekday) ∧ PySem.W.keepIn K (.ref (He.ga K "weekday")) = true ∧ Binds K fd ["day"] [] ∧ KPick K fd ["day"] 0 ["day"] [0] := by
  obtain ⟨fd, F⟩ := T.d_weekday
  have SC := sc_weekday
  have hb : Body PySem.Challenge.pw_alldue_k29_dates_by_the_civil_count w K mg base "weekday" (defBody s_weekday) (defScope s_weekday) (He.ga K "weekday") ["day"] 0 b_weekday := fun cdv A outer s H E hr => by exact (dss_one (ds_ret (de_of (dv_bin do_mod (dv_bin do_addE (dv_var (pv 0)) dv_int) (dv_con rfl (T.c_WEEK))))))
  exact ⟨fd, fn_V F SC hb, F.kp, F.bindsN (fun _ _ _ _ _ _ us hl => match us, hl with | [_], _ => rfl), F.kpick 0 ["day"] [0] (fun _ _ _ _ _ _ us ws h1 h2 => match us, h1, ws, h2 with | [], _, [_], _ => rfl)⟩
theorem sc_u_law_seed : FnScope ["script"] ["script"] (defScope s_u_law_seed) := ⟨rfl, rfl, rfl, by decide +kernel, rfl, by decide +kernel, by decide +kernel⟩
theorem ok_u_law_seed (T : Txt PySem.Challenge.pw_alldue_k29_dates_by_the_civil_count K mg) : ∃ fd, FnOk PySem.Challenge.pw_alldue_k29_dates_by_the_civil_count w K mg base (L2.CX PySem.Challenge.pw_alldue_k29_dates_by_the_civil_count w) 1 (He.ga K "_law_seed") fd ["script"] (spV K m_u_law_seed) ∧ PySem.W.keepIn K (.ref (He.ga K "_law_seed")) = true ∧ Binds K fd ["script"] [] := by
  obtain ⟨fd, F⟩ := T.d_u_law_seed
  have SC := sc_u_law_seed
  have hb : Body PySem.Challenge.pw_alldue_k29_dates_by_the_civil_count w K mg base "_law_seed" (defBody s_u_law_seed) (defScope s_u_law_seed) (He.ga K "_law_seed") ["script"] 0 b_u_law_seed := fun cdv A outer s H E hr => by exact (dss_one (ds_ret (de_lst (da_cons (dv_callTy (call_tuple_of) dc_tuple rfl T.f_tuple PyProof.Rows.boot_tuple (da_cons (dv_var (pv 0)) da_nil)) (da_cons dv_int (da_cons dv_int da_nil))))))
  exact ⟨fd, fn_V F SC hb, F.kp, F.bindsN (fun _ _ _ _ _ _ us hl => match us, hl with | [_], _ => rfl)⟩
theorem sc_u_law_any : FnScope ["seed", "many", "part", "turn", "cell", "mixed"] ["seed", "many"] (defScope s_u_law_any) := ⟨rfl, rfl, rfl, by decide +kernel, rfl, by decide +kernel, by decide +kernel⟩
theorem ok_u_law_any (T : Txt PySem.Challenge.pw_alldue_k29_dates_by_the_civil_count K mg) : ∃ fd, FnOk PySem.Challenge.pw_alldue_k29_dates_by_the_civil_count w K mg base (L2.CX PySem.Challenge.pw_alldue_k29_dates_by_the_civil_count w) 1 (He.ga K "_law_any") fd ["seed", "many"] (spIO K m_u_law_any) ∧ PySem.W.keepIn K (.ref (He.ga K "_law_any")) = true ∧ Binds K fd ["seed", "many"] [] := by
  obtain ⟨fd, F⟩ := T.d_u_law_any
  have SC := sc_u_law_any
  have hb : Body PySem.Challenge.pw_alldue_k29_dates_by_the_civil_count w K mg base "_law_any" (defBody s_u_law_any) (defScope s_u_law_any) (He.ga K "_law_any") ["seed", "many", "part", "turn", "cell", "mixed"] 0 b_u_law_any := fun cdv A outer s H E hr => by exact (dss_cons (ds_if (dt_cmp (do_ltE hr.units0) (dv_var (pv 1)) dv_int) (dss_one (ds_ret (de_of dv_int))) dss_nil) (dss_cons (ds_if (dt_cmp do_gt (dv_ixV (pv 0) dv_int) dv_int) (dss_cons (ds_asg (dv_tup (da_cons (dv_bin do_mod (dv_callTy (call_int1) dc_int rfl T.f_int PyProof.Rows.boot_int (da_cons (dv_ixV (pv 0) dv_int) da_nil)) (dv_var (pv 1))) (da_cons (dv_bin do_div (dv_ixV (pv 0) dv_int) (dv_var (pv 1))) da_nil))) (dg_tup rfl (dgs_cons (dg_name SC.nd rfl (by first | exact Or.inl rfl | exact Or.inr rfl)) (dgs_cons (dg_sub (W := W0) (pv 0) dv_int) dgs_nil)) (gMore_len (gMore_len gNone_len)))) (dss_one (ds_ret (de_move (pv 2))))) dss_nil) (dss_cons (ds_asg (dv_bin do_addE (dv_ixV (pv 0) dv_int) dv_int) (dg_sub (W := W0) (pv 0) dv_int)) (dss_cons (ds_asg (dv_ixV (pv 0) dv_int) (dg_name SC.nd rfl (by first | exact Or.inl rfl | exact Or.inr rfl))) (dss_cons (ds_set SC.nd rfl (by first | exact Or.inl rfl | exact Or.inr rfl) (de_if (dt_cmp do_gt (dv_callB (call_len) dc_len rfl T.f_len PySem.boot_len (da_cons (dv_ixV (pv 0) dv_int) da_nil)) dv_int) (de_of (dv_ix (dv_ixV (pv 0) dv_int) (dv_bin do_mod (dv_callTy (call_int1) dc_int rfl T.f_int PyProof.Rows.boot_int (da_cons (dv_bin do_sub (dv_var (pv 3)) dv_int) da_nil)) (dv_callB (call_len) dc_len rfl T.f_len PySem.boot_len (da_cons (dv_ixV (pv 0) dv_int) da_nil))))) (de_of dv_int))) (dss_cons (ds_if (DL.dt_of (dw_and (dt_cmp do_le (dv_var (pv 3)) (dv_callB (call_len) dc_len rfl T.f_len PySem.boot_len (da_cons (dv_ixV (pv 0) dv_int) da_nil))) (dw_and1 (dt_cmp do_ge (dv_var (pv 4)) (dv_bin do_pow dv_int dv_int))))) (dss_cons (ds_asg (dv_bin do_div (dv_var (pv 4)) (dv_var (pv 1))) (dg_sub (W := W0) (pv 0) dv_int)) (dss_one (ds_ret (de_of (dv_bin do_mod (dv_callTy (call_int1) dc_int rfl T.f_int PyProof.Rows.boot_int (da_cons (dv_var (pv 4)) da_nil)) (dv_var (pv 1))))))) dss_nil) (dss_cons (ds_asg (dv_bin do_mod (dv_callTy (call_int1) dc_int rfl T.f_int PyProof.Rows.boot_int (da_cons (dv_bin do_mul (dv_bin do_addE (dv_bin do_mod (dv_callTy (call_int1) dc_int rfl T.f_int PyProof.Rows.boot_int (da_cons (dv_var (pv 4)) da_nil)) dv_int) (dv_bin do_mul dv_int (dv_var (pv 3)))) dv_int) da_nil)) dv_int) (dg_name SC.nd rfl (by first | exact Or.inl rfl | exact Or.inr rfl))) (dss_cons (ds_asg (dv_bin do_mod (dv_callTy (call_int1) dc_int rfl T.f_int PyProof.Rows.boot_int (da_cons (dv_bin do_addE (dv_bin do_mul (dv_var (pv 5)) (dv_var (pv 5))) (dv_bin do_mul (dv_var (pv 3)) dv_int)) da_nil)) dv_int) (dg_name SC.nd rfl (by first | exact Or.inl rfl | exact Or.inr rfl))) (dss_cons (ds_asg (dv_bin do_mod (dv_callTy (call_int1) dc_int rfl T.f_int PyProof.Rows.boot_int (da_cons (dv_bin do_mul (dv_bin do_addE (dv_var (pv 5)) (dv_var (pv 3))) (dv_bin do_addE (dv_bin do_addE (dv_var (pv 5)) (dv_bin do_mul dv_int (dv_var (pv 3)))) dv_int)) da_nil)) dv_int) (dg_name SC.nd rfl (by first | exact Or.inl rfl | exact Or.inr rfl))) (dss_one (ds_ret (de_of (dv_bin do_mod (dv_callTy (call_int1) dc_int rfl T.f_int PyProof.Rows.boot_int (da_cons (dv_bin do_div (dv_var (pv 5)) dv_int) da_nil)) (dv_var (pv 1)))))))))))))))
  exact ⟨fd, fn_IO2 F SC hb, F.kp, F.bindsN (fun _ _ _ _ _ _ us hl => match us, hl with | [_, _], _ => rfl)⟩
theorem sc_u_law_one_of : FnScope ["seed", "items"] ["seed", "items"] (defScope s_u_law_one_of) := ⟨rfl, rfl, rfl, by decide +kernel, rfl, by decide +kernel, by decide +kernel⟩
theorem ok_u_law_one_of (T : Txt PySem.Challenge.pw_alldue_k29_dates_by_the_civil_count K mg) : ∃ fd, FnOk PySem.Challenge.pw_alldue_k29_dates_by_the_civil_count w K mg base (L2.CX PySem.Challenge.pw_alldue_k29_dates_by_the_civil_count w) 2 (He.ga K "_law_one_of") fd ["seed", "items"] (spIO K m_u_law_one_of) ∧ PySem.W.keepIn K (.ref (He.ga K "_law_one_of")) = true ∧ Binds K fd ["seed", "items"] [] := by
  obtain ⟨fd, F⟩ := T.d_u_law_one_of
  have SC := sc_u_law_one_of
  obtain ⟨_, G_u_law_any, K_u_law_any, B_u_law_any⟩ := ok_u_law_any (w := w) (base := base) T
  have hb : Body PySem.Challenge.pw_alldue_k29_dates_by_the_civil_count w K mg base "_law_one_of" (defBody s_u_law_one_of) (defScope s_u_law_one_of) (He.ga K "_law_one_of") ["seed", "items"] 1 b_u_law_one_of := fun cdv A outer s H E hr => by exact (dss_one (ds_ret (de_of (dv_ixV (pv 1) (dv_of (de_callIO G_u_law_any (hr.mono (by decide)) rfl T.g__law_any K_u_law_any B_u_law_any (takes_of rfl rfl rfl rfl) (pv 0) (da_cons (dv_lenV (pv 1) rfl T.f_len) da_nil)))))))
  exact ⟨fd, fn_IO2 F SC hb, F.kp, F.bindsN (fun _ _ _ _ _ _ us hl => match us, hl with | [_, _], _ => rfl)⟩
theorem sc_u_law_far : FnScope ["seed", "sign", "some"] ["seed"] (defScope s_u_law_far) := ⟨rfl, rfl, rfl, by decide +kernel, rfl, by decide +kernel, by decide +kernel⟩
theorem ok_u_law_far (T : Txt PySem.Challenge.pw_alldue_k29_dates_by_the_civil_count K mg) : ∃ fd, FnOk PySem.Challenge.pw_alldue_k29_dates_by_the_civil_count w K mg base (L2.CX PySem.Challenge.pw_alldue_k29_dates_by_the_civil_count w) 2 (He.ga K "_law_far") fd ["seed"] (spIO K m_u_law_far) ∧ PySem.W.keepIn K (.ref (He.ga K "_law_far")) = true ∧ Binds K fd ["seed"] [] := by
  obtain ⟨fd, F⟩ := T.d_u_law_far
  have SC := sc_u_law_far
  obtain ⟨_, G_u_law_any, K_u_law_any, B_u_law_any⟩ := ok_u_law_any (w := w) (base := base) T
  have hb : Body PySem.Challenge.pw_alldue_k29_dates_by_the_civil_count w K mg base "_law_far" (defBody s_u_law_far) (defScope s_u_law_far) (He.ga K "_law_far") ["seed", "sign", "some"] 1 b_u_law_far := fun cdv A outer s H E hr => by exact (dss_cons (ds_par rfl SC.nd rfl rfl (by decide) rfl rfl (da_cons (dv_bin do_sub dv_int (dv_bin do_mul dv_int (dv_of (de_callIO G_u_law_any (hr.mono (by decide)) rfl T.g__law_any K_u_law_any B_u_law_any (takes_of rfl rfl rfl rfl) (pv 0) (da_cons dv_int da_nil))))) (da_cons (dv_of (de_lst (da_cons (dv_of (de_callIO G_u_law_any (hr.mono (by decide)) rfl T.g__law_any K_u_law_any B_u_law_any (takes_of rfl rfl rfl rfl) (pv 0) (da_cons dv_int da_nil))) (da_cons (dv_bin do_sub dv_int (dv_of (de_callIO G_u_law_any (hr.mono (by decide)) rfl T.g__law_any K_u_law_any B_u_law_any (takes_of rfl rfl rfl rfl) (pv 0) (da_cons dv_int da_nil)))) (da_cons (dv_bin do_addE (dv_bin do_pow dv_int dv_int) (dv_of (de_callIO G_u_law_any (hr.mono (by decide)) rfl T.g__law_any K_u_law_any B_u_law_any (takes_of rfl rfl rfl rfl) (pv 0) (da_cons dv_int da_nil)))) da_nil))))) da_nil)) rfl) (dss_cons (ds_asg (dv_bin do_addE (dv_var (pv 2)) (dv_of (de_lst (da_cons (dv_bin do_sub (dv_bin do_pow dv_int dv_int) (dv_of (de_callIO G_u_law_any (hr.mono (by decide)) rfl T.g__law_any K_u_law_any B_u_law_any (takes_of rfl rfl rfl rfl) (pv 0) (da_cons dv_int da_nil)))) (da_cons (dv_bin do_addE dv_int (dv_of (de_callIO G_u_law_any (hr.mono (by decide)) rfl T.g__law_any K_u_law_any B_u_law_any (takes_of rfl rfl rfl rfl) (pv 0) (da_cons dv_int da_nil)))) da_nil))))) (dg_name SC.nd rfl (by first | exact Or.inl rfl | exact Or.inr rfl))) (dss_one (ds_ret (de_of (dv_bin do_mul (dv_var (pv 1)) (dv_ixV (pv 2) (dv_of (de_callIO G_u_law_any (hr.mono (by decide)) rfl T.g__law_any K_u_law_any B_u_law_any (takes_of rfl rfl rfl rfl) (pv 0) (da_cons dv_int da_nil))))))))))
  exact ⟨fd, fn_IO2 F SC hb, F.kp, F.bindsN (fun _ _ _ _ _ _ us hl => match us, hl with | [_], _ => rfl)⟩
theorem sc_u_law_named : FnScope ["name", "short", "long", "k"] ["name"] (defScope s_u_law_named) := ⟨rfl, rfl, rfl, by decide +kernel, rfl, by decide +kernel, by decide +kernel⟩
theorem ok_u_law_named (T : Txt PySem.Challenge.pw_alldue_k29_dates_by_the_civil_count K mg) : ∃ fd, FnOk PySem.Challenge.pw_alldue_k29_dates_by_the_civil_count w K mg base (L2.CX PySem.Challenge.pw_alldue_k29_dates_by_the_civil_count w) 1 (He.ga K "_law_named") fd ["name"] (spV K m_u_law_named) ∧ PySem.W.keepIn K (.ref (He.ga K "_law_named")) = true ∧ Binds K fd ["name"] [] := by
  obtain ⟨fd, F⟩ := T.d_u_law_named
  have SC := sc_u_law_named
  have hb : Body PySem.Challenge.pw_alldue_k29_dates_by_the_civil_count w K mg base "_law_named" (defBody s_u_law_named) (defScope s_u_law_named) (He.ga K "_law_named") ["name", "short", "long", "k"] 0 b_u_law_named := fun cdv A outer s H E hr => by exact (dss_cons (ds_asg (dv_tup (da_cons (dv_tup (da_cons dv_int (da_cons dv_int (da_cons dv_int (da_cons dv_int (da_cons dv_int (da_cons dv_int (da_cons dv_int (da_cons dv_int (da_cons dv_int (da_cons dv_int (da_cons dv_int (da_cons dv_int da_nil))))))))))))) (da_cons (dv_tup (da_cons dv_int (da_cons dv_int (da_cons dv_int (da_cons dv_int (da_cons dv_int (da_cons dv_int (da_cons dv_int (da_cons dv_int (da_cons dv_int (da_cons dv_int (da_cons dv_int (da_cons dv_int da_nil))))))))))))) da_nil))) (dg_tup rfl (dgs_cons (dg_name SC.nd rfl (by first | exact Or.inl rfl | exact Or.inr rfl)) (dgs_cons (dg_name SC.nd rfl (by first | exact Or.inl rfl | exact Or.inr rfl)) dgs_nil)) (gMore_len (gMore_len gNone_len)))) (dss_cons (ds_if (dt_cmp (do_eq hr.units) (dv_var (pv 0)) dv_str) (dss_one (ds_ret (de_of (dv_tup (da_cons dv_int (da_cons dv_int (da_cons (dv_tup (da_cons (dv_var (pv 1)) (da_cons (dv_var (pv 2)) da_nil))) (da_cons (dv_callTy (call_tuple_of) dc_tuple rfl T.f_tuple PyProof.Rows.boot_tuple (da_cons (dv_of (de_lc (own := [("k", 3)]) rfl SC.nd (di_range1 rfl T.f_range (da_cons dv_int da_nil)) (blkOk_by (N := ["name", "short", "long", "k"]) (sc := defScope s_u_law_named) (by decide +kernel)) (fun _ _ _ _ _ => (dg_name SC.nd rfl (by first | exact Or.inl rfl | exact Or.inr rfl))) (fun _ _ _ _ _ => dts_nil) (fun _ _ _ _ _ => (dv_callTy (call_int1) dc_int rfl T.f_int PyProof.Rows.boot_int (da_cons (dv_and (dv_cmp (do_eq hr.units) (dv_bin do_mod (dv_callTy (call_int1) dc_int rfl T.f_int PyProof.Rows.boot_int (da_cons (dv_var (pv 3)) da_nil)) dv_int) dv_int) (dv_one (dv_or (dv_cmp do_gt (dv_bin do_mod (dv_callTy (call_int1) dc_int rfl T.f_int PyProof.Rows.boot_int (da_cons (dv_var (pv 3)) da_nil)) dv_int) dv_int) (dv_one (dv_cmp (do_eq hr.units) (dv_bin do_mod (dv_callTy (call_int1) dc_int rfl T.f_int PyProof.Rows.boot_int (da_cons (dv_var (pv 3)) da_nil)) dv_int) dv_int))))) da_nil))))) da_nil)) da_nil)))))))) dss_nil) (dss_cons (ds_if (dt_cmp (do_eq hr.units) (dv_var (pv 0)) dv_str) (dss_one (ds_ret (de_of (dv_tup (da_cons dv_int (da_cons dv_int (da_cons (dv_tup (da_cons (dv_var (pv 1)) (da_cons (dv_var (pv 2)) da_nil))) (da_cons (dv_tup (da_cons dv_int (da_cons dv_int (da_cons dv_int (da_cons dv_int da_nil))))) da_nil)))))))) dss_nil) (dss_cons (ds_if (dt_cmp (do_eq hr.units) (dv_var (pv 0)) dv_str) (dss_one (ds_ret (de_of (dv_tup (da_cons (dv_neg dv_int) (da_cons dv_int (da_cons (dv_tup (da_cons (dv_bin do_mul (dv_tup (da_cons dv_int (da_cons dv_int da_nil))) dv_int) (da_cons (dv_bin do_addE (dv_bin do_mul (dv_tup (da_cons dv_int (da_cons dv_int da_nil))) dv_int) (dv_tup (da_cons dv_int (da_cons dv_int da_nil)))) da_nil))) (da_cons (dv_callTy (call_tuple_of) dc_tuple rfl T.f_tuple PyProof.Rows.boot_tuple (da_cons (dv_of (de_lc (own := [("k", 3)]) rfl SC.nd (di_range2 rfl T.f_range (da_cons dv_int (da_cons dv_int da_nil))) (blkOk_by (N := ["name", "short", "long", "k"]) (sc := defScope s_u_law_named) (by decide +kernel)) (fun _ _ _ _ _ => (dg_name SC.nd rfl (by first | exact Or.inl rfl | exact Or.inr rfl))) (fun _ _ _ _ _ => dts_nil) (fun _ _ _ _ _ => (dv_callTy (call_int1) dc_int rfl T.f_int PyProof.Rows.boot_int (da_cons (dv_cmp (do_in hr.units65) (dv_var (pv 3)) (dv_tup (da_cons dv_int (da_cons dv_int (da_cons dv_int (da_cons dv_int (da_cons dv_int (da_cons dv_int (da_cons dv_int (da_cons dv_int (da_cons dv_int (da_cons dv_int (da_cons dv_int da_nil))))))))))))) da_nil))))) da_nil)) da_nil)))))))) dss_nil) (dss_one (ds_ret (de_of (dv_tup (da_cons (dv_neg dv_int) (da_cons dv_int (da_cons (dv_tup (da_cons (dv_bin do_addE (dv_bin do_mul (dv_tup (da_cons dv_int da_nil)) dv_int) (dv_tup (da_cons dv_int da_nil))) (da_cons (dv_bin do_addE (dv_bin do_mul (dv_tup (da_cons dv_int da_nil)) dv_int) (dv_tup (da_cons dv_int da_nil))) da_nil))) (da_cons (dv_tup (da_cons dv_int (da_cons dv_int (da_cons dv_int (da_cons dv_int da_nil))))) da_nil))))))))))))
  exact ⟨fd, fn_V F SC hb, F.kp, F.bindsN (fun _ _ _ _ _ _ us hl => match us, hl with | [_], _ => rfl)⟩
theorem sc_u_law_made : FnScope ["calendar"] ["calendar"] (defScope s_u_law_made) := ⟨rfl, rfl, rfl, by decide +kernel, rfl, by decide +kernel, by decide +kernel⟩
theorem ok_u_law_made (T : Txt PySem.Challenge.pw_alldue_k29_dates_by_the_civil_count K mg) : ∃ fd, FnOk PySem.Challenge.pw_alldue_k29_dates_by_the_civil_count w K mg base (L2.CX PySem.Challenge.pw_alldue_k29_dates_by_the_civil_count w) 2 (He.ga K "_law_made") fd ["calendar"] (spV K m_u_law_made) ∧ PySem.W.keepIn K (.ref (He.ga K "_law_made")) = true ∧ Binds K fd ["calendar"] [] := by
  obtain ⟨fd, F⟩ := T.d_u_law_made
  have SC := sc_u_law_made
  obtain ⟨_, G_u_law_named, K_u_law_named, B_u_law_named⟩ := ok_u_law_named (w := w) (base := base) T
  have hb : Body PySem.Challenge.pw_alldue_k29_dates_by_the_civil_count w K mg base "_law_made" (defBody s_u_law_made) (defScope s_u_law_made) (He.ga K "_law_made") ["calendar"] 1 b_u_law_made := fun cdv A outer s H E hr => by exact (dss_one (ds_ret (de_if (dt_val (dv_is (.b (by decide)) rfl T.f_isinstance (dv_var (pv 0)) (pe_bltn rfl T.f_str PyProof.Rows.boot_str rfl))) (de_call G_u_law_named (hr.mono (by decide)) rfl T.g__law_named K_u_law_named B_u_law_named (takes_of rfl rfl rfl rfl) (da_cons (dv_var (pv 0)) da_nil)) (de_move (pv 0)))))
  exact ⟨fd, fn_V F SC hb, F.kp, F.bindsN (fun _ _ _ _ _ _ us hl => match us, hl with | [_], _ => rfl)⟩
theorem sc_u_law_year_lengths : FnScope ["calendar", "epoch", "base", "kinds", "years", "kind"] ["calendar"] (defScope s_u_law_year_lengths) := ⟨rfl, rfl, rfl, by decide +kernel, rfl, by decide +kernel, by decide +kernel⟩
theorem ok_u_law_year_lengths (T : Txt PySem.Challenge.pw_alldue_k29_dates_by_the_civil_count K mg) : ∃ fd, FnOk PySem.Challenge.pw_alldue_k29_dates_by_the_civil_count w K mg base (L2.CX PySem.Challenge.pw_alldue_k29_dates_by_the_civil_count w) 3 (He.ga K "_law_year_lengths") fd ["calendar"] (spV K m_u_law_year_lengths) ∧ PySem.W.keepIn K (.ref (He.ga K "_law_year_lengths")) = true ∧ Binds K fd ["calendar"] [] := by
  obtain ⟨fd, F⟩ := T.d_u_law_year_lengths
  have SC := sc_u_law_year_lengths
  obtain ⟨_, G_u_law_made, K_u_law_made, B_u_law_made⟩ := ok_u_law_made (w := w) (base := base) T
  have hb : Body PySem.Challenge.pw_alldue_k29_dates_by_the_civil_count w K mg base "_law_year_lengths" (defBody s_u_law_year_lengths) (defScope s_u_law_year_lengths) (He.ga K "_law_year_lengths") ["calendar", "epoch", "base", "kinds", "years", "kind"] 2 b_u_law_year_lengths := fun cdv A outer s H E hr => by exact (dss_cons (ds_asg (dv_of (de_call G_u_law_made (hr.mono (by decide)) rfl T.g__law_made K_u_law_made B_u_law_made (takes_of rfl rfl rfl rfl) (da_cons (dv_var (pv 0)) da_nil))) (dg_tup rfl (dgs_cons (dg_name SC.nd rfl (by first | exact Or.inl rfl | exact Or.inr rfl)) (dgs_cons (dg_name SC.nd rfl (by first | exact Or.inl rfl | exact Or.inr rfl)) (dgs_cons (dg_name SC.nd rfl (by first | exact Or.inl rfl | exact Or.inr rfl)) (dgs_cons (dg_name SC.nd rfl (by first | exact Or.inl rfl | exact Or.inr rfl)) dgs_nil)))) (gMore_len (gMore_len (gMore_len (gMore_len gNone_len)))))) (dss_one (ds_ret (de_lc (own := [("kind", 5)]) rfl SC.nd (di_any (dv_var (pv 4))) (blkOk_by (N := ["calendar", "epoch", "base", "kinds", "years", "kind"]) (sc := defScope s_u_law_year_lengths) (by decide +kernel)) (fun _ _ _ _ _ => (dg_name SC.nd rfl (by first | exact Or.inl rfl | exact Or.inr rfl))) (fun _ _ _ _ _ => dts_nil) (fun _ _ _ _ _ => (dv_callB (cr_sumA rfl) dc_sum rfl T.f_sum boot_sum (da_cons (dv_ixV (pv 3) (dv_var (pv 5))) da_nil)))))))
  exact ⟨fd, fn_V F SC hb, F.kp, F.bindsN (fun _ _ _ _ _ _ us hl => match us, hl with | [_], _ => rfl)⟩
theorem sc_u_law_kind_of : FnScope ["calendar", "year", "epoch", "base", "kinds", "years"] ["calendar", "year"] (defScope s_u_law_kind_of) := ⟨rfl, rfl, rfl, by decide +kernel, rfl, by decide +kernel, by decide +kernel⟩
theorem ok_u_law_kind_of (T : Txt PySem.Challenge.pw_alldue_k29_dates_by_the_civil_count K mg) : ∃ fd, FnOk PySem.Challenge.pw_alldue_k29_dates_by_the_civil_count w K mg base (L2.CX PySem.Challenge.pw_alldue_k29_dates_by_the_civil_count w) 3 (He.ga K "_law_kind_of") fd ["calendar", "year"] (spV K m_u_law_kind_of) ∧ PySem.W.keepIn K (.ref (He.ga K "_law_kind_of")) = true ∧ Binds K fd ["calendar", "year"] [] := by
  obtain ⟨fd, F⟩ := T.d_u_law_kind_of
  have SC := sc_u_law_kind_of
  obtain ⟨_, G_u_law_made, K_u_law_made, B_u_law_made⟩ := ok_u_law_made (w := w) (base := base) T
  have hb : Body PySem.Challenge.pw_alldue_k29_dates_by_the_civil_count w K mg base "_law_kind_of" (defBody s_u_law_kind_of) (defScope s_u_law_kind_of) (He.ga K "_law_kind_of") ["calendar", "year", "epoch", "base", "kinds", "years"] 2 b_u_law_kind_of := fun cdv A outer s H E hr => by exact (dss_cons (ds_asg (dv_of (de_call G_u_law_made (hr.mono (by decide)) rfl T.g__law_made K_u_law_made B_u_law_made (takes_of rfl rfl rfl rfl) (da_cons (dv_var (pv 0)) da_nil))) (dg_tup rfl (dgs_cons (dg_name SC.nd rfl (by first | exact Or.inl rfl | exact Or.inr rfl)) (dgs_cons (dg_name SC.nd rfl (by first | exact Or.inl rfl | exact Or.inr rfl)) (dgs_cons (dg_name SC.nd rfl (by first | exact Or.inl rfl | exact Or.inr rfl)) (dgs_cons (dg_name SC.nd rfl (by first | exact Or.inl rfl | exact Or.inr rfl)) dgs_nil)))) (gMore_len (gMore_len (gMore_len (gMore_len gNone_len)))))) (dss_one (ds_ret (de_of (dv_ixV (pv 4) (dv_ixV (pv 5) (dv_bin do_mod (dv_callTy (call_int1) dc_int rfl T.f_int PyProof.Rows.boot_int (da_cons (dv_bin do_sub (dv_var (pv 1)) (dv_var (pv 3))) da_nil)) (dv_lenV (pv 5) rfl T.f_len))))))))
  exact ⟨fd, fn_V F SC hb, F.kp, F.bindsN (fun _ _ _ _ _ _ us hl => match us, hl with | [_, _], _ => rfl)⟩
theorem sc_u_law_year_begin : FnScope ["calendar", "year", "epoch", "base", "kinds", "years", "lengths", "gone"] ["calendar", "year"] (defScope s_u_law_year_begin) := ⟨rfl, rfl, rfl, by decide +kernel, rfl, by decide +kernel, by decide +kernel⟩
theorem ok_u_law_year_begin (T : Txt PySem.Challenge.pw_alldue_k29_dates_by_the_civil_count K mg) : ∃ fd, FnOk PySem.Challenge.pw_alldue_k29_dates_by_the_civil_count w K mg base (L2.CX PySem.Challenge.pw_alldue_k29_dates_by_the_civil_count w) 4 (He.ga K "_law_year_begin") fd ["calendar", "year"] (spV K m_u_law_year_begin) ∧ PySem.W.keepIn K (.ref (He.ga K "_law_year_begin")) = true ∧ Binds K fd ["calendar", "year"] [] := by
  obtain ⟨fd, F⟩ := T.d_u_law_year_begin
  have SC := sc_u_law_year_begin
  obtain ⟨_, G_u_law_made, K_u_law_made, B_u_law_made⟩ := ok_u_law_made (w := w) (base := base) T
  obtain ⟨_, G_u_law_year_lengths, K_u_law_year_lengths, B_u_law_year_lengths⟩ := ok_u_law_year_lengths (w := w) (base := base) T
  have hb : Body PySem.Challenge.pw_alldue_k29_dates_by_the_civil_count w K mg base "_law_year_begin" (defBody s_u_law_year_begin) (defScope s_u_law_year_begin) (He.ga K "_law_year_begin") ["calendar", "year", "epoch", "base", "kinds", "years", "lengths", "gone"] 3 b_u_law_year_begin := fun cdv A outer s H E hr => by exact (dss_cons (ds_asg (dv_of (de_call G_u_law_made (hr.mono (by decide)) rfl T.g__law_made K_u_law_made B_u_law_made (takes_of rfl rfl rfl rfl) (da_cons (dv_var (pv 0)) da_nil))) (dg_tup rfl (dgs_cons (dg_name SC.nd rfl (by first | exact Or.inl rfl | exact Or.inr rfl)) (dgs_cons (dg_name SC.nd rfl (by first | exact Or.inl rfl | exact Or.inr rfl)) (dgs_cons (dg_name SC.nd rfl (by first | exact Or.inl rfl | exact Or.inr rfl)) (dgs_cons (dg_name SC.nd rfl (by first | exact Or.inl rfl | exact Or.inr rfl)) dgs_nil)))) (gMore_len (gMore_len (gMore_len (gMore_len gNone_len)))))) (dss_cons (ds_par rfl SC.nd rfl rfl (by decide) rfl rfl (da_cons (dv_of (de_call G_u_law_year_lengths (hr.mono (by decide)) rfl T.g__law_year_lengths K_u_law_year_lengths B_u_law_year_lengths (takes_of rfl rfl rfl rfl) (da_cons (dv_var (pv 0)) da_nil))) (da_cons (dv_bin do_div (dv_bin do_sub (dv_var (pv 1)) (dv_var (pv 3))) (dv_lenV (pv 5) rfl T.f_len)) da_nil)) rfl) (dss_one (ds_ret (de_of (dv_bin do_addE (dv_bin do_addE (dv_var (pv 2)) (dv_bin do_mul (dv_var (pv 7)) (dv_callB (cr_sumA rfl) dc_sum rfl T.f_sum boot_sum (da_cons (dv_var (pv 6)) da_nil)))) (dv_callB (cr_sumA rfl) dc_sum rfl T.f_sum boot_sum (da_cons (dv_of (de_slice (dv_var (pv 6)) do_none (do_some (dv_bin do_sub (dv_bin do_sub (dv_var (pv 1)) (dv_var (pv 3))) (dv_bin do_mul (dv_var (pv 7)) (dv_lenV (pv 5) rfl T.f_len)))))) da_nil))))))))
  exact ⟨fd, fn_V F SC hb, F.kp, F.bindsN (fun _ _ _ _ _ _ us hl => match us, hl with | [_, _], _ => rfl)⟩
theorem sc_u_law_date_of : FnScope ["calendar", "day", "epoch", "base", "kinds", "years", "lengths", "gone", "left", "year", "length", "months", "month"] ["calendar", "day"] (defScope s_u_law_date_of) := ⟨rfl, rfl, rfl, by decide +kernel, rfl, by decide +kernel, by decide +kernel⟩
theorem ok_u_law_date_of (T : Txt PySem.Challenge.pw_alldue_k29_dates_by_the_civil_count K mg) : ∃ fd, FnOk PySem.Challenge.pw_alldue_k29_dates_by_the_civil_count w K mg base (L2.CX PySem.Challenge.pw_alldue_k29_dates_by_the_civil_count w) 4 (He.ga K "_law_date_of") fd ["calendar", "day"] (spV K m_u_law_date_of) ∧ PySem.W.keepIn K (.ref (He.ga K "_law_date_of")) = true ∧ Binds K fd ["calendar", "day"] [] := by
  obtain ⟨fd, F⟩ := T.d_u_law_date_of
  have SC := sc_u_law_date_of
  obtain ⟨_, G_u_law_kind_of, K_u_law_kind_of, B_u_law_kind_of⟩ := ok_u_law_kind_of (w := w) (base := base) T
  obtain ⟨_, G_u_law_made, K_u_law_made, B_u_law_made⟩ := ok_u_law_made (w := w) (base := base) T
  obtain ⟨_, G_u_law_year_lengths, K_u_law_year_lengths, B_u_law_year_lengths⟩ := ok_u_law_year_lengths (w := w) (base := base) T
  have hb : Body PySem.Challenge.pw_alldue_k29_dates_by_the_civil_count w K mg base "_law_date_of" (defBody s_u_law_date_of) (defScope s_u_law_date_of) (He.ga K "_law_date_of") ["calendar", "day", "epoch", "base", "kinds", "years", "lengths", "gone", "left", "year", "length", "months", "month"] 3 b_u_law_date_of := fun cdv A outer s H E hr => by exact (dss_cons (ds_asg (dv_of (de_call G_u_law_made (hr.mono (by decide)) rfl T.g__law_made K_u_law_made B_u_law_made (takes_of rfl rfl rfl rfl) (da_cons (dv_var (pv 0)) da_nil))) (dg_tup rfl (dgs_cons (dg_name SC.nd rfl (by first | exact Or.inl rfl | exact Or.inr rfl)) (dgs_cons (dg_name SC.nd rfl (by first | exact Or.inl rfl | exact Or.inr rfl)) (dgs_cons (dg_name SC.nd rfl (by first | exact Or.inl rfl | exact Or.inr rfl)) (dgs_cons (dg_name SC.nd rfl (by first | exact Or.inl rfl | exact Or.inr rfl)) dgs_nil)))) (gMore_len (gMore_len (gMore_len (gMore_len gNone_len)))))) (dss_cons (ds_set SC.nd rfl (by first | exact Or.inl rfl | exact Or.inr rfl) (de_call G_u_law_year_lengths (hr.mono (by decide)) rfl T.g__law_year_lengths K_u_law_year_lengths B_u_law_year_lengths (takes_of rfl rfl rfl rfl) (da_cons (dv_var (pv 0)) da_nil))) (dss_cons (ds_asg (dv_bin do_div (dv_bin do_sub (dv_var (pv 1)) (dv_var (pv 2))) (dv_callB (cr_sumA rfl) dc_sum rfl T.f_sum boot_sum (da_cons (dv_var (pv 6)) da_nil))) (dg_name SC.nd rfl (by first | exact Or.inl rfl | exact Or.inr rfl))) (dss_cons (ds_par rfl SC.nd rfl rfl (by decide) rfl rfl (da_cons (dv_bin do_sub (dv_bin do_sub (dv_var (pv 1)) (dv_var (pv 2))) (dv_bin do_mul (dv_var (pv 7)) (dv_callB (cr_sumA rfl) dc_sum rfl T.f_sum boot_sum (da_cons (dv_var (pv 6)) da_nil)))) (da_cons (dv_bin do_addE (dv_var (pv 3)) (dv_bin do_mul (dv_var (pv 7)) (dv_lenV (pv 5) rfl T.f_len))) da_nil)) rfl) (dss_cons (ds_for (passes_of rfl) rfl (di_any (dv_var (pv 6))) (dg_name SC.nd rfl (by first | exact Or.inl rfl | exact Or.inr rfl)) (dss_cons (ds_if (dt_cmp (do_ltE hr.units0) (dv_var (pv 8)) (dv_var (pv 10))) (dss_one ds_break) dss_nil) (dss_one (ds_par rfl SC.nd rfl rfl (by decide) rfl rfl (da_cons (dv_bin do_sub (dv_var (pv 8)) (dv_var (pv 10))) (da_cons (dv_bin do_addE (dv_var (pv 9)) dv_int) da_nil)) rfl)))) (dss_cons (ds_set SC.nd rfl (by first | exact Or.inl rfl | exact Or.inr rfl) (de_call G_u_law_kind_of (hr.mono (by decide)) rfl T.g__law_kind_of K_u_law_kind_of B_u_law_kind_of (takes_of rfl rfl rfl rfl) (da_cons (dv_var (pv 0)) (da_cons (dv_var (pv 9)) da_nil)))) (dss_cons (ds_for (passes_of rfl) rfl (di_range2 rfl T.f_range (da_cons dv_int (da_cons (dv_bin do_addE (dv_lenV (pv 11) rfl T.f_len) dv_int) da_nil))) (dg_name SC.nd rfl (by first | exact Or.inl rfl | exact Or.inr rfl)) (dss_cons (ds_if (dt_cmp (do_ltE hr.units0) (dv_var (pv 8)) (dv_ixV (pv 11) (dv_bin do_sub (dv_var (pv 12)) dv_int))) (dss_one (ds_ret (de_of (dv_tup (da_cons (dv_var (pv 9)) (da_cons (dv_var (pv 12)) (da_cons (dv_bin do_addE (dv_var (pv 8)) dv_int) da_nil))))))) dss_nil) (dss_one (ds_asg (dv_bin do_sub (dv_var (pv 8)) (dv_ixV (pv 11) (dv_bin do_sub (dv_var (pv 12)) dv_int))) (dg_name SC.nd rfl (by first | exact Or.inl rfl | exact Or.inr rfl)))))) (dss_one (ds_ret (de_of dv_non))))))))))
  exact ⟨fd, fn_V F SC hb, F.kp, F.bindsN (fun _ _ _ _ _ _ us hl => match us, hl with | [_, _], _ => rfl)⟩
theorem sc_u_law_drawn_made : FnScope ["seed", "kinds", "k", "month", "years"] ["seed"] (defScope s_u_law_drawn_made) := ⟨rfl, rfl, rfl, by decide +kernel, rfl, by decide +kernel, by decide +kernel⟩
theorem ok_u_law_drawn_made (T : Txt PySem.Challenge.pw_alldue_k29_dates_by_the_civil_count K mg) : ∃ fd, FnOk PySem.Challenge.pw_alldue_k29_dates_by_the_civil_count w K mg base (L2.CX PySem.Challenge.pw_alldue_k29_dates_by_the_civil_count w) 3 (He.ga K "_law_drawn_made") fd ["seed"] (spIO K m_u_law_drawn_made) ∧ PySem.W.keepIn K (.ref (He.ga K "_law_drawn_made")) = true ∧ Binds K fd ["seed"] [] := by
  obtain ⟨fd, F⟩ := T.d_u_law_drawn_made
  have SC := sc_u_law_drawn_made
  obtain ⟨_, G_u_law_any, K_u_law_any, B_u_law_any⟩ := ok_u_law_any (w := w) (base := base) T
  obtain ⟨_, G_u_law_one_of, K_u_law_one_of, B_u_law_one_of⟩ := ok_u_law_one_of (w := w) (base := base) T
  have hb : Body PySem.Challenge.pw_alldue_k29_dates_by_the_civil_count w K mg base "_law_drawn_made" (defBody s_u_law_drawn_made) (defScope s_u_law_drawn_made) (He.ga K "_law_drawn_made") ["seed", "kinds", "k", "month", "years"] 2 b_u_law_drawn_made := fun cdv A outer s H E hr => by exact (dss_cons (ds_set SC.nd rfl (by first | exact Or.inl rfl | exact Or.inr rfl) (de_lst da_nil)) (dss_cons (ds_for (passes_of rfl) rfl (di_range1 rfl T.f_range (da_cons (dv_bin do_addE dv_int (dv_of (de_callIO G_u_law_any (hr.mono (by decide)) rfl T.g__law_any K_u_law_any B_u_law_any (takes_of rfl rfl rfl rfl) (pv 0) (da_cons dv_int da_nil)))) da_nil)) (dg_name SC.nd rfl (by first | exact Or.inl rfl | exact Or.inr rfl)) (dss_one (ds_app (pv 1) (dv_callTy (call_tuple_of) dc_tuple rfl T.f_tuple PyProof.Rows.boot_tuple (da_cons (dv_of (de_lc (own := [("month", 3)]) rfl SC.nd (di_range1 rfl T.f_range (da_cons (dv_bin do_addE dv_int (dv_of (de_callIO G_u_law_any (hr.mono (by decide)) rfl T.g__law_any K_u_law_any B_u_law_any (takes_of rfl rfl rfl rfl) (pv 0) (da_cons dv_int da_nil)))) da_nil)) (blkOk_by (N := ["seed", "kinds", "k", "month", "years"]) (sc := defScope s_u_law_drawn_made) (by decide +kernel)) (fun _ _ _ _ _ => (dg_name SC.nd rfl (by first | exact Or.inl rfl | exact Or.inr rfl))) (fun _ _ _ _ _ => dts_nil) (fun _ _ _ _ _ => (dv_bin do_addE dv_int (dv_of (de_callIO G_u_law_any (hr.mono (by decide)) rfl T.g__law_any K_u_law_any B_u_law_any takes0 (pv 0) (da_cons (dv_ix (dv_of (de_lst (da_cons dv_int (da_cons dv_int (da_cons dv_int (da_cons dv_int da_nil)))))) (dv_of (de_callIO G_u_law_any (hr.mono (by decide)) rfl T.g__law_any K_u_law_any B_u_law_any takes0 (pv 0) (da_cons dv_int da_nil)))) da_nil))))))) da_nil))))) (dss_cons (ds_if (dt_cmp (do_eq hr.units) (dv_of (de_callIO G_u_law_any (hr.mono (by decide)) rfl T.g__law_any K_u_law_any B_u_law_any (takes_of rfl rfl rfl rfl) (pv 0) (da_cons dv_int da_nil))) dv_int) (dss_one (ds_app (pv 1) (dv_ixV (pv 1) dv_int))) dss_nil) (dss_cons (ds_asg (dv_callTy (call_tuple_of) dc_tuple rfl T.f_tuple PyProof.Rows.boot_tuple (da_cons (dv_of (de_lc (own := [("k", 2)]) rfl SC.nd (di_range1 rfl T.f_range (da_cons (dv_bin do_addE dv_int (dv_of (de_callIO G_u_law_any (hr.mono (by decide)) rfl T.g__law_any K_u_law_any B_u_law_any (takes_of rfl rfl rfl rfl) (pv 0) (da_cons dv_int da_nil)))) da_nil)) (blkOk_by (N := ["seed", "kinds", "k", "month", "years"]) (sc := defScope s_u_law_drawn_made) (by decide +kernel)) (fun _ _ _ _ _ => (dg_name SC.nd rfl (by first | exact Or.inl rfl | exact Or.inr rfl))) (fun _ _ _ _ _ => dts_nil) (fun _ _ _ _ _ => (dv_of (de_callIO G_u_law_any (hr.mono (by decide)) rfl T.g__law_any K_u_law_any B_u_law_any takes0 (pv 0) (da_cons (dv_lenV (pv 1) rfl T.f_len) da_nil)))))) da_nil)) (dg_name SC.nd rfl (by first | exact Or.inl rfl | exact Or.inr rfl))) (dss_one (ds_ret (de_of (dv_tup (da_cons (dv_of (de_callIO G_u_law_one_of (hr.mono (by decide)) rfl T.g__law_one_of K_u_law_one_of B_u_law_one_of (takes_of rfl rfl rfl rfl) (pv 0) (da_cons (dv_of (de_lst (da_cons dv_int (da_cons dv_int (da_cons (dv_neg dv_int) (da_cons (dv_bin do_pow dv_int dv_int) (da_cons (dv_neg (dv_bin do_pow dv_int dv_int)) (da_cons dv_int da_nil)))))))) da_nil))) (da_cons (dv_of (de_callIO G_u_law_one_of (hr.mono (by decide)) rfl T.g__law_one_of K_u_law_one_of B_u_law_one_of (takes_of rfl rfl rfl rfl) (pv 0) (da_cons (dv_of (de_lst (da_cons dv_int (da_cons dv_int (da_cons dv_int (da_cons (dv_neg dv_int) (da_cons (dv_bin do_pow dv_int dv_int) (da_cons (dv_neg (dv_bin do_pow dv_int dv_int)) da_nil)))))))) da_nil))) (da_cons (dv_callTy (call_tuple_of) dc_tuple rfl T.f_tuple PyProof.Rows.boot_tuple (da_cons (dv_var (pv 1)) da_nil)) (da_cons (dv_var (pv 4)) da_nil))))))))))))
  exact ⟨fd, fn_IO2 F SC hb, F.kp, F.bindsN (fun _ _ _ _ _ _ us hl => match us, hl with | [_], _ => rfl)⟩
theorem sc_u_law_drawn_calendar : FnScope ["seed"] ["seed"] (defScope s_u_law_drawn_calendar) := ⟨rfl, rfl, rfl, by decide +kernel, rfl, by decide +kernel, by decide +kernel⟩
theorem ok_u_law_drawn_calendar (T : Txt PySem.Challenge.pw_alldue_k29_dates_by_the_civil_count K mg) : ∃ fd, FnOk PySem.Challenge.pw_alldue_k29_dates_by_the_civil_count w K mg base (L2.CX PySem.Challenge.pw_alldue_k29_dates_by_the_civil_count w) 4 (He.ga K "_law_drawn_calendar") fd ["seed"] (spIO K m_u_law_drawn_calendar) ∧ PySem.W.keepIn K (.ref (He.ga K "_law_drawn_calendar")) = true ∧ Binds K fd ["seed"] [] := by
  obtain ⟨fd, F⟩ := T.d_u_law_drawn_calendar
  have SC := sc_u_law_drawn_calendar
  obtain ⟨_, G_u_law_any, K_u_law_any, B_u_law_any⟩ := ok_u_law_any (w := w) (base := base) T
  obtain ⟨_, G_u_law_drawn_made, K_u_law_drawn_made, B_u_law_drawn_made⟩ := ok_u_law_drawn_made (w := w) (base := base) T
  obtain ⟨_, G_u_law_one_of, K_u_law_one_of, B_u_law_one_of⟩ := ok_u_law_one_of (w := w) (base := base) T
  have hb : Body PySem.Challenge.pw_alldue_k29_dates_by_the_civil_count w K mg base "_law_drawn_calendar" (defBody s_u_law_drawn_calendar) (defScope s_u_law_drawn_calendar) (He.ga K "_law_drawn_calendar") ["seed"] 3 b_u_law_drawn_calendar := fun cdv A outer s H E hr => by exact (dss_one (ds_ret (de_if (dt_cmp (do_eq hr.units) (dv_of (de_callIO G_u_law_any (hr.mono (by decide)) rfl T.g__law_any K_u_law_any B_u_law_any (takes_of rfl rfl rfl rfl) (pv 0) (da_cons dv_int da_nil))) dv_int) (de_callIO G_u_law_one_of (hr.mono (by decide)) rfl T.g__law_one_of K_u_law_one_of B_u_law_one_of (takes_of rfl rfl rfl rfl) (pv 0) (da_cons (dv_of (de_lst (da_cons dv_str (da_cons dv_str (da_cons dv_str (da_cons dv_str da_nil)))))) da_nil)) (de_callIO G_u_law_drawn_made (hr.mono (by decide)) rfl T.g__law_drawn_made K_u_law_drawn_made B_u_law_drawn_made (takes_of rfl rfl rfl rfl) (pv 0) da_nil))))
  exact ⟨fd, fn_IO2 F SC hb, F.kp, F.bindsN (fun _ _ _ _ _ _ us hl => match us, hl with | [_], _ => rfl)⟩
theorem sc_u_law_leap : FnScope ["name", "year"] ["name", "year"] (defScope s_u_law_leap) := ⟨rfl, rfl, rfl, by decide +kernel, rfl, by decide +kernel, by decide +kernel⟩
theorem ok_u_law_leap (T : Txt PySem.Challenge.pw_alldue_k29_dates_by_the_civil_count K mg) : ∃ fd, FnOk PySem.Challenge.pw_alldue_k29_dates_by_the_civil_count w K mg base (L2.CX PySem.Challenge.pw_alldue_k29_dates_by_the_civil_count w) 1 (He.ga K "_law_leap") fd ["name", "year"] (spV K m_u_law_leap) ∧ PySem.W.keepIn K (.ref (He.ga K "_law_leap")) = true ∧ Binds K fd ["name", "year"] [] := by
  obtain ⟨fd, F⟩ := T.d_u_law_leap
  have SC := sc_u_law_leap
  have hb : Body PySem.Challenge.pw_alldue_k29_dates_by_the_civil_count w K mg base "_law_leap" (defBody s_u_law_leap) (defScope s_u_law_leap) (He.ga K "_law_leap") ["name", "year"] 0 b_u_law_leap := fun cdv A outer s H E hr => by exact (dss_cons (ds_if (dt_cmp (do_eq hr.units) (dv_var (pv 0)) dv_str) (dss_one (ds_ret (de_of (dv_cmp (do_eq hr.units) (dv_bin do_mod (dv_callTy (call_int1) dc_int rfl T.f_int PyProof.Rows.boot_int (da_cons (dv_var (pv 1)) da_nil)) dv_int) dv_int)))) dss_nil) (dss_one (ds_ret (de_of (dv_and (dv_cmp (do_eq hr.units) (dv_bin do_mod (dv_callTy (call_int1) dc_int rfl T.f_int PyProof.Rows.boot_int (da_cons (dv_var (pv 1)) da_nil)) dv_int) dv_int) (dv_one (dv_or (dv_cmp do_gt (dv_bin do_mod (dv_callTy (call_int1) dc_int rfl T.f_int PyProof.Rows.boot_int (da_cons (dv_var (pv 1)) da_nil)) dv_int) dv_int) (dv_one (dv_cmp (do_eq hr.units) (dv_bin do_mod (dv_callTy (call_int1) dc_int rfl T.f_int PyProof.Rows.boot_int (da_cons (dv_var (pv 1)) da_nil)) dv_int) dv_int)))))))))
  exact ⟨fd, fn_V F SC hb, F.kp, F.bindsN (fun _ _ _ _ _ _ us hl => match us, hl with | [_, _], _ => rfl)⟩
theorem sc_u_law_civil : FnScope ["name", "date", "year", "month", "day", "back", "gone", "place", "days"] ["name", "date"] (defScope s_u_law_civil) := ⟨rfl, rfl, rfl, by decide +kernel, rfl, by decide +kernel, by decide +kernel⟩
theorem ok_u_law_civil (T : Txt PySem.Challenge.pw_alldue_k29_dates_by_the_civil_count K mg) : ∃ fd, FnOk PySem.Challenge.pw_alldue_k29_dates_by_the_civil_count w K mg base (L2.CX PySem.Challenge.pw_alldue_k29_dates_by_the_civil_count w) 1 (He.ga K "_law_civil") fd ["name", "date"] (spV K m_u_law_civil) ∧ PySem.W.keepIn K (.ref (He.ga K "_law_civil")) = true ∧ Binds K fd ["name", "date"] [] := by
  obtain ⟨fd, F⟩ := T.d_u_law_civil
  have SC := sc_u_law_civil
  have hb : Body PySem.Challenge.pw_alldue_k29_dates_by_the_civil_count w K mg base "_law_civil" (defBody s_u_law_civil) (defScope s_u_law_civil) (He.ga K "_law_civil") ["name", "date", "year", "month", "day", "back", "gone", "place", "days"] 0 b_u_law_civil := fun cdv A outer s H E hr => by exact (dss_cons (ds_asg (dv_var (pv 1)) (dg_tup rfl (dgs_cons (dg_name SC.nd rfl (by first | exact Or.inl rfl | exact Or.inr rfl)) (dgs_cons (dg_name SC.nd rfl (by first | exact Or.inl rfl | exact Or.inr rfl)) (dgs_cons (dg_name SC.nd rfl (by first | exact Or.inl rfl | exact Or.inr rfl)) dgs_nil))) (gMore_len (gMore_len (gMore_len gNone_len))))) (dss_cons (ds_if (dt_cmp (do_eq hr.units) (dv_var (pv 0)) dv_str) (dss_one (ds_ret (de_of (dv_bin do_sub (dv_bin do_addE (dv_bin do_addE (dv_bin do_addE (dv_bin do_addE (dv_neg dv_int) (dv_bin do_mul dv_int (dv_bin do_sub (dv_var (pv 2)) dv_int))) (dv_bin do_div (dv_var (pv 2)) dv_int)) (dv_bin do_mul dv_int (dv_bin do_sub (dv_var (pv 3)) dv_int))) (dv_var (pv 4))) dv_int)))) dss_nil) (dss_cons (ds_if (dt_cmp (do_eq hr.units) (dv_var (pv 0)) dv_str) (dss_one (ds_ret (de_of (dv_bin do_sub (dv_bin do_addE (dv_bin do_addE (dv_bin do_addE (dv_bin do_addE (dv_bin do_addE (dv_neg dv_int) (dv_bin do_mul dv_int (dv_bin do_sub (dv_var (pv 2)) dv_int))) (dv_bin do_div (dv_bin do_addE (dv_bin do_mul dv_int (dv_var (pv 2))) dv_int) dv_int)) (dv_bin do_mul dv_int (dv_bin do_sub (dv_var (pv 3)) dv_int))) (dv_bin do_div (dv_var (pv 3)) dv_int)) (dv_var (pv 4))) dv_int)))) dss_nil) (dss_cons (ds_asg (dv_callTy (call_int1) dc_int rfl T.f_int PyProof.Rows.boot_int (da_cons (dv_cmp (do_ltE hr.units0) (dv_var (pv 3)) dv_int) da_nil)) (dg_name SC.nd rfl (by first | exact Or.inl rfl | exact Or.inr rfl))) (dss_cons (ds_par rfl SC.nd rfl rfl (by decide) rfl rfl (da_cons (dv_bin do_sub (dv_var (pv 2)) (dv_var (pv 5))) (da_cons (dv_bin do_addE (dv_bin do_sub (dv_var (pv 3)) dv_int) (dv_bin do_mul dv_int (dv_var (pv 5)))) da_nil)) rfl) (dss_cons (ds_asg (dv_bin do_sub (dv_bin do_addE (dv_bin do_addE (dv_bin do_addE (dv_bin do_mul dv_int (dv_var (pv 6))) (dv_bin do_div (dv_var (pv 6)) dv_int)) (dv_bin do_div (dv_bin do_addE (dv_bin do_mul dv_int (dv_var (pv 7))) dv_int) dv_int)) (dv_var (pv 4))) dv_int) (dg_name SC.nd rfl (by first | exact Or.inl rfl | exact Or.inr rfl))) (dss_one (ds_ret (de_if (dt_cmp (do_eq hr.units) (dv_var (pv 0)) dv_str) (de_of (dv_bin do_sub (dv_bin do_addE (dv_bin do_sub (dv_var (pv 8)) (dv_bin do_div (dv_var (pv 6)) dv_int)) (dv_bin do_div (dv_var (pv 6)) dv_int)) dv_int)) (de_of (dv_bin do_sub (dv_var (pv 8)) dv_int)))))))))))
  exact ⟨fd, fn_V F SC hb, F.kp, F.bindsN (fun _ _ _ _ _ _ us hl => match us, hl with | [_, _], _ => rfl)⟩
theorem sc_u_law_next : FnScope ["name", "date", "year", "month", "day", "months"] ["name", "date"] (defScope s_u_law_next) := ⟨rfl, rfl, rfl, by decide +kernel, rfl, by decide +kernel, by decide +kernel⟩
theorem ok_u_law_next (T : Txt PySem.Challenge.pw_alldue_k29_dates_by_the_civil_count K mg) : ∃ fd, FnOk PySem.Challenge.pw_alldue_k29_dates_by_the_civil_count w K mg base (L2.CX PySem.Challenge.pw_alldue_k29_dates_by_the_civil_count w) 4 (He.ga K "_law_next") fd ["name", "date"] (spV K m_u_law_next) ∧ PySem.W.keepIn K (.ref (He.ga K "_law_next")) = true ∧ Binds K fd ["name", "date"] [] := by
  obtain ⟨fd, F⟩ := T.d_u_law_next
  have SC := sc_u_law_next
  obtain ⟨_, G_u_law_kind_of, K_u_law_kind_of, B_u_law_kind_of⟩ := ok_u_law_kind_of (w := w) (base := base) T
  have hb : Body PySem.Challenge.pw_alldue_k29_dates_by_the_civil_count w K mg base "_law_next" (defBody s_u_law_next) (defScope s_u_law_next) (He.ga K "_law_next") ["name", "date", "year", "month", "day", "months"] 3 b_u_law_next := fun cdv A outer s H E hr => by exact (dss_cons (ds_asg (dv_var (pv 1)) (dg_tup rfl (dgs_cons (dg_name SC.nd rfl (by first | exact Or.inl rfl | exact Or.inr rfl)) (dgs_cons (dg_name SC.nd rfl (by first | exact Or.inl rfl | exact Or.inr rfl)) (dgs_cons (dg_name SC.nd rfl (by first | exact Or.inl rfl | exact Or.inr rfl)) dgs_nil))) (gMore_len (gMore_len (gMore_len gNone_len))))) (dss_cons (ds_set SC.nd rfl (by first | exact Or.inl rfl | exact Or.inr rfl) (de_call G_u_law_kind_of (hr.mono (by decide)) rfl T.g__law_kind_of K_u_law_kind_of B_u_law_kind_of (takes_of rfl rfl rfl rfl) (da_cons (dv_var (pv 0)) (da_cons (dv_var (pv 2)) da_nil)))) (dss_cons (ds_if (dt_cmp (do_ltE hr.units0) (dv_var (pv 4)) (dv_ixV (pv 5) (dv_bin do_sub (dv_var (pv 3)) dv_int))) (dss_one (ds_ret (de_of (dv_tup (da_cons (dv_var (pv 2)) (da_cons (dv_var (pv 3)) (da_cons (dv_bin do_addE (dv_var (pv 4)) dv_int) da_nil))))))) dss_nil) (dss_one (ds_ret (de_if (dt_cmp (do_ltE hr.units0) (dv_var (pv 3)) (dv_lenV (pv 5) rfl T.f_len)) (de_of (dv_tup (da_cons (dv_var (pv 2)) (da_cons (dv_bin do_addE (dv_var (pv 3)) dv_int) (da_cons dv_int da_nil))))) (de_of (dv_tup (da_cons (dv_bin do_addE (dv_var (pv 2)) dv_int) (da_cons dv_int (da_cons dv_int da_nil)))))))))))
  exact ⟨fd, fn_V F SC hb, F.kp, F.bindsN (fun _ _ _ _ _ _ us hl => match us, hl with | [_, _], _ => rfl)⟩
theorem sc_u_law_ends_and_far : FnScope ["seed", "calendar", "year", "found", "k"] ["seed", "calendar"] (defScope s_u_law_ends_and_far) := ⟨rfl, rfl, rfl, by decide +kernel, rfl, by decide +kernel, by decide +kernel⟩
theorem ok_u_law_ends_and_far (T : Txt PySem.Challenge.pw_alldue_k29_dates_by_the_civil_count K mg) : ∃ fd, FnOk PySem.Challenge.pw_alldue_k29_dates_by_the_civil_count w K mg base (L2.CX PySem.Challenge.pw_alldue_k29_dates_by_the_civil_count w) 5 (He.ga K "_law_ends_and_far") fd ["seed", "calendar"] (spIO K m_u_law_ends_and_far) ∧ PySem.W.keepIn K (.ref (He.ga K "_law_ends_and_far")) = true ∧ Binds K fd ["seed", "calendar"] [] := by
  obtain ⟨fd, F⟩ := T.d_u_law_ends_and_far
  have SC := sc_u_law_ends_and_far
  obtain ⟨_, G_u_law_far, K_u_law_far, B_u_law_far⟩ := ok_u_law_far (w := w) (base := base) T
  obtain ⟨_, G_u_law_made, K_u_law_made, B_u_law_made⟩ := ok_u_law_made (w := w) (base := base) T
  obtain ⟨_, G_u_law_one_of, K_u_law_one_of, B_u_law_one_of⟩ := ok_u_law_one_of (w := w) (base := base) T
  obtain ⟨_, G_u_law_year_begin, K_u_law_year_begin, B_u_law_year_begin⟩ := ok_u_law_year_begin (w := w) (base := base) T
  have hb : Body PySem.Challenge.pw_alldue_k29_dates_by_the_civil_count w K mg base "_law_ends_and_far" (defBody s_u_law_ends_and_far) (defScope s_u_law_ends_and_far) (He.ga K "_law_ends_and_far") ["seed", "calendar", "year", "found", "k"] 4 b_u_law_ends_and_far := fun cdv A outer s H E hr => by exact (dss_cons (ds_set SC.nd rfl (by first | exact Or.inl rfl | exact Or.inr rfl) (de_callIO G_u_law_one_of (hr.mono (by decide)) rfl T.g__law_one_of K_u_law_one_of B_u_law_one_of (takes_of rfl rfl rfl rfl) (pv 0) (da_cons (dv_of (de_lst (da_cons dv_int (da_cons dv_int (da_cons dv_int (da_cons dv_int (da_cons dv_int (da_cons dv_int (da_cons (dv_neg dv_int) (da_cons (dv_neg dv_int) (da_cons dv_int (da_cons (dv_bin do_addE (dv_bin do_pow dv_int dv_int) dv_int) da_nil)))))))))))) da_nil))) (dss_cons (ds_setLc (own := [("k", 4)]) rfl SC.nd rfl rfl (sw_true rfl rfl rfl (by decide +kernel)) (di_any (dv_tup (da_cons (dv_neg dv_int) (da_cons dv_int (da_cons dv_int (da_cons dv_int (da_cons dv_int da_nil))))))) (blkOk_by (N := ["seed", "calendar", "year", "found", "k"]) (sc := defScope s_u_law_ends_and_far) (by decide +kernel)) (fun _ _ _ _ _ => (dg_name SC.nd rfl (by first | exact Or.inl rfl | exact Or.inr rfl))) (fun _ _ _ _ _ => dts_nil) (fun _ _ _ _ _ => (dv_bin do_addE (dv_of (de_call G_u_law_year_begin (hr.mono (by decide)) rfl T.g__law_year_begin K_u_law_year_begin B_u_law_year_begin takes0 (da_cons (dv_var (pv 1)) (da_cons (dv_var (pv 2)) da_nil)))) (dv_var (pv 4))))) (dss_one (ds_ret (de_of (dv_bin do_addE (dv_var (pv 3)) (dv_of (de_lst (da_cons (dv_of (de_callIO G_u_law_far (hr.mono (by decide)) rfl T.g__law_far K_u_law_far B_u_law_far (takes_of rfl rfl rfl rfl) (pv 0) da_nil)) (da_cons (dv_of (de_callIO G_u_law_far (hr.mono (by decide)) rfl T.g__law_far K_u_law_far B_u_law_far (takes_of rfl rfl rfl rfl) (pv 0) da_nil)) (da_cons (dv_ix (dv_of (de_call G_u_law_made (hr.mono (by decide)) rfl T.g__law_made K_u_law_made B_u_law_made (takes_of rfl rfl rfl rfl) (da_cons (dv_var (pv 1)) da_nil))) dv_int) (da_cons (dv_bin do_sub (dv_ix (dv_of (de_call G_u_law_made (hr.mono (by decide)) rfl T.g__law_made K_u_law_made B_u_law_made (takes_of rfl rfl rfl rfl) (da_cons (dv_var (pv 1)) da_nil))) dv_int) dv_int) da_nil))))))))))))
  exact ⟨fd, fn_IO2 F SC hb, F.kp, F.bindsN (fun _ _ _ _ _ _ us hl => match us, hl with | [_, _], _ => rfl)⟩
theorem sc_u_law_right : FnScope ["calendar", "day", "date", "following", "many", "years"] ["calendar", "day"] (defScope s_u_law_right) := ⟨rfl, rfl, rfl, by decide +kernel, rfl, by decide +kernel, by decide +kernel⟩
theorem ok_u_law_right (T : Txt PySem.Challenge.pw_alldue_k29_dates_by_the_civil_count K mg) : ∃ fd, FnOk PySem.Challenge.pw_alldue_k29_dates_by_the_civil_count w K mg base (L2.CX PySem.Challenge.pw_alldue_k29_dates_by_the_civil_count w) 6 (He.ga K "_law_right") fd ["calendar", "day"] (spV K m_u_law_right) ∧ PySem.W.keepIn K (.ref (He.ga K "_law_right")) = true ∧ Binds K fd ["calendar", "day"] [] := by
  obtain ⟨fd, F⟩ := T.d_u_law_right
  have SC := sc_u_law_right
  obtain ⟨_, G_u_law_date_of, K_u_law_date_of, B_u_law_date_of⟩ := ok_u_law_date_of (w := w) (base := base) T
  obtain ⟨_, G_u_law_made, K_u_law_made, B_u_law_made⟩ := ok_u_law_made (w := w) (base := base) T
  obtain ⟨_, G_u_law_next, K_u_law_next, B_u_law_next⟩ := ok_u_law_next (w := w) (base := base) T
  obtain ⟨_, G_cycle_days, K_cycle_days, B_cycle_days⟩ := ok_cycle_days (w := w) (base := base) T
  obtain ⟨_, G_date_of, K_date_of, B_date_of, KP_date_of_0_day_calendar⟩ := ok_date_of (w := w) (base := base) T
  obtain ⟨_, G_day_of, K_day_of, B_day_of, KP_day_of_0_date_calendar⟩ := ok_day_of (w := w) (base := base) T
  have hb : Body PySem.Challenge.pw_alldue_k29_dates_by_the_civil_count w K mg base "_law_right" (defBody s_u_law_right) (defScope s_u_law_right) (He.ga K "_law_right") ["calendar", "day", "date", "following", "many", "years"] 5 b_u_law_right := fun cdv A outer s H E hr => by exact (dss_cons (ds_set SC.nd rfl (by first | exact Or.inl rfl | exact Or.inr rfl) (de_call G_date_of (hr.mono (by decide)) rfl T.g_date_of K_date_of B_date_of (takes_of rfl rfl rfl rfl) (da_cons (dv_var (pv 0)) (da_cons (dv_var (pv 1)) da_nil)))) (dss_cons (ds_if (DL.dt_of (dw_or (dt_cmp (do_ne hr.units) (dv_var (pv 2)) (dv_of (de_call G_u_law_date_of (hr.mono (by decide)) rfl T.g__law_date_of K_u_law_date_of B_u_law_date_of (takes_of rfl rfl rfl rfl) (da_cons (dv_var (pv 0)) (da_cons (dv_var (pv 1)) da_nil))))) (dw_or (dt_cmp (do_ne hr.units) (dv_of (de_callK0 G_date_of (hr.mono (by decide)) rfl T.g_date_of K_date_of KP_date_of_0_day_calendar (takes_of rfl rfl rfl rfl) (dk_cons (dv_var (pv 1)) (dk_cons (dv_var (pv 0)) dk_nil)))) (dv_var (pv 2))) (dw_or (dt_cmp (do_ne hr.units) (dv_of (de_call G_day_of (hr.mono (by decide)) rfl T.g_day_of K_day_of B_day_of (takes_of rfl rfl rfl rfl) (da_cons (dv_var (pv 0)) (da_cons (dv_var (pv 2)) da_nil)))) (dv_var (pv 1))) (dw_or1 (dt_cmp (do_ne hr.units) (dv_of (de_callK0 G_day_of (hr.mono (by decide)) rfl T.g_day_of K_day_of KP_day_of_0_date_calendar (takes_of rfl rfl rfl rfl) (dk_cons (dv_var (pv 2)) (dk_cons (dv_var (pv 0)) dk_nil)))) (dv_var (pv 1)))))))) (dss_one (ds_ret (de_of dv_bl))) dss_nil) (dss_cons (ds_set SC.nd rfl (by first | exact Or.inl rfl | exact Or.inr rfl) (de_call G_date_of (hr.mono (by decide)) rfl T.g_date_of K_date_of B_date_of (takes_of rfl rfl rfl rfl) (da_cons (dv_var (pv 0)) (da_cons (dv_bin do_addE (dv_var (pv 1)) dv_int) da_nil)))) (dss_cons (ds_if (DL.dt_of (dw_or (dt_cmp (do_ne hr.units) (dv_var (pv 3)) (dv_of (de_call G_u_law_next (hr.mono (by decide)) rfl T.g__law_next K_u_law_next B_u_law_next (takes_of rfl rfl rfl rfl) (da_cons (dv_var (pv 0)) (da_cons (dv_var (pv 2)) da_nil))))) (dw_or1 (dt_not (dt_cmp (do_ltE hr.units0) (dv_var (pv 2)) (dv_var (pv 3))))))) (dss_one (ds_ret (de_of dv_bl))) dss_nil) (dss_cons (ds_par rfl SC.nd rfl rfl (by decide) rfl rfl (da_cons (dv_of (de_call G_cycle_days (hr.mono (by decide)) rfl T.g_cycle_days K_cycle_days B_cycle_days (takes_of rfl rfl rfl rfl) (da_cons (dv_var (pv 0)) da_nil))) (da_cons (dv_callB (call_len) dc_len rfl T.f_len PySem.boot_len (da_cons (dv_ix (dv_of (de_call G_u_law_made (hr.mono (by decide)) rfl T.g__law_made K_u_law_made B_u_law_made (takes_of rfl rfl rfl rfl) (da_cons (dv_var (pv 0)) da_nil))) dv_int) da_nil)) da_nil)) rfl) (dss_one (ds_ret (de_of (dv_and (dv_cmp (do_eq hr.units) (dv_of (de_call G_date_of (hr.mono (by decide)) rfl T.g_date_of K_date_of B_date_of (takes_of rfl rfl rfl rfl) (da_cons (dv_var (pv 0)) (da_cons (dv_bin do_addE (dv_var (pv 1)) (dv_var (pv 4))) da_nil)))) (dv_bin do_addE (dv_tup (da_cons (dv_bin do_addE (dv_ixV (pv 2) dv_int) (dv_var (pv 5))) da_nil)) (dv_of (de_slice (dv_var (pv 2)) (do_some dv_int) do_none)))) (dv_one (dv_cmp (do_eq hr.units) (dv_of (de_call G_date_of (hr.mono (by decide)) rfl T.g_date_of K_date_of B_date_of (takes_of rfl rfl rfl rfl) (da_cons (dv_var (pv 0)) (da_cons (dv_bin do_sub (dv_var (pv 1)) (dv_bin do_mul dv_int (dv_var (pv 4)))) da_nil)))) (dv_bin do_addE (dv_tup (da_cons (dv_bin do_sub (dv_ixV (pv 2) dv_int) (dv_bin do_mul dv_int (dv_var (pv 5)))) da_nil)) (dv_of (de_slice (dv_var (pv 2)) (do_some dv_int) do_none))))))))))))))
  exact ⟨fd, fn_V F SC hb, F.kp, F.bindsN (fun _ _ _ _ _ _ us hl => match us, hl with | [_, _], _ => rfl)⟩
theorem sc_u_law_led_along : FnScope ["seed", "calendar", "epoch", "base", "kinds", "years", "more", "later", "other", "day", "date"] ["seed", "calendar"] (defScope s_u_law_led_along) := ⟨rfl, rfl, rfl, by decide +kernel, rfl, by decide +kernel, by decide +kernel⟩
theorem ok_u_law_led_along (T : Txt PySem.Challenge.pw_alldue_k29_dates_by_the_civil_count K mg) : ∃ fd, FnOk PySem.Challenge.pw_alldue_k29_dates_by_the_civil_count w K mg base (L2.CX PySem.Challenge.pw_alldue_k29_dates_by_the_civil_count w) 6 (He.ga K "_law_led_along") fd ["seed", "calendar"] (spIO K m_u_law_led_along) ∧ PySem.W.keepIn K (.ref (He.ga K "_law_led_along")) = true ∧ Binds K fd ["seed", "calendar"] [] := by
  obtain ⟨fd, F⟩ := T.d_u_law_led_along
  have SC := sc_u_law_led_along
  obtain ⟨_, G_u_law_far, K_u_law_far, B_u_law_far⟩ := ok_u_law_far (w := w) (base := base) T
  obtain ⟨_, G_u_law_made, K_u_law_made, B_u_law_made⟩ := ok_u_law_made (w := w) (base := base) T
  obtain ⟨_, G_u_law_one_of, K_u_law_one_of, B_u_law_one_of⟩ := ok_u_law_one_of (w := w) (base := base) T
  obtain ⟨_, G_date_of, K_date_of, B_date_of, KP_date_of_0_day_calendar⟩ := ok_date_of (w := w) (base := base) T
  obtain ⟨_, G_day_of, K_day_of, B_day_of, KP_day_of_0_date_calendar⟩ := ok_day_of (w := w) (base := base) T
  have hb : Body PySem.Challenge.pw_alldue_k29_dates_by_the_civil_count w K mg base "_law_led_along" (defBody s_u_law_led_along) (defScope s_u_law_led_along) (He.ga K "_law_led_along") ["seed", "calendar", "epoch", "base", "kinds", "years", "more", "later", "other", "day", "date"] 5 b_u_law_led_along := fun cdv A outer s H E hr => by exact (dss_cons (ds_asg (dv_of (de_call G_u_law_made (hr.mono (by decide)) rfl T.g__law_made K_u_law_made B_u_law_made (takes_of rfl rfl rfl rfl) (da_cons (dv_var (pv 1)) da_nil))) (dg_tup rfl (dgs_cons (dg_name SC.nd rfl (by first | exact Or.inl rfl | exact Or.inr rfl)) (dgs_cons (dg_name SC.nd rfl (by first | exact Or.inl rfl | exact Or.inr rfl)) (dgs_cons (dg_name SC.nd rfl (by first | exact Or.inl rfl | exact Or.inr rfl)) (dgs_cons (dg_name SC.nd rfl (by first | exact Or.inl rfl | exact Or.inr rfl)) dgs_nil)))) (gMore_len (gMore_len (gMore_len (gMore_len gNone_len)))))) (dss_cons (ds_par rfl SC.nd rfl rfl (by decide) rfl rfl (da_cons (dv_of (de_callIO G_u_law_one_of (hr.mono (by decide)) rfl T.g__law_one_of K_u_law_one_of B_u_law_one_of (takes_of rfl rfl rfl rfl) (pv 0) (da_cons (dv_of (de_lst (da_cons dv_int (da_cons (dv_neg dv_int) (da_cons dv_int (da_cons (dv_neg dv_int) (da_cons (dv_bin do_pow dv_int dv_int) da_nil))))))) da_nil))) (da_cons (dv_of (de_callIO G_u_law_one_of (hr.mono (by decide)) rfl T.g__law_one_of K_u_law_one_of B_u_law_one_of (takes_of rfl rfl rfl rfl) (pv 0) (da_cons (dv_of (de_lst (da_cons dv_int (da_cons (dv_neg dv_int) (da_cons (dv_bin do_pow dv_int dv_int) da_nil))))) da_nil))) da_nil)) rfl) (dss_cons (ds_if (DL.dt_of (dw_or (dt_cmp do_gt (dv_callB (call_abs) dc_abs rfl T.f_abs boot_abs (da_cons (dv_bin do_addE (dv_var (pv 2)) (dv_var (pv 6))) da_nil)) (dv_bin do_pow dv_int dv_int)) (dw_or1 (dt_cmp do_gt (dv_callB (call_abs) dc_abs rfl T.f_abs boot_abs (da_cons (dv_bin do_addE (dv_var (pv 3)) (dv_var (pv 7))) da_nil)) (dv_bin do_pow dv_int dv_int))))) (dss_one (ds_ret (de_of dv_bl))) dss_nil) (dss_cons (ds_par rfl SC.nd rfl rfl (by decide) rfl rfl (da_cons (dv_tup (da_cons (dv_bin do_addE (dv_var (pv 2)) (dv_var (pv 6))) (da_cons (dv_bin do_addE (dv_var (pv 3)) (dv_var (pv 7))) (da_cons (dv_var (pv 4)) (da_cons (dv_var (pv 5)) da_nil))))) (da_cons (dv_of (de_callIO G_u_law_far (hr.mono (by decide)) rfl T.g__law_far K_u_law_far B_u_law_far (takes_of rfl rfl rfl rfl) (pv 0) da_nil)) da_nil)) rfl) (dss_cons (ds_set SC.nd rfl (by first | exact Or.inl rfl | exact Or.inr rfl) (de_call G_date_of (hr.mono (by decide)) rfl T.g_date_of K_date_of B_date_of (takes_of rfl rfl rfl rfl) (da_cons (dv_var (pv 1)) (da_cons (dv_var (pv 9)) da_nil)))) (dss_one (ds_ret (de_of (dv_and (dv_cmp (do_eq hr.units) (dv_of (de_call G_date_of (hr.mono (by decide)) rfl T.g_date_of K_date_of B_date_of (takes_of rfl rfl rfl rfl) (da_cons (dv_var (pv 8)) (da_cons (dv_bin do_addE (dv_var (pv 9)) (dv_var (pv 6))) da_nil)))) (dv_bin do_addE (dv_tup (da_cons (dv_bin do_addE (dv_ixV (pv 10) dv_int) (dv_var (pv 7))) da_nil)) (dv_of (de_slice (dv_var (pv 10)) (do_some dv_int) do_none)))) (dv_one (dv_cmp (do_eq hr.units) (dv_of (de_call G_day_of (hr.mono (by decide)) rfl T.g_day_of K_day_of B_day_of (takes_of rfl rfl rfl rfl) (da_cons (dv_var (pv 8)) (da_cons (dv_bin do_addE (dv_tup (da_cons (dv_bin do_addE (dv_ixV (pv 10) dv_int) (dv_var (pv 7))) da_nil)) (dv_of (de_slice (dv_var (pv 10)) (do_some dv_int) do_none))) da_nil)))) (dv_bin do_addE (dv_var (pv 9)) (dv_var (pv 6))))))))))))))
  exact ⟨fd, fn_IO2 F SC hb, F.kp, F.bindsN (fun _ _ _ _ _ _ us hl => match us, hl with | [_, _], _ => rfl)⟩
theorem sc_law : FnScope ["script", "seed", "turn", "calendar", "day", "name", "year"] ["script"] (defScope s_law) := ⟨rfl, rfl, rfl, by decide +kernel, rfl, by decide +kernel, by decide +kernel⟩
theorem ok_law (T : Txt PySem.Challenge.pw_alldue_k29_dates_by_the_civil_count K mg) : ∃ fd, (∀ base : Heap, FnOk PySem.Challenge.pw_alldue_k29_dates_by_the_civil_count w K mg base L2.CX0 7 (He.ga K "law") fd ["script"] (spV K m_law)) ∧ ∀ (s : Shared) (v : Value), BindsTo s fd ⟨[v], []⟩ [("script", v)] := by
  obtain ⟨fd, F⟩ := T.d_law
  have SC := sc_law
  refine ⟨fd, fun base => ?_, fun s v => (F.bindsA (ps := ["script"]) (fun _ _ _ _ _ _ us hl => match us, hl with | [_], _ => rfl)) s [v] rfl⟩
  obtain ⟨_, G_u_law_civil, K_u_law_civil, B_u_law_civil⟩ := ok_u_law_civil (w := w) (base := base) T
  obtain ⟨_, G_u_law_drawn_calendar, K_u_law_drawn_calendar, B_u_law_drawn_calendar⟩ := ok_u_law_drawn_calendar (w := w) (base := base) T
  obtain ⟨_, G_u_law_ends_and_far, K_u_law_ends_and_far, B_u_law_ends_and_far⟩ := ok_u_law_ends_and_far (w := w) (base := base) T
  obtain ⟨_, G_u_law_leap, K_u_law_leap, B_u_law_leap⟩ := ok_u_law_leap (w := w) (base := base) T
  obtain ⟨_, G_u_law_led_along, K_u_law_led_along, B_u_law_led_along⟩ := ok_u_law_led_along (w := w) (base := base) T
  obtain ⟨_, G_u_law_one_of, K_u_law_one_of, B_u_law_one_of⟩ := ok_u_law_one_of (w := w) (base := base) T
  obtain ⟨_, G_u_law_right, K_u_law_right, B_u_law_right⟩ := ok_u_law_right (w := w) (base := base) T
  obtain ⟨_, G_u_law_seed, K_u_law_seed, B_u_law_seed⟩ := ok_u_law_seed (w := w) (base := base) T
  obtain ⟨_, G_date_of, K_date_of, B_date_of, KP_date_of_0_day_calendar⟩ := ok_date_of (w := w) (base := base) T
  obtain ⟨_, G_day_of, K_day_of, B_day_of, KP_day_of_0_date_calendar⟩ := ok_day_of (w := w) (base := base) T
  obtain ⟨_, G_weekday, K_weekday, B_weekday, KP_weekday_0_day⟩ := ok_weekday (w := w) (base := base) T
  obtain ⟨_, G_year_start, K_year_start, B_year_start⟩ := ok_year_start (w := w) (base := base) T
  have hb : Body0 PySem.Challenge.pw_alldue_k29_dates_by_the_civil_count w K mg base "law" (defBody s_law) (defScope s_law) (He.ga K "law") ["script", "seed", "turn", "calendar", "day", "name", "year"] 6 b_law := fun cdv A outer s H E hr => by exact (dss_cons (ds_set SC.nd rfl (by first | exact Or.inl rfl | exact Or.inr rfl) (de_call G_u_law_seed (hr.mono (by decide)) rfl T.g__law_seed K_u_law_seed B_u_law_seed takes0 (da_cons (dv_var (pv 0)) da_nil))) (dss_cons (ds_for (passes_of rfl) rfl (di_range1 rfl T.f_range (da_cons dv_int da_nil)) (dg_name SC.nd rfl (by first | exact Or.inl rfl | exact Or.inr rfl)) (dss_cons (ds_set SC.nd rfl (by first | exact Or.inl rfl | exact Or.inr rfl) (de_callIO G_u_law_drawn_calendar (hr.mono (by decide)) rfl T.g__law_drawn_calendar K_u_law_drawn_calendar B_u_law_drawn_calendar takes0 (pv 1) da_nil)) (dss_cons (ds_for (passes_of rfl) rfl (di_any (dv_of (de_callIO G_u_law_ends_and_far (hr.mono (by decide)) rfl T.g__law_ends_and_far K_u_law_ends_and_far B_u_law_ends_and_far takes0 (pv 1) (da_cons (dv_var (pv 3)) da_nil)))) (dg_name SC.nd rfl (by first | exact Or.inl rfl | exact Or.inr rfl)) (dss_cons (ds_if (dt_not (dt_val (dv_of (de_call G_u_law_right (hr.mono (by decide)) rfl T.g__law_right K_u_law_right B_u_law_right takes0 (da_cons (dv_var (pv 3)) (da_cons (dv_var (pv 4)) da_nil)))))) (dss_one (ds_ret (de_of dv_bl))) dss_nil) (dss_cons (ds_if (DL.dt_of (dw_and (dt_val (dv_is (.b (by decide)) rfl T.f_isinstance (dv_var (pv 3)) (pe_bltn rfl T.f_str PyProof.Rows.boot_str rfl))) (dw_and1 (dt_cmp (do_ne hr.units) (dv_of (de_call G_u_law_civil (hr.mono (by decide)) rfl T.g__law_civil K_u_law_civil B_u_law_civil takes0 (da_cons (dv_var (pv 3)) (da_cons (dv_of (de_call G_date_of (hr.mono (by decide)) rfl T.g_date_of K_date_of B_date_of takes0 (da_cons (dv_var (pv 3)) (da_cons (dv_var (pv 4)) da_nil)))) da_nil)))) (dv_var (pv 4)))))) (dss_one (ds_ret (de_of dv_bl))) dss_nil) (dss_one (ds_if (DL.dt_of (dw_or (dt_cmp (do_ne hr.units) (dv_of (de_call G_weekday (hr.mono (by decide)) rfl T.g_weekday K_weekday B_weekday takes0 (da_cons (dv_var (pv 4)) da_nil))) (dv_bin do_mod (dv_callTy (call_int1) dc_int rfl T.f_int PyProof.Rows.boot_int (da_cons (dv_bin do_addE (dv_var (pv 4)) dv_int) da_nil)) dv_int)) (dw_or1 (dt_cmp (do_ne hr.units) (dv_of (de_callK0 G_weekday (hr.mono (by decide)) rfl T.g_weekday K_weekday KP_weekday_0_day takes0 (dk_cons (dv_var (pv 4)) dk_nil))) (dv_of (de_call G_weekday (hr.mono (by decide)) rfl T.g_weekday K_weekday B_weekday takes0 (da_cons (dv_bin do_addE (dv_var (pv 4)) (dv_bin do_mul dv_int (dv_bin do_pow dv_int dv_int))) da_nil))))))) (dss_one (ds_ret (de_of dv_bl))) dss_nil))))) (dss_one (ds_if (dt_not (dt_val (dv_of (de_callIO G_u_law_led_along (hr.mono (by decide)) rfl T.g__law_led_along K_u_law_led_along B_u_law_led_along takes0 (pv 1) (da_cons (dv_var (pv 3)) da_nil))))) (dss_one (ds_ret (de_of dv_bl))) dss_nil))))) (dss_cons (ds_for (passes_of rfl) rfl (di_any (dv_tup (da_cons dv_str (da_cons dv_str da_nil)))) (dg_name SC.nd rfl (by first | exact Or.inl rfl | exact Or.inr rfl)) (dss_cons (ds_set SC.nd rfl (by first | exact Or.inl rfl | exact Or.inr rfl) (de_callIO G_u_law_one_of (hr.mono (by decide)) rfl T.g__law_one_of K_u_law_one_of B_u_law_one_of takes0 (pv 1) (da_cons (dv_of (de_lst (da_cons dv_int (da_cons dv_int (da_cons dv_int (da_cons dv_int (da_cons (dv_neg dv_int) (da_cons (dv_neg dv_int) (da_cons dv_int (da_cons (dv_bin do_pow dv_int dv_int) da_nil)))))))))) da_nil))) (dss_cons (ds_if (dt_cmp (do_ne hr.units) (dv_cmp (do_eq hr.units) (dv_bin do_sub (dv_of (de_call G_day_of (hr.mono (by decide)) rfl T.g_day_of K_day_of B_day_of takes0 (da_cons (dv_var (pv 5)) (da_cons (dv_tup (da_cons (dv_var (pv 6)) (da_cons dv_int (da_cons dv_int da_nil)))) da_nil)))) (dv_of (de_call G_day_of (hr.mono (by decide)) rfl T.g_day_of K_day_of B_day_of takes0 (da_cons (dv_var (pv 5)) (da_cons (dv_tup (da_cons (dv_var (pv 6)) (da_cons dv_int (da_cons dv_int da_nil)))) da_nil))))) dv_int) (dv_of (de_call G_u_law_leap (hr.mono (by decide)) rfl T.g__law_leap K_u_law_leap B_u_law_leap takes0 (da_cons (dv_var (pv 5)) (da_cons (dv_var (pv 6)) da_nil))))) (dss_one (ds_ret (de_of dv_bl))) dss_nil) (dss_one (ds_if (dt_cmp (do_ne hr.units) (dv_bin do_sub (dv_of (de_call G_year_start (hr.mono (by decide)) rfl T.g_year_start K_year_start B_year_start takes0 (da_cons (dv_var (pv 5)) (da_cons (dv_bin do_addE (dv_var (pv 6)) dv_int) da_nil)))) (dv_of (de_call G_year_start (hr.mono (by decide)) rfl T.g_year_start K_year_start B_year_start takes0 (da_cons (dv_var (pv 5)) (da_cons (dv_var (pv 6)) da_nil))))) (dv_bin do_addE dv_int (dv_callTy (call_int1) dc_int rfl T.f_int PyProof.Rows.boot_int (da_cons (dv_of (de_call G_u_law_leap (hr.mono (by decide)) rfl T.g__law_leap K_u_law_leap B_u_law_leap takes0 (da_cons (dv_var (pv 5)) (da_cons (dv_var (pv 6)) da_nil)))) da_nil)))) (dss_one (ds_ret (de_of dv_bl))) dss_nil))))) (dss_one (ds_ret (de_of (dv_cmp (do_eq hr.units) (dv_of (de_lst (da_cons (dv_of (de_call G_date_of (hr.mono (by decide)) rfl T.g_date_of K_date_of B_date_of takes0 (da_cons dv_str (da_cons dv_int da_nil)))) (da_cons (dv_of (de_call G_date_of (hr.mono (by decide)) rfl T.g_date_of K_date_of B_date_of takes0 (da_cons dv_str (da_cons dv_int da_nil)))) (da_cons (dv_of (de_call G_date_of (hr.mono (by decide)) rfl T.g_date_of K_date_of B_date_of takes0 (da_cons dv_str (da_cons (dv_neg dv_int) da_nil)))) (da_cons (dv_of (de_call G_date_of (hr.mono (by decide)) rfl T.g_date_of K_date_of B_date_of takes0 (da_cons dv_str (da_cons (dv_neg dv_int) da_nil)))) da_nil)))))) (dv_of (de_lst (da_cons (dv_tup (da_cons dv_int (da_cons dv_int (da_cons dv_int da_nil)))) (da_cons (dv_tup (da_cons dv_int (da_cons dv_int (da_cons dv_int da_nil)))) (da_cons (dv_tup (da_cons dv_int (da_cons dv_int (da_cons dv_int da_nil)))) (da_cons (dv_tup (da_cons dv_int (da_cons dv_int (da_cons dv_int da_nil)))) da_nil)))))))))))))
  exact fn_V0 F SC hb
end
/-! ### the head -/
def fn_0 : List He.DefD := [⟨("is_integer", none), "is_integer", "is_integer", defArgs s_is_integer, defBody s_is_integer, defScope s_is_integer, [], []⟩,
  ⟨("is_between", none), "is_between", "is_between", defArgs s_is_between, defBody s_is_between, defScope s_is_between, [], []⟩,
  ⟨("is_tuple", none), "is_tuple", "is_tuple", defArgs s_is_tuple, defBody s_is_tuple, defScope s_is_tuple, [], []⟩,
  ⟨("is_leap", none), "is_leap", "is_leap", defArgs s_is_leap, defBody s_is_leap, defScope s_is_leap, [], []⟩,
  ⟨("made_of", none), "made_of", "made_of", defArgs s_made_of, defBody s_made_of, defScope s_made_of, [], []⟩,
  ⟨("is_a_calendar", none), "is_a_calendar", "is_a_calendar", defArgs s_is_a_calendar, defBody s_is_a_calendar, defScope s_is_a_calendar, [], []⟩,
  ⟨("is_a_date", none), "is_a_date", "is_a_date", defArgs s_is_a_date, defBody s_is_a_date, defScope s_is_a_date, [], []⟩,
  ⟨("need_calendar", none), "need_calendar", "need_calendar", defArgs s_need_calendar, defBody s_need_calendar, defScope s_need_calendar, [], []⟩,
  ⟨("need_date", none), "need_date", "need_date", defArgs s_need_date, defBody s_need_date, defScope s_need_date, [], []⟩,
  ⟨("last_place", none), "last_place", "last_place", defArgs s_last_place, defBody s_last_place, defScope s_last_place, [], []⟩,
  ⟨("Years", some "days_in_cycle"), "days_in_cycle", "Years.days_in_cycle", defArgs s_Years_days_in_cycle, defBody s_Years_days_in_cycle, defScope s_Years_days_in_cycle, [], []⟩,
  ⟨("Years", some "__init__"), "__init__", "Years.__init__", defArgs s_Years___init__, defBody s_Years___init__, defScope s_Years___init__, [], []⟩,
  ⟨("cycle_days", none), "cycle_days", "cycle_days", defArgs s_cycle_days, defBody s_cycle_days, defScope s_cycle_days, [], []⟩,
  ⟨("Years", some "start"), "start", "Years.start", defArgs s_Years_start, defBody s_Years_start, defScope s_Years_start, [], []⟩,
  ⟨("year_start", none), "year_start", "year_start", defArgs s_year_start, defBody s_year_start, defScope s_year_start, [], []⟩,
  ⟨("Years", some "months"), "months", "Years.months", defArgs s_Years_months, defBody s_Years_months, defScope s_Years_months, [], []⟩,
  ⟨("Years", some "day_at"), "day_at", "Years.day_at", defArgs s_Years_day_at, defBody s_Years_day_at, defScope s_Years_day_at, [], []⟩,
  ⟨("day_of", none), "day_of", "day_of", defArgs s_day_of, defBody s_day_of, defScope s_day_of, [], []⟩,
  ⟨("Years", some "year_at"), "year_at", "Years.year_at", defArgs s_Years_year_at, defBody s_Years_year_at, defScope s_Years_year_at, [], []⟩,
  ⟨("Years", some "date_at"), "date_at", "Years.date_at", defArgs s_Years_date_at, defBody s_Years_date_at, defScope s_Years_date_at, [], []⟩]
def fn_1 : List He.DefD := [⟨("date_of", none), "date_of", "date_of", defArgs s_date_of, defBody s_date_of, defScope s_date_of, [], []⟩,
  ⟨("weekday", none), "weekday", "weekday", defArgs s_weekday, defBody s_weekday, defScope s_weekday, [], []⟩,
  ⟨("_law_seed", none), "_law_seed", "_law_seed", defArgs s_u_law_seed, defBody s_u_law_seed, defScope s_u_law_seed, [], []⟩,
  ⟨("_law_any", none), "_law_any", "_law_any", defArgs s_u_law_any, defBody s_u_law_any, defScope s_u_law_any, [], []⟩,
  ⟨("_law_one_of", none), "_law_one_of", "_law_one_of", defArgs s_u_law_one_of, defBody s_u_law_one_of, defScope s_u_law_one_of, [], []⟩,
  ⟨("_law_far", none), "_law_far", "_law_far", defArgs s_u_law_far, defBody s_u_law_far, defScope s_u_law_far, [], []⟩,
  ⟨("_law_named", none), "_law_named", "_law_named", defArgs s_u_law_named, defBody s_u_law_named, defScope s_u_law_named, [], []⟩,
  ⟨("_law_made", none), "_law_made", "_law_made", defArgs s_u_law_made, defBody s_u_law_made, defScope s_u_law_made, [], []⟩,
  ⟨("_law_year_lengths", none), "_law_year_lengths", "_law_year_lengths", defArgs s_u_law_year_lengths, defBody s_u_law_year_lengths, defScope s_u_law_year_lengths, [], []⟩,
  ⟨("_law_kind_of", none), "_law_kind_of", "_law_kind_of", defArgs s_u_law_kind_of, defBody s_u_law_kind_of, defScope s_u_law_kind_of, [], []⟩,
  ⟨("_law_year_begin", none), "_law_year_begin", "_law_year_begin", defArgs s_u_law_year_begin, defBody s_u_law_year_begin, defScope s_u_law_year_begin, [], []⟩,
  ⟨("_law_date_of", none), "_law_date_of", "_law_date_of", defArgs s_u_law_date_of, defBody s_u_law_date_of, defScope s_u_law_date_of, [], []⟩,
  ⟨("_law_drawn_made", none), "_law_drawn_made", "_law_drawn_made", defArgs s_u_law_drawn_made, defBody s_u_law_drawn_made, defScope s_u_law_drawn_made, [], []⟩,
  ⟨("_law_drawn_calendar", none), "_law_drawn_calendar", "_law_drawn_calendar", defArgs s_u_law_drawn_calendar, defBody s_u_law_drawn_calendar, defScope s_u_law_drawn_calendar, [], []⟩,
  ⟨("_law_leap", none), "_law_leap", "_law_leap", defArgs s_u_law_leap, defBody s_u_law_leap, defScope s_u_law_leap, [], []⟩,
  ⟨("_law_civil", none), "_law_civil", "_law_civil", defArgs s_u_law_civil, defBody s_u_law_civil, defScope s_u_law_civil, [], []⟩,
  ⟨("_law_next", none), "_law_next", "_law_next", defArgs s_u_law_next, defBody s_u_law_next, defScope s_u_law_next, [], []⟩,
  ⟨("_law_ends_and_far", none), "_law_ends_and_far", "_law_ends_and_far", defArgs s_u_law_ends_and_far, defBody s_u_law_ends_and_far, defScope s_u_law_ends_and_far, [], []⟩,
  ⟨("_law_right", none), "_law_right", "_law_right", defArgs s_u_law_right, defBody s_u_law_right, defScope s_u_law_right, [], []⟩,
  ⟨("_law_led_along", none), "_law_led_along", "_law_led_along", defArgs s_u_law_led_along, defBody s_u_law_led_along, defScope s_u_law_led_along, [], []⟩]
def fn_2 : List He.DefD := [⟨("law", none), "law", "law", defArgs s_law, defBody s_law, defScope s_law, [], []⟩]
def fn : List He.DefD := fn_0 ++ fn_1 ++ fn_2
def fa_0 : List He.Fa := [.free "super",
  .free "abs",
  .free "all",
  .free "bool",
  .free "divmod",
  .free "int",
  .free "isinstance",
  .free "len",
  .free "range",
  .free "str",
  .free "sum",
  .free "tuple",
  .glo "InvalidCalendar",
  .glo "InvalidDate",
  .glo "Years",
  .glo "_law_any",
  .glo "_law_civil",
  .glo "_law_date_of",
  .glo "_law_drawn_calendar",
  .glo "_law_drawn_made"]
def fa_1 : List He.Fa := [.glo "_law_ends_and_far",
  .glo "_law_far",
  .glo "_law_kind_of",
  .glo "_law_leap",
  .glo "_law_led_along",
  .glo "_law_made",
  .glo "_law_named",
  .glo "_law_next",
  .glo "_law_one_of",
  .glo "_law_right",
  .glo "_law_seed",
  .glo "_law_year_begin",
  .glo "_law_year_lengths",
  .glo "anew",
  .glo "cycle_days",
  .glo "date_of",
  .glo "day_of",
  .glo "is_a_calendar",
  .glo "is_a_date",
  .glo "is_between"]
def fa_2 : List He.Fa := [.glo "is_integer",
  .glo "is_leap",
  .glo "is_tuple",
  .glo "last_place",
  .glo "made_of",
  .glo "need_calendar",
  .glo "need_date",
  .glo "weekday",
  .glo "year_start",
  .glo "law",
  .cls "Years",
  .mkr "Years",
  .noat "Years" "base",
  .noat "Years" "cycle",
  .noat "Years" "epoch",
  .noat "Years" "rows",
  .noat "Years" "starts",
  .meth "Years" "days_in_cycle",
  .meth "Years" "start",
  .meth "Years" "months"]
def fa_3 : List He.Fa := [.meth "Years" "day_at",
  .meth "Years" "year_at",
  .meth "Years" "date_at"]
def fa : List He.Fa := fa_0 ++ fa_1 ++ fa_2 ++ fa_3
def xq : XQ := { cs := excN, kit := [("DayError", tb_DayError), ("InvalidCalendar", tb_InvalidCalendar), ("InvalidDate", tb_InvalidDate)], exm := [("DayError", tb_DayError), ("InvalidCalendar", tb_InvalidCalendar), ("InvalidDate", tb_InvalidDate)], consts := [("COMMON", c_COMMON), ("COPTIC", c_COPTIC), ("JULIAN", c_JULIAN), ("LEAP", c_LEAP), ("LONGER", c_LONGER), ("LONGER_YEARS", c_LONGER_YEARS), ("MOST", c_MOST), ("NAMES", c_NAMES), ("PLAIN", c_PLAIN), ("WEEK", c_WEEK)] }
abbrev s_dayinit : Stmt := (clsBody (top 2)).getD 0 (.Pass ⟨0, 0, 0, 0⟩)
def iw : InitW := some (("__init__" : Str), ("DayError.__init__" : Str), defArgs s_dayinit, FuncBody.stmts (defBody s_dayinit), defScope s_dayinit, mainGlobals, [("__class__" : Str)], builtinsNs, Value.none, Value.none)
abbrev Rr : PySem.W.OpenRow := PySem.W.OpenLaw.row PySem.Challenge.rw_alldue_k29_dates_by_the_civil_count
abbrev hk : PySem.W.Hook := hookX PySem.Challenge.pw_alldue_k29_dates_by_the_civil_count 6 fa fn xq iw
def ob (s : PySem.W.SharedT) : AlX := obsXG PySem.Challenge.pw_alldue_k29_dates_by_the_civil_count 6 fa fn xq (HandSHeadRun.getT s)
theorem ob_eq (s : PySem.W.SharedT) : ob s = hk.obs s.abs := obsXG_eq (iw := iw) (HandSHeadRun.getT_eq s)
def names_0 : List PySem.Str := ["_wall",
  "DayError",
  "InvalidCalendar",
  "InvalidDate",
  "is_integer",
  "is_between",
  "is_tuple",
  "anew",
  "MOST",
  "NAMES",
  "COMMON",
  "LEAP",
  "PLAIN",
  "LONGER",
  "LONGER_YEARS",
  "JULIAN",
  "COPTIC",
  "is_leap",
  "made_of",
  "is_a_calendar"]
def names_1 : List PySem.Str := ["is_a_date",
  "need_calendar",
  "need_date",
  "Years",
  "last_place",
  "WEEK",
  "cycle_days",
  "year_start",
  "day_of",
  "date_of",
  "weekday",
  "_law_seed",
  "_law_any",
  "_law_one_of",
  "_law_far",
  "_law_named",
  "_law_made",
  "_law_year_lengths",
  "_law_kind_of",
  "_law_year_begin"]
def names_2 : List PySem.Str := ["_law_date_of",
  "_law_drawn_made",
  "_law_drawn_calendar",
  "_law_leap",
  "_law_civil",
  "_law_next",
  "_law_ends_and_far",
  "_law_right",
  "_law_led_along"]
def names : List PySem.Str := names_0 ++ names_1 ++ names_2
theorem run (w : World) : HandSHeadRun.RunEq Rr (PySem.W.view Rr.prog [55]) hk ob 6000 names w := by
  intro os
  kernel_rfl
theorem txt {K : PySem.W.Frag} {h : Heap} {mg : Str → Option Value} (X : K.In h) (G : h.Ns mainGlobals mg) (c : obsX PySem.Challenge.pw_alldue_k29_dates_by_the_civil_count fa fn xq K = valX fn iw) : Txt PySem.Challenge.pw_alldue_k29_dates_by_the_civil_count K mg := by
  have c1 : He.SaysD fa fn K := congrArg Prod.fst c
  have c2 : xq.ok PySem.Challenge.pw_alldue_k29_dates_by_the_civil_count K = true := congrArg (fun z : AlX => z.2.1) c
  have c3 : initW K (He.ma K (He.ga K "DayError") "__init__") = iw := congrArg (fun z : AlX => z.2.2) c
  unfold XQ.ok at c2
  simp only [Bool.and_eq_true, List.all_eq_true] at c2
  obtain ⟨h1, h2, h3, h4, h5⟩ := c2
  have hf := init_ok h2 c3 ⟨_, fun _ => rfl⟩
  have hd : ∀ C ∈ excN, PySem.DayX.Txt PySem.Challenge.pw_alldue_k29_dates_by_the_civil_count K mg (He.ga K C) (He.ga K "DayError") (He.ma K (He.ga K "DayError") "__init__") ∧ ExcC K (He.ga K C) := fun C hC => day_ok (h1 C hC) (by kernel_rfl) (He.free_ok X G (c1.fact 0 (f := .free "super") rfl)) hf
  have kt : ∀ C tb, (C, tb) ∈ xq.kit → (∀ p ∈ tb, p.1 ∈ excN) → TyOk K (.o tb) (.ref (He.ga K C)) (.ref (He.ga K C)) := fun C tb hC hx => by
    obtain ⟨k1, k2⟩ := h3 _ hC
    exact .o (fun a ha => of_decide_eq_true (k1 a ha)) fun p hp => ⟨(hd p.1 (hx p hp)).2, of_decide_eq_true (k2 p hp)⟩
  have ke : ∀ C tb, (C, tb) ∈ xq.exm → ∀ C' b, tb.lookup C' = some b → PySem.W.exmOne K (.ref (He.ga K C')) (.ref (He.ga K C)) = some b := fun C tb hC C' b hl => of_decide_eq_true (h4 _ hC _ (mem_lookup hl))
  exact {
    f_abs := He.free_ok X G (c1.fact 1 (f := .free "abs") rfl)
    f_all := He.free_ok X G (c1.fact 2 (f := .free "all") rfl)
    f_bool := He.free_ok X G (c1.fact 3 (f := .free "bool") rfl)
    f_divmod := He.free_ok X G (c1.fact 4 (f := .free "divmod") rfl)
    f_int := He.free_ok X G (c1.fact 5 (f := .free "int") rfl)
    f_isinstance := He.free_ok X G (c1.fact 6 (f := .free "isinstance") rfl)
    f_len := He.free_ok X G (c1.fact 7 (f := .free "len") rfl)
    f_range := He.free_ok X G (c1.fact 8 (f := .free "range") rfl)
    f_str := He.free_ok X G (c1.fact 9 (f := .free "str") rfl)
    f_sum := He.free_ok X G (c1.fact 10 (f := .free "sum") rfl)
    f_tuple := He.free_ok X G (c1.fact 11 (f := .free "tuple") rfl)
    c_COMMON := const_ok X G (p := ("COMMON", c_COMMON)) (h5 _ (List.mem_of_getElem? (i := 0) rfl))
    c_COPTIC := const_ok X G (p := ("COPTIC", c_COPTIC)) (h5 _ (List.mem_of_getElem? (i := 1) rfl))
    g_InvalidCalendar := He.glo_ok X G (c1.fact 12 (f := .glo "InvalidCalendar") rfl)
    g_InvalidDate := He.glo_ok X G (c1.fact 13 (f := .glo "InvalidDate") rfl)
    c_JULIAN := const_ok X G (p := ("JULIAN", c_JULIAN)) (h5 _ (List.mem_of_getElem? (i := 2) rfl))
    c_LEAP := const_ok X G (p := ("LEAP", c_LEAP)) (h5 _ (List.mem_of_getElem? (i := 3) rfl))
    c_LONGER := const_ok X G (p := ("LONGER", c_LONGER)) (h5 _ (List.mem_of_getElem? (i := 4) rfl))
    c_LONGER_YEARS := const_ok X G (p := ("LONGER_YEARS", c_LONGER_YEARS)) (h5 _ (List.mem_of_getElem? (i := 5) rfl))
    c_MOST := const_ok X G (p := ("MOST", c_MOST)) (h5 _ (List.mem_of_getElem? (i := 6) rfl))
    c_NAMES := const_ok X G (p := ("NAMES", c_NAMES)) (h5 _ (List.mem_of_getElem? (i := 7) rfl))
    c_PLAIN := const_ok X G (p := ("PLAIN", c_PLAIN)) (h5 _ (List.mem_of_getElem? (i := 8) rfl))
    c_WEEK := const_ok X G (p := ("WEEK", c_WEEK)) (h5 _ (List.mem_of_getElem? (i := 9) rfl))
    g_Years := He.glo_ok X G (c1.fact 14 (f := .glo "Years") rfl)
    g__law_any := He.glo_ok X G (c1.fact 15 (f := .glo "_law_any") rfl)
    g__law_civil := He.glo_ok X G (c1.fact 16 (f := .glo "_law_civil") rfl)
    g__law_date_of := He.glo_ok X G (c1.fact 17 (f := .glo "_law_date_of") rfl)
    g__law_drawn_calendar := He.glo_ok X G (c1.fact 18 (f := .glo "_law_drawn_calendar") rfl)
    g__law_drawn_made := He.glo_ok X G (c1.fact 19 (f := .glo "_law_drawn_made") rfl)
    g__law_ends_and_far := He.glo_ok X G (c1.fact 20 (f := .glo "_law_ends_and_far") rfl)
    g__law_far := He.glo_ok X G (c1.fact 21 (f := .glo "_law_far") rfl)
    g__law_kind_of := He.glo_ok X G (c1.fact 22 (f := .glo "_law_kind_of") rfl)
    g__law_leap := He.glo_ok X G (c1.fact 23 (f := .glo "_law_leap") rfl)
    g__law_led_along := He.glo_ok X G (c1.fact 24 (f := .glo "_law_led_along") rfl)
    g__law_made := He.glo_ok X G (c1.fact 25 (f := .glo "_law_made") rfl)
    g__law_named := He.glo_ok X G (c1.fact 26 (f := .glo "_law_named") rfl)
    g__law_next := He.glo_ok X G (c1.fact 27 (f := .glo "_law_next") rfl)
    g__law_one_of := He.glo_ok X G (c1.fact 28 (f := .glo "_law_one_of") rfl)
    g__law_right := He.glo_ok X G (c1.fact 29 (f := .glo "_law_right") rfl)
    g__law_seed := He.glo_ok X G (c1.fact 30 (f := .glo "_law_seed") rfl)
    g__law_year_begin := He.glo_ok X G (c1.fact 31 (f := .glo "_law_year_begin") rfl)
    g__law_year_lengths := He.glo_ok X G (c1.fact 32 (f := .glo "_law_year_lengths") rfl)
    g_anew := He.glo_ok X G (c1.fact 33 (f := .glo "anew") rfl)
    g_cycle_days := He.glo_ok X G (c1.fact 34 (f := .glo "cycle_days") rfl)
    g_date_of := He.glo_ok X G (c1.fact 35 (f := .glo "date_of") rfl)
    g_day_of := He.glo_ok X G (c1.fact 36 (f := .glo "day_of") rfl)
    g_is_a_calendar := He.glo_ok X G (c1.fact 37 (f := .glo "is_a_calendar") rfl)
    g_is_a_date := He.glo_ok X G (c1.fact 38 (f := .glo "is_a_date") rfl)
    g_is_between := He.glo_ok X G (c1.fact 39 (f := .glo "is_between") rfl)
    g_is_integer := He.glo_ok X G (c1.fact 40 (f := .glo "is_integer") rfl)
    g_is_leap := He.glo_ok X G (c1.fact 41 (f := .glo "is_leap") rfl)
    g_is_tuple := He.glo_ok X G (c1.fact 42 (f := .glo "is_tuple") rfl)
    g_last_place := He.glo_ok X G (c1.fact 43 (f := .glo "last_place") rfl)
    g_made_of := He.glo_ok X G (c1.fact 44 (f := .glo "made_of") rfl)
    g_need_calendar := He.glo_ok X G (c1.fact 45 (f := .glo "need_calendar") rfl)
    g_need_date := He.glo_ok X G (c1.fact 46 (f := .glo "need_date") rfl)
    g_weekday := He.glo_ok X G (c1.fact 47 (f := .glo "weekday") rfl)
    g_year_start := He.glo_ok X G (c1.fact 48 (f := .glo "year_start") rfl)
    d_is_integer := c1.def_ 0 (d := ⟨("is_integer", none), "is_integer", "is_integer", defArgs s_is_integer, defBody s_is_integer, defScope s_is_integer, [], []⟩) rfl
    d_is_between := c1.def_ 1 (d := ⟨("is_between", none), "is_between", "is_between", defArgs s_is_between, defBody s_is_between, defScope s_is_between, [], []⟩) rfl
    d_is_tuple := c1.def_ 2 (d := ⟨("is_tuple", none), "is_tuple", "is_tuple", defArgs s_is_tuple, defBody s_is_tuple, defScope s_is_tuple, [], []⟩) rfl
    d_is_leap := c1.def_ 3 (d := ⟨("is_leap", none), "is_leap", "is_leap", defArgs s_is_leap, defBody s_is_leap, defScope s_is_leap, [], []⟩) rfl
    d_made_of := c1.def_ 4 (d := ⟨("made_of", none), "made_of", "made_of", defArgs s_made_of, defBody s_made_of, defScope s_made_of, [], []⟩) rfl
    d_is_a_calendar := c1.def_ 5 (d := ⟨("is_a_calendar", none), "is_a_calendar", "is_a_calendar", defArgs s_is_a_calendar, defBody s_is_a_calendar, defScope s_is_a_calendar, [], []⟩) rfl
    d_is_a_date := c1.def_ 6 (d := ⟨("is_a_date", none), "is_a_date", "is_a_date", defArgs s_is_a_date, defBody s_is_a_date, defScope s_is_a_date, [], []⟩) rfl
    d_need_calendar := c1.def_ 7 (d := ⟨("need_calendar", none), "need_calendar", "need_calendar", defArgs s_need_calendar, defBody s_need_calendar, defScope s_need_calendar, [], []⟩) rfl
    d_need_date := c1.def_ 8 (d := ⟨("need_date", none), "need_date", "need_date", defArgs s_need_date, defBody s_need_date, defScope s_need_date, [], []⟩) rfl
    d_last_place := c1.def_ 9 (d := ⟨("last_place", none), "last_place", "last_place", defArgs s_last_place, defBody s_last_place, defScope s_last_place, [], []⟩) rfl
    d_Years_days_in_cycle := c1.def_ 10 (d := ⟨("Years", some "days_in_cycle"), "days_in_cycle", "Years.days_in_cycle", defArgs s_Years_days_in_cycle, defBody s_Years_days_in_cycle, defScope s_Years_days_in_cycle, [], []⟩) rfl
    d_Years___init__ := c1.def_ 11 (d := ⟨("Years", some "__init__"), "__init__", "Years.__init__", defArgs s_Years___init__, defBody s_Years___init__, defScope s_Years___init__, [], []⟩) rfl
    d_cycle_days := c1.def_ 12 (d := ⟨("cycle_days", none), "cycle_days", "cycle_days", defArgs s_cycle_days, defBody s_cycle_days, defScope s_cycle_days, [], []⟩) rfl
    d_Years_start := c1.def_ 13 (d := ⟨("Years", some "start"), "start", "Years.start", defArgs s_Years_start, defBody s_Years_start, defScope s_Years_start, [], []⟩) rfl
    d_year_start := c1.def_ 14 (d := ⟨("year_start", none), "year_start", "year_start", defArgs s_year_start, defBody s_year_start, defScope s_year_start, [], []⟩) rfl
    d_Years_months := c1.def_ 15 (d := ⟨("Years", some "months"), "months", "Years.months", defArgs s_Years_months, defBody s_Years_months, defScope s_Years_months, [], []⟩) rfl
    d_Years_day_at := c1.def_ 16 (d := ⟨("Years", some "day_at"), "day_at", "Years.day_at", defArgs s_Years_day_at, defBody s_Years_day_at, defScope s_Years_day_at, [], []⟩) rfl
    d_day_of := c1.def_ 17 (d := ⟨("day_of", none), "day_of", "day_of", defArgs s_day_of, defBody s_day_of, defScope s_day_of, [], []⟩) rfl
    d_Years_year_at := c1.def_ 18 (d := ⟨("Years", some "year_at"), "year_at", "Years.year_at", defArgs s_Years_year_at, defBody s_Years_year_at, defScope s_Years_year_at, [], []⟩) rfl
    d_Years_date_at := c1.def_ 19 (d := ⟨("Years", some "date_at"), "date_at", "Years.date_at", defArgs s_Years_date_at, defBody s_Years_date_at, defScope s_Years_date_at, [], []⟩) rfl
    d_date_of := c1.def_ 20 (d := ⟨("date_of", none), "date_of", "date_of", defArgs s_date_of, defBody s_date_of, defScope s_date_of, [], []⟩) rfl
    d_weekday := c1.def_ 21 (d := ⟨("weekday", none), "weekday", "weekday", defArgs s_weekday, defBody s_weekday, defScope s_weekday, [], []⟩) rfl
    d_u_law_seed := c1.def_ 22 (d := ⟨("_law_seed", none), "_law_seed", "_law_seed", defArgs s_u_law_seed, defBody s_u_law_seed, defScope s_u_law_seed, [], []⟩) rfl
    d_u_law_any := c1.def_ 23 (d := ⟨("_law_any", none), "_law_any", "_law_any", defArgs s_u_law_any, defBody s_u_law_any, defScope s_u_law_any, [], []⟩) rfl
    d_u_law_one_of := c1.def_ 24 (d := ⟨("_law_one_of", none), "_law_one_of", "_law_one_of", defArgs s_u_law_one_of, defBody s_u_law_one_of, defScope s_u_law_one_of, [], []⟩) rfl
    d_u_law_far := c1.def_ 25 (d := ⟨("_law_far", none), "_law_far", "_law_far", defArgs s_u_law_far, defBody s_u_law_far, defScope s_u_law_far, [], []⟩) rfl
    d_u_law_named := c1.def_ 26 (d := ⟨("_law_named", none), "_law_named", "_law_named", defArgs s_u_law_named, defBody s_u_law_named, defScope s_u_law_named, [], []⟩) rfl
    d_u_law_made := c1.def_ 27 (d := ⟨("_law_made", none), "_law_made", "_law_made", defArgs s_u_law_made, defBody s_u_law_made, defScope s_u_law_made, [], []⟩) rfl
    d_u_law_year_lengths := c1.def_ 28 (d := ⟨("_law_year_lengths", none), "_law_year_lengths", "_law_year_lengths", defArgs s_u_law_year_lengths, defBody s_u_law_year_lengths, defScope s_u_law_year_lengths, [], []⟩) rfl
    d_u_law_kind_of := c1.def_ 29 (d := ⟨("_law_kind_of", none), "_law_kind_of", "_law_kind_of", defArgs s_u_law_kind_of, defBody s_u_law_kind_of, defScope s_u_law_kind_of, [], []⟩) rfl
    d_u_law_year_begin := c1.def_ 30 (d := ⟨("_law_year_begin", none), "_law_year_begin", "_law_year_begin", defArgs s_u_law_year_begin, defBody s_u_law_year_begin, defScope s_u_law_year_begin, [], []⟩) rfl
    d_u_law_date_of := c1.def_ 31 (d := ⟨("_law_date_of", none), "_law_date_of", "_law_date_of", defArgs s_u_law_date_of, defBody s_u_law_date_of, defScope s_u_law_date_of, [], []⟩) rfl
    d_u_law_drawn_made := c1.def_ 32 (d := ⟨("_law_drawn_made", none), "_law_drawn_made", "_law_drawn_made", defArgs s_u_law_drawn_made, defBody s_u_law_drawn_made, defScope s_u_law_drawn_made, [], []⟩) rfl
    d_u_law_drawn_calendar := c1.def_ 33 (d := ⟨("_law_drawn_calendar", none), "_law_drawn_calendar", "_law_drawn_calendar", defArgs s_u_law_drawn_calendar, defBody s_u_law_drawn_calendar, defScope s_u_law_drawn_calendar, [], []⟩) rfl
    d_u_law_leap := c1.def_ 34 (d := ⟨("_law_leap", none), "_law_leap", "_law_leap", defArgs s_u_law_leap, defBody s_u_law_leap, defScope s_u_law_leap, [], []⟩) rfl
    d_u_law_civil := c1.def_ 35 (d := ⟨("_law_civil", none), "_law_civil", "_law_civil", defArgs s_u_law_civil, defBody s_u_law_civil, defScope s_u_law_civil, [], []⟩) rfl
    d_u_law_next := c1.def_ 36 (d := ⟨("_law_next", none), "_law_next", "_law_next", defArgs s_u_law_next, defBody s_u_law_next, defScope s_u_law_next, [], []⟩) rfl
    d_u_law_ends_and_far := c1.def_ 37 (d := ⟨("_law_ends_and_far", none), "_law_ends_and_far", "_law_ends_and_far", defArgs s_u_law_ends_and_far, defBody s_u_law_ends_and_far, defScope s_u_law_ends_and_far, [], []⟩) rfl
    d_u_law_right := c1.def_ 38 (d := ⟨("_law_right", none), "_law_right", "_law_right", defArgs s_u_law_right, defBody s_u_law_right, defScope s_u_law_right, [], []⟩) rfl
    d_u_law_led_along := c1.def_ 39 (d := ⟨("_law_led_along", none), "_law_led_along", "_law_led_along", defArgs s_u_law_led_along, defBody s_u_law_led_along, defScope s_u_law_led_along, [], []⟩) rfl
    d_law := c1.def_ 40 (d := ⟨("law", none), "law", "law", defArgs s_law, defBody s_law, defScope s_law, [], []⟩) rfl
    k_Years := He.cls_ok (c1.fact 50 (f := .cls "Years") rfl)
    mk_Years := He.mkr_ok (c1.fact 51 (f := .mkr "Years") rfl)
    na_Years_base := He.noat_ok (c1.fact 52 (f := .noat "Years" "base") rfl)
    na_Years_cycle := He.noat_ok (c1.fact 53 (f := .noat "Years" "cycle") rfl)
    na_Years_epoch := He.noat_ok (c1.fact 54 (f := .noat "Years" "epoch") rfl)
    na_Years_rows := He.noat_ok (c1.fact 55 (f := .noat "Years" "rows") rfl)
    na_Years_starts := He.noat_ok (c1.fact 56 (f := .noat "Years" "starts") rfl)
    me_Years_days_in_cycle := He.meth_ok (c1.fact 57 (f := .meth "Years" "days_in_cycle") rfl)
    me_Years_start := He.meth_ok (c1.fact 58 (f := .meth "Years" "start") rfl)
    me_Years_months := He.meth_ok (c1.fact 59 (f := .meth "Years" "months") rfl)
    me_Years_day_at := He.meth_ok (c1.fact 60 (f := .meth "Years" "day_at") rfl)
    me_Years_year_at := He.meth_ok (c1.fact 61 (f := .meth "Years" "year_at") rfl)
    me_Years_date_at := He.meth_ok (c1.fact 62 (f := .meth "Years" "date_at") rfl)
    day := fun C hC => (hd C hC).1
    ty_DayError := kt _ _ (List.mem_of_getElem? (i := 0) rfl) (by decide)
    ex_DayError := ke _ _ (List.mem_of_getElem? (i := 0) rfl)
    ty_InvalidCalendar := kt _ _ (List.mem_of_getElem? (i := 1) rfl) (by decide)
    ex_InvalidCalendar := ke _ _ (List.mem_of_getElem? (i := 1) rfl)
    ty_InvalidDate := kt _ _ (List.mem_of_getElem? (i := 2) rfl) (by decide)
    ex_InvalidDate := ke _ _ (List.mem_of_getElem? (i := 2) rfl)
  }
end Wk29
open PySem PySem.W PySem.Calls PyProof.Rows
/-- the law holds, if its mirror answers True -/
theorem Wk29.holds_of (hm : ∀ ns : List Int, ns.length ≤ 63 → Wk29.m_law [.scr ns] = .ok (.val (.bl true)) none) : PySem.Challenge.rw_alldue_k29_dates_by_the_civil_count.Holds := by
  w_on; o_law
  refine HandSHeadRun.head_any (r := OpenLaw.row PySem.Challenge.rw_alldue_k29_dates_by_the_civil_count) (q := view (OpenLaw.row PySem.Challenge.rw_alldue_k29_dates_by_the_civil_count).prog [55]) (H := Wk29.hk) (ob := Wk29.ob) (M := 6000) (loose := Wk29.names) (d := HandSHeadRun.topDef (OpenLaw.row PySem.Challenge.rw_alldue_k29_dates_by_the_civil_count).prog 55) (kwd := []) Wk29.ob_eq
    (by kernel_rfl) (fun s => by kernel_rfl) Wk29.run (by kernel_rfl) (by kernel_rfl) (by kernel_rfl) (by rfl) (by first | assumption | decide +kernel) (by decide +kernel) ⟨rfl, rfl, rfl, rfl, rfl, by decide +kernel⟩ ?hw ?hc
  case hw => w_witness2
  case hc =>
    refine L2.walk_ofE (l := PySem.Challenge.rw_alldue_k29_dates_by_the_civil_count) (n := 63) (k := 7) (x := "script") (CX := L2.CX0) rfl (by decide) (by kernel_rfl) ⟨rfl, by decide, by decide⟩ ?F (fun _ _ _ _ z => z)
    intro w mg fa h Y G hmg0
    obtain ⟨K, KX, c⟩ := Y
    have hmg : mg ("law" : PySem.Str) = some (.ref fa) := by
      have e : (HandSHeadRun.topDef (OpenLaw.row PySem.Challenge.rw_alldue_k29_dates_by_the_civil_count).prog 55).name = ("law" : PySem.Str) := by kernel_rfl
      rw [← e]
      exact hmg0
    have T := Wk29.txt KX G c
    have c1 : He.SaysD Wk29.fa Wk29.fn K := congrArg Prod.fst c
    have e := hmg.symm.trans (He.glo_ok KX G (c1.fact 49 (f := .glo "law") rfl))
    cases e
    obtain ⟨fd, F0, hb⟩ := Wk29.ok_law (w := w) T
    exact ⟨K, fd, DL.spV K Wk29.m_law, KX, hb, fun H a ns hl _ hS => DL.law_sp (hm ns hl) hS, fun base _ _ => F0 base⟩

end
section
namespace Wk29
open PySem DL CAL
theorem ev_is_tuple (ds : List D) (lo hi : Int) : m_is_tuple [.tup ds, .int lo, .int hi] = .ok (.val (.bl (decide (lo ≤ (ds.length : Int)) && decide ((ds.length : Int) ≤ hi)))) none := by
  by_cases h1 : lo ≤ (ds.length : Int) <;> by_cases h2 : (ds.length : Int) ≤ hi <;> simp [runV, runIO2, runIO, sRet, sSeq, sAsg, sSet, sPar, sIf, sNext, sDrop, thaw, frz, cOp, cVar, cMove, cC, cUn, cCall, cCallL, cTup, cLst, aNil, aCons, cIxV, slotD, gNm, gTp, gMore, gNone, gSb, cLenV, cChain, cAnd, cOr, cNot, asB, tAnd, tOr, tNot, cIf, DL.ret, finF, ioOf, RF.to, RF.io, Sl.mut, Sl.put, Sl.data, Sl.dat, D.bool, D.addE, D.add, D.sub, D.mul, D.div, D.mod, D.pow, D.lt, D.ltE, D.le, D.gt, D.ge, D.neg, opLen, opInt, opAbs, opTuple, opList, opStr, opRepr, opAny, opAll, opSum, cFn, cFnIO, cMeth, cNew, cFld, m_is_tuple, b_is_tuple, cIs, Ty.ask, D.tyName, isB, h1, h2]
theorem ev_is_integer (i : Int) : m_is_integer [.int i] = .ok (.val (.bl true)) none := by
  simp [runV, runIO2, runIO, sRet, sSeq, sAsg, sSet, sPar, sIf, sNext, sDrop, thaw, frz, cOp, cVar, cMove, cC, cUn, cCall, cCallL, cTup, cLst, aNil, aCons, cIxV, slotD, gNm, gTp, gMore, gNone, gSb, cLenV, cChain, cAnd, cOr, cNot, asB, tAnd, tOr, tNot, cIf, DL.ret, finF, ioOf, RF.to, RF.io, Sl.mut, Sl.put, Sl.data, Sl.dat, D.bool, D.addE, D.add, D.sub, D.mul, D.div, D.mod, D.pow, D.lt, D.ltE, D.le, D.gt, D.ge, D.neg, opLen, opInt, opAbs, opTuple, opList, opStr, opRepr, opAny, opAll, opSum, cFn, cFnIO, cMeth, cNew, cFld, m_is_integer, b_is_integer, cIs, Ty.ask, D.tyName, isB]
theorem ev_is_between (v lo hi : Int) : m_is_between [.int v, .int lo, .int hi] = .ok (.val (.bl (decide (lo ≤ v) && decide (v ≤ hi)))) none := by
  by_cases h1 : lo ≤ v <;> by_cases h2 : v ≤ hi <;> simp [runV, runIO2, runIO, sRet, sSeq, sAsg, sSet, sPar, sIf, sNext, sDrop, thaw, frz, cOp, cVar, cMove, cC, cUn, cCall, cCallL, cTup, cLst, aNil, aCons, cIxV, slotD, gNm, gTp, gMore, gNone, gSb, cLenV, cChain, cAnd, cOr, cNot, asB, tAnd, tOr, tNot, cIf, DL.ret, finF, ioOf, RF.to, RF.io, Sl.mut, Sl.put, Sl.data, Sl.dat, D.bool, D.addE, D.add, D.sub, D.mul, D.div, D.mod, D.pow, D.lt, D.ltE, D.le, D.gt, D.ge, D.neg, opLen, opInt, opAbs, opTuple, opList, opStr, opRepr, opAny, opAll, opSum, cFn, cFnIO, cMeth, cNew, cFld, m_is_between, b_is_between, ev_is_integer, h1, h2]
theorem kind_all {ms : List Int} (ho : ∀ x ∈ ms, 1 ≤ x ∧ x ≤ 50) (hl : ms.length ≤ 20) (s0 s1 s2 s5 : Sl) : cLc [4] (cItems (cVar 3)) (gNm 4) tTrue e_is_a_calendar_0 [s0, s1, s2, .val (msD ms), .no, s5] = .ok (.own ((ms.map D.int).map fun _ => .bl true)) [s0, s1, s2, .val (msD ms), .no, s5] := by
  refine lc_ok (ρ1 := [s0, s1, s2, .val (msD ms), .no, s5]) (fun _ => .bl true) (by simp [runV, runIO2, runIO, sRet, sSeq, sAsg, sSet, sPar, sIf, sNext, sDrop, thaw, frz, cOp, cVar, cMove, cC, cUn, cCall, cCallL, cTup, cLst, aNil, aCons, cIxV, slotD, gNm, gTp, gMore, gNone, gSb, cLenV, cChain, cAnd, cOr, cNot, asB, tAnd, tOr, tNot, cIf, DL.ret, finF, ioOf, RF.to, RF.io, Sl.mut, Sl.put, Sl.data, Sl.dat, D.bool, D.addE, D.add, D.sub, D.mul, D.div, D.mod, D.pow, D.lt, D.ltE, D.le, D.gt, D.ge, D.neg, opLen, opInt, opAbs, opTuple, opList, opStr, opRepr, opAny, opAll, opSum, cFn, cFnIO, cMeth, cNew, cFld, cItems, D.items, msD]) rfl ?_ (by rw [List.length_map]; exact size_ge (by omega))
  intro d hd
  obtain ⟨x, hx, rfl⟩ := List.mem_map.mp hd
  have q := ho x hx
  simp [runV, runIO2, runIO, sRet, sSeq, sAsg, sSet, sPar, sIf, sNext, sDrop, thaw, frz, cOp, cVar, cMove, cC, cUn, cCall, cCallL, cTup, cLst, aNil, aCons, cIxV, slotD, gNm, gTp, gMore, gNone, gSb, cLenV, cChain, cAnd, cOr, cNot, asB, tAnd, tOr, tNot, cIf, DL.ret, finF, ioOf, RF.to, RF.io, Sl.mut, Sl.put, Sl.data, Sl.dat, D.bool, D.addE, D.add, D.sub, D.mul, D.div, D.mod, D.pow, D.lt, D.ltE, D.le, D.gt, D.ge, D.neg, opLen, opInt, opAbs, opTuple, opList, opStr, opRepr, opAny, opAll, opSum, cFn, cFnIO, cMeth, cNew, cFld, e_is_a_calendar_0, ev_is_between, q.1, q.2]
theorem kind_ok {ms : List Int} (ho : ∀ x ∈ ms, 1 ≤ x ∧ x ≤ 50) (h1 : 1 ≤ ms.length) (hl : ms.length ≤ 20) (s0 s1 s2 s5 : Sl) : l_is_a_calendar_1 [s0, s1, s2, .val (msD ms), .no, s5] = .ok .next [s0, s1, s2, .val (msD ms), .no, s5] := by
  have k := kind_all ho hl s0 s1 s2 s5
  have t : m_is_tuple [msD ms, .int 1, .int 20] = .ok (.val (.bl true)) none := by
    unfold msD
    rw [ev_is_tuple, List.length_map, decide_eq_true (by omega : (1 : Int) ≤ (ms.length : Int)), decide_eq_true (by omega : (ms.length : Int) ≤ 20)]
    rfl
  have a : opAll [.lst ((ms.map D.int).map fun _ => D.bl true)] = some (.bl true) := all_true _ fun _ _ => rfl
  simp [runV, runIO2, runIO, sRet, sSeq, sAsg, sSet, sPar, sIf, sNext, sDrop, thaw, frz, cOp, cVar, cMove, cC, cUn, cCall, cCallL, cTup, cLst, aNil, aCons, cIxV, slotD, gNm, gTp, gMore, gNone, gSb, cLenV, cChain, cAnd, cOr, cNot, asB, tAnd, tOr, tNot, cIf, DL.ret, finF, ioOf, RF.to, RF.io, Sl.mut, Sl.put, Sl.data, Sl.dat, D.bool, D.addE, D.add, D.sub, D.mul, D.div, D.mod, D.pow, D.lt, D.ltE, D.le, D.gt, D.ge, D.neg, opLen, opInt, opAbs, opTuple, opList, opStr, opRepr, opAny, opSum, cFn, cFnIO, cMeth, cNew, cFld, -List.map_map, l_is_a_calendar_1, k, t, a]
theorem kinds_loop : ∀ (ks : List (List Int)), (∀ ms ∈ ks, 1 ≤ ms.length ∧ ms.length ≤ 20) → (∀ ms ∈ ks, ∀ x ∈ ms, 1 ≤ x ∧ x ≤ 50) → ∀ (s0 s1 s2 s3 s5 : Sl), ∃ t3, goFor (gNm 3) l_is_a_calendar_1 (ks.map msD) [s0, s1, s2, s3, .no, s5] = .ok .next [s0, s1, s2, t3, .no, s5]
  | [], _, _, s0, s1, s2, s3, s5 => ⟨s3, rfl⟩
  | ms :: ks, h1, h2, s0, s1, s2, s3, s5 => by
    have q := h1 ms List.mem_cons_self
    have k := kind_ok (h2 ms List.mem_cons_self) q.1 q.2 s0 s1 s2 s5
    obtain ⟨t3, e⟩ := kinds_loop ks (fun m hm => h1 m (List.mem_cons_of_mem _ hm)) (fun m hm => h2 m (List.mem_cons_of_mem _ hm)) s0 s1 s2 (.val (msD ms)) s5
    refine ⟨t3, ?_⟩
    have g : gNm 3 (msD ms) [s0, s1, s2, s3, .no, s5] = some [s0, s1, s2, .val (msD ms), .no, s5] := rfl
    simp only [List.map_cons, goFor, g, k]
    exact e
theorem years_all {c : Mcal} (h : c.Ok) (s0 s3 s4 : Sl) : cLc [5] (cItems (cVar 2)) (gNm 5) tTrue e_is_a_calendar_2 [s0, .val (.tup (c.kinds.map msD)), .val (.tup (c.years.map nat)), s3, s4, .no] = .ok (.own ((c.years.map nat).map fun _ => .bl true)) [s0, .val (.tup (c.kinds.map msD)), .val (.tup (c.years.map nat)), s3, s4, .no] := by
  refine lc_ok (ρ1 := [s0, .val (.tup (c.kinds.map msD)), .val (.tup (c.years.map nat)), s3, s4, .no]) (fun _ => .bl true) (by simp [runV, runIO2, runIO, sRet, sSeq, sAsg, sSet, sPar, sIf, sNext, sDrop, thaw, frz, cOp, cVar, cMove, cC, cUn, cCall, cCallL, cTup, cLst, aNil, aCons, cIxV, slotD, gNm, gTp, gMore, gNone, gSb, cLenV, cChain, cAnd, cOr, cNot, asB, tAnd, tOr, tNot, cIf, DL.ret, finF, ioOf, RF.to, RF.io, Sl.mut, Sl.put, Sl.data, Sl.dat, D.bool, D.addE, D.add, D.sub, D.mul, D.div, D.mod, D.pow, D.lt, D.ltE, D.le, D.gt, D.ge, D.neg, opLen, opInt, opAbs, opTuple, opList, opStr, opRepr, opAny, opAll, opSum, cFn, cFnIO, cMeth, cNew, cFld, cItems, D.items]) rfl ?_ (by have := h.y2; rw [List.length_map]; exact size_ge (by omega))
  intro d hd
  obtain ⟨k, hk, rfl⟩ := List.mem_map.mp hd
  have q := h.yk k hk
  have q2 : (k : Int) ≤ (c.kinds.length : Int) - 1 := by omega
  simp [runV, runIO2, runIO, sRet, sSeq, sAsg, sSet, sPar, sIf, sNext, sDrop, thaw, frz, cOp, cVar, cMove, cC, cUn, cCall, cCallL, cTup, cLst, aNil, aCons, cIxV, slotD, gNm, gTp, gMore, gNone, gSb, cLenV, cChain, cAnd, cOr, cNot, asB, tAnd, tOr, tNot, cIf, DL.ret, finF, ioOf, RF.to, RF.io, Sl.mut, Sl.put, Sl.data, Sl.dat, D.bool, D.addE, D.add, D.sub, D.mul, D.div, D.mod, D.pow, D.lt, D.ltE, D.le, D.gt, D.ge, D.neg, opLen, opInt, opAbs, opTuple, opList, opStr, opRepr, opAny, opAll, opSum, cFn, cFnIO, cMeth, cNew, cFld, e_is_a_calendar_2, ev_is_between, nat, q2]
theorem ev_is_a_calendar {c : Mcal} (h : c.Ok) : m_is_a_calendar [c.d] = .ok (.val (.bl true)) none := by
  obtain ⟨t3, l⟩ := kinds_loop c.kinds h.m1 h.mo (.val c.d) (.val (.tup (c.kinds.map msD))) (.val (.tup (c.years.map nat))) .no .no
  have y := years_all h (.val c.d) t3 .no
  have a : opAll [.lst ((c.years.map nat).map fun _ => D.bl true)] = some (.bl true) := all_true _ fun _ _ => rfl
  have k1 : (1 : Int) ≤ (c.kinds.length : Int) := by have := h.k1; omega
  have k2 : (c.kinds.length : Int) ≤ 12 := by have := h.k2; omega
  have y1 : (1 : Int) ≤ (c.years.length : Int) := by have := h.y1; omega
  have y2 : (c.years.length : Int) ≤ 500 := by have := h.y2; omega
  have e := h.e0
  have b := h.b0
  unfold Mcal.d at l y ⊢
  simp [runV, runIO2, runIO, sRet, sSeq, sAsg, sSet, sPar, sIf, sNext, sDrop, thaw, frz, cOp, cVar, cMove, cC, cUn, cCall, cCallL, cTup, cLst, aNil, aCons, cIxV, slotD, gNm, gTp, gMore, gNone, gSb, cLenV, cChain, cAnd, cOr, cNot, asB, tAnd, tOr, tNot, cIf, DL.ret, finF, ioOf, RF.to, RF.io, Sl.mut, Sl.put, Sl.data, Sl.dat, D.bool, D.addE, D.add, D.sub, D.mul, D.div, D.mod, D.pow, D.lt, D.ltE, D.le, D.gt, D.ge, D.neg, opLen, opInt, opAbs, opTuple, opList, opStr, opRepr, opAny, opSum, cFn, cFnIO, cMeth, cNew, cFld, -List.map_map, m_is_a_calendar, b_is_a_calendar, sFor, cItems, D.items, ev_is_tuple, ev_is_between, cIs, Ty.ask, D.tyName, isB, c_MOST, k1, k2, y1, y2, e.1, e.2, b.1, b.2, l, y, a]
theorem strOk_n : PyData.strOk "gregorian" = true ∧ PyData.strOk "julian" = true ∧ PyData.strOk "islamic" = true ∧ PyData.strOk "coptic" = true := by decide +kernel
theorem ev_made_of (c : Mcal) : m_made_of [c.d] = .ok (.val c.d) none := by
  have s := c.lay.sh
  have e : ∀ x : Str, PyData.strOk x = true → D.eq c.d (.str x) = some (.bl false) := fun x hx => eq_ts _ x s hx
  simp [runV, runIO2, runIO, sRet, sSeq, sAsg, sSet, sPar, sIf, sNext, sDrop, thaw, frz, cOp, cVar, cMove, cC, cUn, cCall, cCallL, cTup, cLst, aNil, aCons, cIxV, slotD, gNm, gTp, gMore, gNone, gSb, cLenV, cChain, cAnd, cOr, cNot, asB, tAnd, tOr, tNot, cIf, DL.ret, finF, ioOf, RF.to, RF.io, Sl.mut, Sl.put, Sl.data, Sl.dat, D.bool, D.addE, D.add, D.sub, D.mul, D.div, D.mod, D.pow, D.lt, D.ltE, D.le, D.gt, D.ge, D.neg, opLen, opInt, opAbs, opTuple, opList, opStr, opRepr, opAny, opAll, opSum, cFn, cFnIO, cMeth, cNew, cFld, m_made_of, b_made_of, e _ strOk_n.1, e _ strOk_n.2.1, e _ strOk_n.2.2.1, e _ strOk_n.2.2.2]
theorem ev_need {c : Mcal} (h : c.Ok) : m_need_calendar [c.d] = .ok (.val c.d) none := by
  simp [runV, runIO2, runIO, sRet, sSeq, sAsg, sSet, sPar, sIf, sNext, sDrop, thaw, frz, cOp, cVar, cMove, cC, cUn, cCall, cCallL, cTup, cLst, aNil, aCons, cIxV, slotD, gNm, gTp, gMore, gNone, gSb, cLenV, cChain, cAnd, cOr, cNot, asB, tAnd, tOr, tNot, cIf, DL.ret, finF, ioOf, RF.to, RF.io, Sl.mut, Sl.put, Sl.data, Sl.dat, D.bool, D.addE, D.add, D.sub, D.mul, D.div, D.mod, D.pow, D.lt, D.ltE, D.le, D.gt, D.ge, D.neg, opLen, opInt, opAbs, opTuple, opList, opStr, opRepr, opAny, opAll, opSum, cFn, cFnIO, cMeth, cNew, cFld, m_need_calendar, b_need_calendar, ev_is_a_calendar h, ev_made_of]
end Wk29

end
section
namespace Wk29
open PySem DL CAL
def fsI (c : Mcal) (st rw_ : List D) : Fs := [("epoch", .val (.int c.epoch)), ("base", .val (.int c.base)), ("cycle", .val (.lst (cyL c))), ("starts", .own st), ("rows", .own rw_)]
section
variable (c : Mcal)
theorem fsI_starts (st rw_ : List D) : (fsI c st rw_).lookup ("starts" : Str) = some (Sl.own st) := rfl
theorem fsI_rows (st rw_ : List D) : (fsI c st rw_).lookup ("rows" : Str) = some (Sl.own rw_) := rfl
theorem put_starts (st rw_ st' : List D) : putS "starts" (.own st') (fsI c st rw_) = fsI c st' rw_ := rfl
theorem put_rows (st rw_ rw' : List D) : putS "rows" (.own rw') (fsI c st rw_) = fsI c st rw' := rfl
theorem datas_fsI (st rw_ : List D) : datas (fsI c st rw_) = ([("epoch", .int c.epoch), ("base", .int c.base), ("cycle", .lst (cyL c)), ("starts", .lst st), ("rows", .lst rw_)] : List (Str × D)) := rfl
theorem fl_starts (a b c d e : D) : D.fld "Years" "starts" (.ins "Years" [("epoch", a), ("base", b), ("cycle", c), ("starts", d), ("rows", e)]) = some d := rfl
theorem fl_rows (a b c d e : D) : D.fld "Years" "rows" (.ins "Years" [("epoch", a), ("base", b), ("cycle", c), ("starts", d), ("rows", e)]) = some e := rfl
def E1 : M D := cOp D.addE (cOp D.ixI (cFld "Years" "starts" (cVar 0)) (cUn D.neg (cC (.int 1)))) (cCall opSum (aCons (cVar 3) aNil))
def E2 : M D := cOp D.addE (cOp D.ixI (cFld "Years" "rows" (cVar 0)) (cUn D.neg (cC (.int 1)))) (cLenV 3)
theorem mbI_eq : l_Years___init___0 = nSeq (nApp "Years" "starts" E1) (nApp "Years" "rows" E2) := rfl
theorem sum_ms (ms : List Int) : opSum [msD ms] = some (.int ms.sum) := by
  show (D.ints (ms.map D.int)).map (fun ns => D.int ns.sum) = _
  rw [ints_map]
  rfl
theorem size_lt {n : Nat} (h : n < 16777216) : n < sizeLine := by rw [sizeLine_eq]; exact h
end
section
variable {c : Mcal} (h : c.Ok)
include h
theorem step {i : Nat} (hi : i < c.years.length) (ms : List Int) (e : c.cal.cyc.getD i [] = ms) : l_Years___init___0 [.no, .val c.d, .no, .val (msD ms)] (fsI c (stL c i) (rwL c i)) = some ([.no, .val c.d, .no, .val (msD ms)], fsI c (stL c (i + 1)) (rwL c (i + 1))) := by
  have s1 := S_succ h.cal (k := i) (by rw [h.cl]; exact hi)
  rw [e] at s1
  have s2 := rows_succ h hi
  rw [e] at s2
  have e1 : ∀ rw_ : List D, E1 (vw "Years" [.no, .val c.d, .no, .val (msD ms)] (fsI c (stL c i) rw_)) = .ok (.int (c.cal.S (i + 1))) (vw "Years" [.no, .val c.d, .no, .val (msD ms)] (fsI c (stL c i) rw_)) := fun rw_ => by
    have hl := atI_last ((List.range i).map fun k : Nat => D.int (c.cal.S k)) (D.int (c.cal.S i))
    rw [← stL_last] at hl
    simp only [E1, vw, datas_fsI, cOp, cFld, cVar, cUn, cC, cCall, aCons, aNil, List.set, List.getElem?_cons_zero, List.getElem?_cons_succ, R.bind_ok, fl_starts, DL.ret, D.neg, D.ixI, D.ix, hl, sum_ms, D.addE, D.add, s1]
  have e2 : ∀ st : List D, E2 (vw "Years" [.no, .val c.d, .no, .val (msD ms)] (fsI c st (rwL c i))) = .ok (.int (rows c (i + 1))) (vw "Years" [.no, .val c.d, .no, .val (msD ms)] (fsI c st (rwL c i))) := fun st => by
    have hl := atI_last ((List.range i).map fun k : Nat => D.int (rows c k)) (D.int (rows c i))
    rw [← rwL_last] at hl
    have ln : opLen [msD ms] = some (.int (ms.length : Int)) := by simp [runV, runIO2, runIO, sRet, sSeq, sAsg, sSet, sPar, sIf, sNext, sDrop, thaw, frz, cOp, cVar, cMove, cC, cUn, cCall, cCallL, cTup, cLst, aNil, aCons, cIxV, slotD, gNm, gTp, gMore, gNone, gSb, cLenV, cChain, cAnd, cOr, cNot, asB, tAnd, tOr, tNot, cIf, DL.ret, finF, ioOf, RF.to, RF.io, Sl.mut, Sl.put, Sl.data, Sl.dat, D.bool, D.addE, D.add, D.sub, D.mul, D.div, D.mod, D.pow, D.lt, D.ltE, D.le, D.gt, D.ge, D.neg, opLen, opInt, opAbs, opTuple, opList, opStr, opRepr, opAny, opAll, opSum, cFn, cFnIO, cMeth, cNew, cFld, msD]
    simp only [E2, vw, datas_fsI, cOp, cFld, cVar, cUn, cC, cLenV, slotD, aCons, aNil, List.set, List.getElem?_cons_zero, List.getElem?_cons_succ, R.bind_ok, fl_rows, DL.ret, D.neg, D.ixI, D.ix, hl, ln, D.addE, D.add, s2]
  have y2 := h.y2
  have z1 : (stL c i).length < sizeLine := by rw [stL_length]; exact size_lt (by omega)
  have z2 : (rwL c i).length < sizeLine := by rw [rwL_length]; exact size_lt (by omega)
  have p : ∀ n : Int, plainD (.int n) = true := fun n => rfl
  simp only [mbI_eq, nSeq, nApp, fsI_starts, e1, p, decide_eq_true z1, Bool.and_self, if_true, Option.bind_some, put_starts, fsI_rows, e2, decide_eq_true z2, put_rows, stL_succ, rwL_succ]
theorem loop : ∀ (n i : Nat) (x : Sl), i + n = c.years.length → ∃ y, goN 3 l_Years___init___0 ((c.cal.cyc.drop i).map msD) [.no, .val c.d, .no, x] (fsI c (stL c i) (rwL c i)) = some ([.no, .val c.d, .no, y], fsI c (stL c c.years.length) (rwL c c.years.length))
  | 0, i, x, e => by
    have e' : i = c.years.length := by omega
    subst e'
    rw [List.drop_of_length_le (by rw [h.cl]; omega)]
    exact ⟨x, rfl⟩
  | n + 1, i, x, e => by
    have l : i < c.cal.cyc.length := by rw [h.cl]; omega
    obtain ⟨y, hy⟩ := loop n (i + 1) (.val (msD c.cal.cyc[i])) (by omega)
    refine ⟨y, ?_⟩
    rw [List.drop_eq_getElem_cons l, List.map_cons]
    unfold goN
    have s := step h (i := i) (by omega) c.cal.cyc[i] (getD_lt _ _ l)
    simp only [List.set, s, Option.bind_some, hy]
theorem plain_ms (ms : List Int) : plainD (msD ms) = true := by
  show plainD.go (ms.map D.int) = true
  induction ms with
  | nil => rfl
  | cons x ms ih => simp [runV, runIO2, runIO, sRet, sSeq, sAsg, sSet, sPar, sIf, sNext, sDrop, thaw, frz, cOp, cVar, cMove, cC, cUn, cCall, cCallL, cTup, cLst, aNil, aCons, cIxV, slotD, gNm, gTp, gMore, gNone, gSb, cLenV, cChain, cAnd, cOr, cNot, asB, tAnd, tOr, tNot, cIf, DL.ret, finF, ioOf, RF.to, RF.io, Sl.mut, Sl.put, Sl.data, Sl.dat, D.bool, D.addE, D.add, D.sub, D.mul, D.div, D.mod, D.pow, D.lt, D.ltE, D.le, D.gt, D.ge, D.neg, opLen, opInt, opAbs, opTuple, opList, opStr, opRepr, opAny, opAll, opSum, cFn, cFnIO, cMeth, cNew, cFld, plainD.go, plainD, ih]
omit h in
theorem plain_cy : ∀ l : List (List Int), plainD.go (l.map msD) = true
  | [] => rfl
  | ms :: l => by
    have q : ∀ ms : List Int, plainD (msD ms) = true := fun ms => by
      show plainD.go (ms.map D.int) = true
      induction ms with
      | nil => rfl
      | cons x ms ih => simp [runV, runIO2, runIO, sRet, sSeq, sAsg, sSet, sPar, sIf, sNext, sDrop, thaw, frz, cOp, cVar, cMove, cC, cUn, cCall, cCallL, cTup, cLst, aNil, aCons, cIxV, slotD, gNm, gTp, gMore, gNone, gSb, cLenV, cChain, cAnd, cOr, cNot, asB, tAnd, tOr, tNot, cIf, DL.ret, finF, ioOf, RF.to, RF.io, Sl.mut, Sl.put, Sl.data, Sl.dat, D.bool, D.addE, D.add, D.sub, D.mul, D.div, D.mod, D.pow, D.lt, D.ltE, D.le, D.gt, D.ge, D.neg, opLen, opInt, opAbs, opTuple, opList, opStr, opRepr, opAny, opAll, opSum, cFn, cFnIO, cMeth, cNew, cFld, plainD.go, plainD, ih]
    simp only [List.map_cons, plainD.go, q, plain_cy l, Bool.and_self]
end
def r0 (c : Mcal) : Rho := [.no, .val c.d, .no, .no]
def f1 (c : Mcal) : Fs := [("epoch", .val (.int c.epoch))]
def f2 (c : Mcal) : Fs := [("epoch", .val (.int c.epoch)), ("base", .val (.int c.base))]
def f3 (c : Mcal) : Fs := [("epoch", .val (.int c.epoch)), ("base", .val (.int c.base)), ("cycle", .val (.lst (cyL c)))]
def f4 (c : Mcal) : Fs := [("epoch", .val (.int c.epoch)), ("base", .val (.int c.base)), ("cycle", .val (.lst (cyL c))), ("starts", .own [.int 0])]
section
variable (c : Mcal)
theorem s_epoch : nSet "Years" "epoch" false (thaw (cIxV 1 (cC (.int 0)))) (r0 c) [] = some (r0 c, f1 c) := rfl
theorem s_base : nSet "Years" "base" false (thaw (cIxV 1 (cC (.int 1)))) (r0 c) (f1 c) = some (r0 c, f2 c) := rfl
theorem s_starts : nSet "Years" "starts" false (cLst (aCons (cC (.int 0)) aNil)) (r0 c) (f3 c) = some (r0 c, f4 c) := by
  simp [runV, runIO2, runIO, sRet, sSeq, sAsg, sSet, sPar, sIf, sNext, sDrop, thaw, frz, cOp, cVar, cMove, cC, cUn, cCall, cCallL, cTup, cLst, aNil, aCons, cIxV, slotD, gNm, gTp, gMore, gNone, gSb, cLenV, cChain, cAnd, cOr, cNot, asB, tAnd, tOr, tNot, cIf, DL.ret, finF, ioOf, RF.to, RF.io, Sl.mut, Sl.put, Sl.data, Sl.dat, D.bool, D.addE, D.add, D.sub, D.mul, D.div, D.mod, D.pow, D.lt, D.ltE, D.le, D.gt, D.ge, D.neg, opLen, opInt, opAbs, opTuple, opList, opStr, opRepr, opAny, opAll, opSum, cFn, cFnIO, cMeth, cNew, cFld, nSet, plainD.go, plainD, f3]
  rfl
theorem s_rows : nSet "Years" "rows" false (cLst (aCons (cC (.int 0)) aNil)) (r0 c) (f4 c) = some (r0 c, fsI c (stL c 0) (rwL c 0)) := by
  have e1 : stL c 0 = [.int 0] := by simp [runV, runIO2, runIO, sRet, sSeq, sAsg, sSet, sPar, sIf, sNext, sDrop, thaw, frz, cOp, cVar, cMove, cC, cUn, cCall, cCallL, cTup, cLst, aNil, aCons, cIxV, slotD, gNm, gTp, gMore, gNone, gSb, cLenV, cChain, cAnd, cOr, cNot, asB, tAnd, tOr, tNot, cIf, DL.ret, finF, ioOf, RF.to, RF.io, Sl.mut, Sl.put, Sl.data, Sl.dat, D.bool, D.addE, D.add, D.sub, D.mul, D.div, D.mod, D.pow, D.lt, D.ltE, D.le, D.gt, D.ge, D.neg, opLen, opInt, opAbs, opTuple, opList, opStr, opRepr, opAny, opAll, opSum, cFn, cFnIO, cMeth, cNew, cFld, stL, Cal.S]
  have e2 : rwL c 0 = [.int 0] := by simp [runV, runIO2, runIO, sRet, sSeq, sAsg, sSet, sPar, sIf, sNext, sDrop, thaw, frz, cOp, cVar, cMove, cC, cUn, cCall, cCallL, cTup, cLst, aNil, aCons, cIxV, slotD, gNm, gTp, gMore, gNone, gSb, cLenV, cChain, cAnd, cOr, cNot, asB, tAnd, tOr, tNot, cIf, DL.ret, finF, ioOf, RF.to, RF.io, Sl.mut, Sl.put, Sl.data, Sl.dat, D.bool, D.addE, D.add, D.sub, D.mul, D.div, D.mod, D.pow, D.lt, D.ltE, D.le, D.gt, D.ge, D.neg, opLen, opInt, opAbs, opTuple, opList, opStr, opRepr, opAny, opAll, opSum, cFn, cFnIO, cMeth, cNew, cFld, rwL, rows]
  rw [e1, e2]
  simp [runV, runIO2, runIO, sRet, sSeq, sAsg, sSet, sPar, sIf, sNext, sDrop, thaw, frz, cOp, cVar, cMove, cC, cUn, cCall, cCallL, cTup, cLst, aNil, aCons, cIxV, slotD, gNm, gTp, gMore, gNone, gSb, cLenV, cChain, cAnd, cOr, cNot, asB, tAnd, tOr, tNot, cIf, DL.ret, finF, ioOf, RF.to, RF.io, Sl.mut, Sl.put, Sl.data, Sl.dat, D.bool, D.addE, D.add, D.sub, D.mul, D.div, D.mod, D.pow, D.lt, D.ltE, D.le, D.gt, D.ge, D.neg, opLen, opInt, opAbs, opTuple, opList, opStr, opRepr, opAny, opAll, opSum, cFn, cFnIO, cMeth, cNew, cFld, nSet, plainD.go, plainD, f4]
  rfl
end
section
variable {c : Mcal} (h : c.Ok)
include h
theorem s_cycle : nSet "Years" "cycle" true (cLc [2] (cItems (cIxV 1 (cC (.int 3)))) (gNm 2) tTrue e_Years___init___1) (r0 c) (f2 c) = some (r0 c, f3 c) := by
  have hl : (f2 c).length < 999 := by show (2 : Nat) < 999; decide
  have hc : cLc [2] (cItems (cIxV 1 (cC (.int 3)))) (gNm 2) tTrue e_Years___init___1 (vw "Years" (r0 c) (f2 c)) = .ok (.own (cyL c)) (vw "Years" (r0 c) (f2 c)) := by
    have ev : vw "Years" (r0 c) (f2 c) = [.val (.ins "Years" [("epoch", .int c.epoch), ("base", .int c.base)]), .val c.d, .no, .no] := rfl
    rw [ev]
    have q := lc_ok (i := 2) (mi := cItems (cIxV 1 (cC (.int 3)))) (me := e_Years___init___1) (ρ := [.val (.ins "Years" [("epoch", .int c.epoch), ("base", .int c.base)]), .val c.d, .no, .no]) (ρ1 := [.val (.ins "Years" [("epoch", .int c.epoch), ("base", .int c.base)]), .val c.d, .no, .no]) (ds := c.years.map nat)
      (fun d => (D.ixI (.tup (c.kinds.map msD)) d).getD .non) rfl rfl (fun d hd => by
        obtain ⟨k, hk, rfl⟩ := List.mem_map.mp hd
        have q := ix_tup (c.kinds.map msD) (k := (k : Int)) rfl (by rw [List.length_map]; exact h.yk k hk)
        have a : e_Years___init___1 [.val (.ins "Years" [("epoch", .int c.epoch), ("base", .int c.base)]), .val c.d, .val (nat k), .no] = DL.ret (D.ixI (.tup (c.kinds.map msD)) (.int (k : Int))) [.val (.ins "Years" [("epoch", .int c.epoch), ("base", .int c.base)]), .val c.d, .val (nat k), .no] := rfl
        show e_Years___init___1 [.val (.ins "Years" [("epoch", .int c.epoch), ("base", .int c.base)]), .val c.d, .val (nat k), .no] = _
        rw [a]
        unfold nat
        rw [q]
        rfl) (by have := h.y2; rw [List.length_map]; exact size_ge (by omega))
    rw [q]
    have e : (c.years.map nat).map (fun d => (D.ixI (.tup (c.kinds.map msD)) d).getD .non) = cyL c := by
      unfold cyL Mcal.cal
      rw [List.map_map, List.map_map]
      refine List.map_congr_left fun k hk => ?_
      have l := h.yk k hk
      have q := ix_tup (c.kinds.map msD) (k := (k : Int)) rfl (by rw [List.length_map]; exact l)
      show (D.ixI (.tup (c.kinds.map msD)) (.int (k : Int))).getD .non = msD (c.kinds.getD k [])
      rw [q, getD_lt _ _ l, List.getElem_map]
      rfl
    rw [e]
  unfold nSet
  rw [if_pos hl, hc]
  have p : plainD.go (cyL c) = true := plain_cy _
  simp only [p, if_true]
  rfl
theorem ev_years : m_Years___init__ [c.d] = some (YF c) := by
  obtain ⟨y, hy⟩ := loop h c.years.length 0 .no (by omega)
  have hl : (fsI c (stL c 0) (rwL c 0)).lookup ("cycle" : Str) = some (Sl.val (.lst (cyL c))) := rfl
  have hf : nFor "cycle" 3 l_Years___init___0 (r0 c) (fsI c (stL c 0) (rwL c 0)) = some ([.no, .val c.d, .no, y], fsI c (stL c c.years.length) (rwL c c.years.length)) := by
    unfold nFor
    rw [hl]
    exact hy
  have e : b_Years___init__ (r0 c) [] = some ([.no, .val c.d, .no, y], fsI c (stL c c.years.length) (rwL c c.years.length)) := by
    unfold b_Years___init__ nSeq
    rw [s_epoch, Option.bind_some, s_base, Option.bind_some, s_cycle h, Option.bind_some, s_starts, Option.bind_some, s_rows, Option.bind_some]
    exact hf
  have h' : m_Years___init__ [c.d] = (b_Years___init__ (r0 c) []).map fun r => datas r.2 := rfl
  rw [h', e]
  rfl
end
end Wk29

end
section
namespace Wk29
open PySem DL CAL
/-! ### last_place -/
def tbl (f : Nat → Int) (n : Nat) : List D := (List.range (n + 1)).map fun k : Nat => D.int (f k)
def lpR (f : Nat → Int) (N : Nat) (r : Int) (low high : Nat) (x : Sl) : Rho := [.val (.lst (tbl f N)), .val (.int r), .val (.int (low : Int)), .val (.int (high : Int)), x]
theorem tbl_at (f : Nat → Int) (N : Nat) {k : Int} {n : Nat} (e : k = n) (hn : n ≤ N) : D.ixI (.lst (tbl f N)) (.int k) = some (.int (f n)) := by
  rw [ix_lst _ e (by simp [runV, runIO2, runIO, sRet, sSeq, sAsg, sSet, sPar, sIf, sNext, sDrop, thaw, frz, cOp, cVar, cMove, cC, cUn, cCall, cCallL, cTup, cLst, aNil, aCons, cIxV, slotD, gNm, gTp, gMore, gNone, gSb, cLenV, cChain, cAnd, cOr, cNot, asB, tAnd, tOr, tNot, cIf, DL.ret, finF, ioOf, RF.to, RF.io, Sl.mut, Sl.put, Sl.data, Sl.dat, D.bool, D.addE, D.add, D.sub, D.mul, D.div, D.mod, D.pow, D.lt, D.ltE, D.le, D.gt, D.ge, D.neg, opLen, opInt, opAbs, opTuple, opList, opStr, opRepr, opAny, opAll, opSum, cFn, cFnIO, cMeth, cNew, cFld, tbl]; omega)]
  simp [runV, runIO2, runIO, sRet, sSeq, sAsg, sSet, sPar, sIf, sNext, sDrop, thaw, frz, cOp, cVar, cMove, cC, cUn, cCall, cCallL, cTup, cLst, aNil, aCons, cIxV, slotD, gNm, gTp, gMore, gNone, gSb, cLenV, cChain, cAnd, cOr, cNot, asB, tAnd, tOr, tNot, cIf, DL.ret, finF, ioOf, RF.to, RF.io, Sl.mut, Sl.put, Sl.data, Sl.dat, D.bool, D.addE, D.add, D.sub, D.mul, D.div, D.mod, D.pow, D.lt, D.ltE, D.le, D.gt, D.ge, D.neg, opLen, opInt, opAbs, opTuple, opList, opStr, opRepr, opAny, opAll, opSum, cFn, cFnIO, cMeth, cNew, cFld, tbl]
theorem lp_test (f : Nat → Int) (N : Nat) (r : Int) (low high : Nat) (x : Sl) : t_last_place_0 (lpR f N r low high x) = .ok (decide (1 < (high : Int) - low)) (lpR f N r low high x) := by
  simp [runV, runIO2, runIO, sRet, sSeq, sAsg, sSet, sPar, sIf, sNext, sDrop, thaw, frz, cOp, cVar, cMove, cC, cUn, cCall, cCallL, cTup, cLst, aNil, aCons, cIxV, slotD, gNm, gTp, gMore, gNone, gSb, cLenV, cChain, cAnd, cOr, cNot, asB, tAnd, tOr, tNot, cIf, DL.ret, finF, ioOf, RF.to, RF.io, Sl.mut, Sl.put, Sl.data, Sl.dat, D.bool, D.addE, D.add, D.sub, D.mul, D.div, D.mod, D.pow, D.lt, D.ltE, D.le, D.gt, D.ge, D.neg, opLen, opInt, opAbs, opTuple, opList, opStr, opRepr, opAny, opAll, opSum, cFn, cFnIO, cMeth, cNew, cFld, t_last_place_0, lpR]
theorem lp_body (f : Nat → Int) (N : Nat) (r : Int) (low high : Nat) (x : Sl) (h1 : low < high) (h2 : high ≤ N) : l_last_place_1 (lpR f N r low high x) = .ok .next (if f ((low + high) / 2) ≤ r then lpR f N r ((low + high) / 2) high (.val (.int (((low + high) / 2 : Nat) : Int))) else lpR f N r low ((low + high) / 2) (.val (.int (((low + high) / 2 : Nat) : Int)))) := by
  have e : ((low : Int) + (high : Int)) / 2 = (((low + high) / 2 : Nat) : Int) := by omega
  have h := tbl_at f N (k := (((low + high) / 2 : Nat) : Int)) rfl (by omega)
  by_cases hc : f ((low + high) / 2) ≤ r <;> simp only [l_last_place_1, lpR, sSeq, sAsg, sIf, cIf, sSet, asB, cOp, cVar, cMove, cC, cIxV, slotD, gNm, D.addE, D.add, D.div, divOk_of (show (0 : Int) < 2 by decide) (by decide), if_true, DL.ret, R.bind_ok, List.getElem?_cons_zero, List.getElem?_cons_succ, List.set, e, h, D.le, D.bool, hc, decide_true, decide_false, if_false, Bool.false_eq_true]
theorem lp_loop (f : Nat → Int) (N : Nat) : ∀ (m : Nat) (r : Int) (low high : Nat) (x : Sl), high - low ≤ m → low < high → high ≤ N → f low ≤ r → r < f high →
    ∃ (n k : Nat) (y : Sl), k < N ∧ f k ≤ r ∧ r < f (k + 1) ∧ goWhile t_last_place_0 l_last_place_1 n (lpR f N r low high x) = .ok .next (lpR f N r k (k + 1) y)
  | 0, r, low, high, x, hm, h1, h2, h3, h4 => by omega
  | m + 1, r, low, high, x, hm, h1, h2, h3, h4 => by
    by_cases hc : 1 < (high : Int) - low
    · have hb := lp_body f N r low high x h1 h2
      by_cases hd : f ((low + high) / 2) ≤ r
      · rw [if_pos hd] at hb
        obtain ⟨n, k, y, k1, k2, k3, k5⟩ := lp_loop f N m r ((low + high) / 2) high (.val (.int (((low + high) / 2 : Nat) : Int))) (by omega) (by omega) h2 hd h4
        refine ⟨n + 1, k, y, k1, k2, k3, ?_⟩
        unfold goWhile
        simp only [lp_test, R.bind_ok, decide_eq_true hc, if_true, hb, k5]
      · rw [if_neg hd] at hb
        obtain ⟨n, k, y, k1, k2, k3, k5⟩ := lp_loop f N m r low ((low + high) / 2) (.val (.int (((low + high) / 2 : Nat) : Int))) (by omega) (by omega) (by omega) h3 (by omega)
        refine ⟨n + 1, k, y, k1, k2, k3, ?_⟩
        unfold goWhile
        simp only [lp_test, R.bind_ok, decide_eq_true hc, if_true, hb, k5]
    · have e : high = low + 1 := by omega
      subst e
      refine ⟨1, low, x, by omega, h3, h4, ?_⟩
      unfold goWhile
      simp only [lp_test, R.bind_ok, decide_eq_false hc, Bool.false_eq_true, if_false]
theorem ev_last_place (f : Nat → Int) (N : Nat) {r : Int} (hN : 0 < N) (h0 : f 0 ≤ r) (h1 : r < f N) : ∃ k : Nat, k < N ∧ f k ≤ r ∧ r < f (k + 1) ∧ m_last_place [.lst (tbl f N), .int r] = .ok (.val (.int (k : Int))) none := by
  obtain ⟨n, k, y, k1, k3, k4, k5⟩ := lp_loop f N N r 0 N .no (by omega) hN (by omega) h0 h1
  refine ⟨k, k1, k3, k4, ?_⟩
  have hw : sWhile t_last_place_0 l_last_place_1 (lpR f N r 0 N .no) = .ok .next (lpR f N r k (k + 1) y) := by
    rw [sWhile_of (n := n) (by rw [k5]; simp [runV, runIO2, runIO, sRet, sSeq, sAsg, sSet, sPar, sIf, sNext, sDrop, thaw, frz, cOp, cVar, cMove, cC, cUn, cCall, cCallL, cTup, cLst, aNil, aCons, cIxV, slotD, gNm, gTp, gMore, gNone, gSb, cLenV, cChain, cAnd, cOr, cNot, asB, tAnd, tOr, tNot, cIf, DL.ret, finF, ioOf, RF.to, RF.io, Sl.mut, Sl.put, Sl.data, Sl.dat, D.bool, D.addE, D.add, D.sub, D.mul, D.div, D.mod, D.pow, D.lt, D.ltE, D.le, D.gt, D.ge, D.neg, opLen, opInt, opAbs, opTuple, opList, opStr, opRepr, opAny, opAll, opSum, cFn, cFnIO, cMeth, cNew, cFld])]
    exact k5
  have hb : b_last_place = sSeq (sPar 2 3 (aCons (cC (.int 0)) (aCons (cOp D.sub (cLenV 0) (cC (.int 1))) aNil))) (sSeq (sWhile t_last_place_0 l_last_place_1) (sRet (cMove 2))) := rfl
  have hp : sPar 2 3 (aCons (cC (.int 0)) (aCons (cOp D.sub (cLenV 0) (cC (.int 1))) aNil)) [.val (.lst (tbl f N)), .val (.int r), .no, .no, .no] = .ok .next (lpR f N r 0 N .no) := by
    simp [runV, runIO2, runIO, sRet, sSeq, sAsg, sSet, sPar, sIf, sNext, sDrop, thaw, frz, cOp, cVar, cMove, cC, cUn, cCall, cCallL, cTup, cLst, aNil, aCons, cIxV, slotD, gNm, gTp, gMore, gNone, gSb, cLenV, cChain, cAnd, cOr, cNot, asB, tAnd, tOr, tNot, cIf, DL.ret, finF, ioOf, RF.to, RF.io, Sl.mut, Sl.put, Sl.data, Sl.dat, D.bool, D.addE, D.add, D.sub, D.mul, D.div, D.mod, D.pow, D.lt, D.ltE, D.le, D.gt, D.ge, D.neg, opLen, opInt, opAbs, opTuple, opList, opStr, opRepr, opAny, opAll, opSum, cFn, cFnIO, cMeth, cNew, cFld, lpR, tbl]
  have hr : runV 5 2 b_last_place [.lst (tbl f N), .int r] = finF (b_last_place [.val (.lst (tbl f N)), .val (.int r), .no, .no, .no]) := rfl
  show runV 5 2 b_last_place _ = _
  rw [hr, hb]
  simp only [sSeq, hp, R.bind_ok, hw]
  rfl
/-! ### the years -/
def dateD (y : Int) (m : Nat) (d : Int) : D := .tup [.int y, .int ((m : Int) + 1), .int d]
section
variable {c : Mcal} (h : c.Ok)
include h
theorem T_rng : 0 < c.cal.T ∧ c.cal.T ≤ 500000 := ⟨T_pos h.cal, h.T_le⟩
theorem len_pos : (0 : Int) < (c.years.length : Int) ∧ (c.years.length : Int) ≤ 500 := by
  have := h.y1
  have := h.y2
  omega
theorem mul_T (q : Int) : mulOk q c.cal.T = true := mulOk_r (by have := T_rng h; omega) (by have := T_rng h; omega)
theorem mul_L (q : Int) : mulOk q (c.years.length : Int) = true := mulOk_r (by have := len_pos h; omega) (by have := len_pos h; omega)
theorem ev_days : m_Years_days_in_cycle [YD c] = .ok (.val (.int c.cal.T)) none := by
  simp [runV, runIO2, runIO, sRet, sSeq, sAsg, sSet, sPar, sIf, sNext, sDrop, thaw, frz, cOp, cVar, cMove, cC, cUn, cCall, cCallL, cTup, cLst, aNil, aCons, cIxV, slotD, gNm, gTp, gMore, gNone, gSb, cLenV, cChain, cAnd, cOr, cNot, asB, tAnd, tOr, tNot, cIf, DL.ret, finF, ioOf, RF.to, RF.io, Sl.mut, Sl.put, Sl.data, Sl.dat, D.bool, D.addE, D.add, D.sub, D.mul, D.div, D.mod, D.pow, D.lt, D.ltE, D.le, D.gt, D.ge, D.neg, opLen, opInt, opAbs, opTuple, opList, opStr, opRepr, opAny, opAll, opSum, cFn, cFnIO, cMeth, cNew, cFld, m_Years_days_in_cycle, b_Years_days_in_cycle, st_all h]
theorem ev_start (y : Int) : m_Years_start [YD c, .int y] = .ok (.val (.int (c.cal.start y))) none := by
  have l := len_pos h
  have h1 := dm_ok (y - c.base) (j := (c.years.length : Int)) l.1 (by omega)
  have a := at_lt h.cal y
  have e := at_int h.cal y
  rw [h.L] at e
  have eb : c.cal.base = c.base := rfl
  rw [eb] at e
  have h4 := st_at h e.symm (by rw [← h.cl]; omega)
  have hs : c.cal.start y = c.epoch + (y - c.base) / (c.years.length : Int) * c.cal.T + c.cal.S (c.cal.at_ y) := by
    unfold Cal.start
    rw [h.L]
    rfl
  simp [runV, runIO2, runIO, sRet, sSeq, sAsg, sSet, sPar, sIf, sNext, sDrop, thaw, frz, cOp, cVar, cMove, cC, cUn, cCall, cCallL, cTup, cLst, aNil, aCons, cIxV, slotD, gNm, gTp, gMore, gNone, gSb, cLenV, cChain, cAnd, cOr, cNot, asB, tAnd, tOr, tNot, cIf, DL.ret, finF, ioOf, RF.to, RF.io, Sl.mut, Sl.put, Sl.data, Sl.dat, D.bool, D.addE, D.add, D.sub, D.mul, D.div, D.mod, D.pow, D.lt, D.ltE, D.le, D.gt, D.ge, D.neg, opLen, opInt, opAbs, opTuple, opList, opStr, opRepr, opAny, opAll, opSum, cFn, cFnIO, cMeth, cNew, cFld, m_Years_start, b_Years_start, h1, h4, hs, ev_days h, cyL_length h, mul_T h]
theorem ev_months (y : Int) : m_Years_months [YD c, .int y] = .ok (.val (msD (c.cal.mon y))) none := by
  have l := len_pos h
  have l0 : 0 < c.years.length := by omega
  simp [runV, runIO2, runIO, sRet, sSeq, sAsg, sSet, sPar, sIf, sNext, sDrop, thaw, frz, cOp, cVar, cMove, cC, cUn, cCall, cCallL, cTup, cLst, aNil, aCons, cIxV, slotD, gNm, gTp, gMore, gNone, gSb, cLenV, cChain, cAnd, cOr, cNot, asB, tAnd, tOr, tNot, cIf, DL.ret, finF, ioOf, RF.to, RF.io, Sl.mut, Sl.put, Sl.data, Sl.dat, D.bool, D.addE, D.add, D.sub, D.mul, D.div, D.mod, D.pow, D.lt, D.ltE, D.le, D.gt, D.ge, D.neg, opLen, opInt, opAbs, opTuple, opList, opStr, opRepr, opAny, opAll, opSum, cFn, cFnIO, cMeth, cNew, cFld, m_Years_months, b_Years_months, cyL_length h, l0, cy_at h y]
theorem ev_year_at (d : Int) : ∃ y : Int, c.cal.start y ≤ d ∧ d < c.cal.start (y + 1) ∧ m_Years_year_at [YD c, .int d] = .ok (.val (.tup [.int y, .int (d - c.cal.start y)])) none := by
  have t := T_rng h
  have l := len_pos h
  have h2 : 0 ≤ (d - c.epoch) % c.cal.T := Int.emod_nonneg _ (by omega)
  have h3 : (d - c.epoch) % c.cal.T < c.cal.T := Int.emod_lt_of_pos _ t.1
  have a2 := Int.mul_ediv_add_emod (d - c.epoch) c.cal.T
  rw [Int.mul_comm] at a2
  have sa : c.cal.S c.years.length = c.cal.T := by rw [← h.cl]; exact S_all
  obtain ⟨k, k1, k2, k3, k5⟩ := ev_last_place c.cal.S c.years.length (r := (d - c.epoch) % c.cal.T) (by omega) (by rw [S_zero]; exact h2) (by rw [sa]; exact h3)
  have kl : k < c.cal.cyc.length := by rw [h.cl]; exact k1
  have c1 := start_of h.cal (q := (d - c.epoch) / c.cal.T) kl
  have c2 := start_of' h.cal (q := (d - c.epoch) / c.cal.T) kl
  rw [h.L] at c1 c2
  have eb : c.cal.base = c.base := rfl
  have ee : c.cal.epoch = c.epoch := rfl
  rw [eb, ee] at c1 c2
  refine ⟨c.base + (d - c.epoch) / c.cal.T * (c.years.length : Int) + k, by omega, by omega, ?_⟩
  have h1 := dm_ok (d - c.epoch) (j := c.cal.T) t.1 (by omega)
  have h4 := st_at h (k := (k : Int)) rfl (by omega)
  have k5' : m_last_place [.lst (stL c c.years.length), .int ((d - c.epoch) % c.cal.T)] = .ok (.val (.int (k : Int))) none := k5
  have fin : (d - c.epoch) % c.cal.T - c.cal.S k = d - c.cal.start (c.base + (d - c.epoch) / c.cal.T * (c.years.length : Int) + k) := by omega
  simp [runV, runIO2, runIO, sRet, sSeq, sAsg, sSet, sPar, sIf, sNext, sDrop, thaw, frz, cOp, cVar, cMove, cC, cUn, cCall, cCallL, cTup, cLst, aNil, aCons, cIxV, slotD, gNm, gTp, gMore, gNone, gSb, cLenV, cChain, cAnd, cOr, cNot, asB, tAnd, tOr, tNot, cIf, DL.ret, finF, ioOf, RF.to, RF.io, Sl.mut, Sl.put, Sl.data, Sl.dat, D.bool, D.addE, D.add, D.sub, D.mul, D.div, D.mod, D.pow, D.lt, D.ltE, D.le, D.gt, D.ge, D.neg, opLen, opInt, opAbs, opTuple, opList, opStr, opRepr, opAny, opAll, opSum, cFn, cFnIO, cMeth, cNew, cFld, m_Years_year_at, b_Years_year_at, h1, h4, ev_days h, cyL_length h, k5', mul_L h, fin]
end
/-! ### date_at -/
theorem dl_step (s0 s1 : Sl) (y r m x : Int) : l_Years_date_at_0 [s0, s1, .val (.int y), .val (.int r), .val (.int m), .val (.int x)] = if r < x then .ok (.ret (.val (.tup [.int y, .int m, .int (r + 1)]))) [s0, s1, .val (.int y), .val (.int r), .val (.int m), .val (.int x)]
    else .ok .next [s0, s1, .val (.int y), .val (.int (r - x)), .val (.int (m + 1)), .val (.int x)] := by
  by_cases q : r < x <;> simp [runV, runIO2, runIO, sRet, sSeq, sAsg, sSet, sPar, sIf, sNext, sDrop, thaw, frz, cOp, cVar, cMove, cC, cUn, cCall, cCallL, cTup, cLst, aNil, aCons, cIxV, slotD, gNm, gTp, gMore, gNone, gSb, cLenV, cChain, cAnd, cOr, cNot, asB, tAnd, tOr, tNot, cIf, DL.ret, finF, ioOf, RF.to, RF.io, Sl.mut, Sl.put, Sl.data, Sl.dat, D.bool, D.addE, D.add, D.sub, D.mul, D.div, D.mod, D.pow, D.lt, D.ltE, D.le, D.gt, D.ge, D.neg, opLen, opInt, opAbs, opTuple, opList, opStr, opRepr, opAny, opAll, opSum, cFn, cFnIO, cMeth, cNew, cFld, l_Years_date_at_0, q, sAug, D.addI]
theorem dl_loop : ∀ (ms : List Int) (s0 s1 s5 : Sl) (y r m : Int), 0 ≤ r → r < ms.sum → ∃ (j : Nat) (ρ : Rho), j < ms.length ∧ (ms.take j).sum ≤ r ∧ r < (ms.take (j + 1)).sum ∧ ρ[0]? = some s0 ∧
    goFor (gNm 5) l_Years_date_at_0 (ms.map D.int) [s0, s1, .val (.int y), .val (.int r), .val (.int m), s5] = .ok (.ret (.val (.tup [.int y, .int (m + j), .int (r - (ms.take j).sum + 1)]))) ρ
  | [], s0, s1, s5, y, r, m, h0, h1 => by simp [runV, runIO2, runIO, sRet, sSeq, sAsg, sSet, sPar, sIf, sNext, sDrop, thaw, frz, cOp, cVar, cMove, cC, cUn, cCall, cCallL, cTup, cLst, aNil, aCons, cIxV, slotD, gNm, gTp, gMore, gNone, gSb, cLenV, cChain, cAnd, cOr, cNot, asB, tAnd, tOr, tNot, cIf, DL.ret, finF, ioOf, RF.to, RF.io, Sl.mut, Sl.put, Sl.data, Sl.dat, D.bool, D.addE, D.add, D.sub, D.mul, D.div, D.mod, D.pow, D.lt, D.ltE, D.le, D.gt, D.ge, D.neg, opLen, opInt, opAbs, opTuple, opList, opStr, opRepr, opAny, opAll, opSum, cFn, cFnIO, cMeth, cNew, cFld] at h1; omega
  | x :: ms, s0, s1, s5, y, r, m, h0, h1 => by
    have g : gNm 5 (.int x) [s0, s1, .val (.int y), .val (.int r), .val (.int m), s5] = some [s0, s1, .val (.int y), .val (.int r), .val (.int m), .val (.int x)] := rfl
    have st := dl_step s0 s1 y r m x
    by_cases q : r < x
    · rw [if_pos q] at st
      refine ⟨0, [s0, s1, .val (.int y), .val (.int r), .val (.int m), .val (.int x)], by simp [runV, runIO2, runIO, sRet, sSeq, sAsg, sSet, sPar, sIf, sNext, sDrop, thaw, frz, cOp, cVar, cMove, cC, cUn, cCall, cCallL, cTup, cLst, aNil, aCons, cIxV, slotD, gNm, gTp, gMore, gNone, gSb, cLenV, cChain, cAnd, cOr, cNot, asB, tAnd, tOr, tNot, cIf, DL.ret, finF, ioOf, RF.to, RF.io, Sl.mut, Sl.put, Sl.data, Sl.dat, D.bool, D.addE, D.add, D.sub, D.mul, D.div, D.mod, D.pow, D.lt, D.ltE, D.le, D.gt, D.ge, D.neg, opLen, opInt, opAbs, opTuple, opList, opStr, opRepr, opAny, opAll, opSum, cFn, cFnIO, cMeth, cNew, cFld], by simpa [runV, runIO2, runIO, sRet, sSeq, sAsg, sSet, sPar, sIf, sNext, sDrop, thaw, frz, cOp, cVar, cMove, cC, cUn, cCall, cCallL, cTup, cLst, aNil, aCons, cIxV, slotD, gNm, gTp, gMore, gNone, gSb, cLenV, cChain, cAnd, cOr, cNot, asB, tAnd, tOr, tNot, cIf, DL.ret, finF, ioOf, RF.to, RF.io, Sl.mut, Sl.put, Sl.data, Sl.dat, D.bool, D.addE, D.add, D.sub, D.mul, D.div, D.mod, D.pow, D.lt, D.ltE, D.le, D.gt, D.ge, D.neg, opLen, opInt, opAbs, opTuple, opList, opStr, opRepr, opAny, opAll, opSum, cFn, cFnIO, cMeth, cNew, cFld] using h0, by simpa [runV, runIO2, runIO, sRet, sSeq, sAsg, sSet, sPar, sIf, sNext, sDrop, thaw, frz, cOp, cVar, cMove, cC, cUn, cCall, cCallL, cTup, cLst, aNil, aCons, cIxV, slotD, gNm, gTp, gMore, gNone, gSb, cLenV, cChain, cAnd, cOr, cNot, asB, tAnd, tOr, tNot, cIf, DL.ret, finF, ioOf, RF.to, RF.io, Sl.mut, Sl.put, Sl.data, Sl.dat, D.bool, D.addE, D.add, D.sub, D.mul, D.div, D.mod, D.pow, D.lt, D.ltE, D.le, D.gt, D.ge, D.neg, opLen, opInt, opAbs, opTuple, opList, opStr, opRepr, opAny, opAll, opSum, cFn, cFnIO, cMeth, cNew, cFld] using q, rfl, ?_⟩
      simp only [List.map_cons, goFor, g, st, R.bind_ok]
      simp [runV, runIO2, runIO, sRet, sSeq, sAsg, sSet, sPar, sIf, sNext, sDrop, thaw, frz, cOp, cVar, cMove, cC, cUn, cCall, cCallL, cTup, cLst, aNil, aCons, cIxV, slotD, gNm, gTp, gMore, gNone, gSb, cLenV, cChain, cAnd, cOr, cNot, asB, tAnd, tOr, tNot, cIf, DL.ret, finF, ioOf, RF.to, RF.io, Sl.mut, Sl.put, Sl.data, Sl.dat, D.bool, D.addE, D.add, D.sub, D.mul, D.div, D.mod, D.pow, D.lt, D.ltE, D.le, D.gt, D.ge, D.neg, opLen, opInt, opAbs, opTuple, opList, opStr, opRepr, opAny, opAll, opSum, cFn, cFnIO, cMeth, cNew, cFld]
    · rw [if_neg q] at st
      rw [List.sum_cons] at h1
      obtain ⟨j, ρ, a, b, e, e0, f⟩ := dl_loop ms s0 s1 (.val (.int x)) y (r - x) (m + 1) (by omega) (by omega)
      refine ⟨j + 1, ρ, by simpa [runV, runIO2, runIO, sRet, sSeq, sAsg, sSet, sPar, sIf, sNext, sDrop, thaw, frz, cOp, cVar, cMove, cC, cUn, cCall, cCallL, cTup, cLst, aNil, aCons, cIxV, slotD, gNm, gTp, gMore, gNone, gSb, cLenV, cChain, cAnd, cOr, cNot, asB, tAnd, tOr, tNot, cIf, DL.ret, finF, ioOf, RF.to, RF.io, Sl.mut, Sl.put, Sl.data, Sl.dat, D.bool, D.addE, D.add, D.sub, D.mul, D.div, D.mod, D.pow, D.lt, D.ltE, D.le, D.gt, D.ge, D.neg, opLen, opInt, opAbs, opTuple, opList, opStr, opRepr, opAny, opAll, opSum, cFn, cFnIO, cMeth, cNew, cFld] using a, by rw [List.take_succ_cons, List.sum_cons]; omega, by rw [List.take_succ_cons, List.sum_cons]; omega, e0, ?_⟩
      simp only [List.map_cons, goFor, g, st, R.bind_ok]
      rw [f, List.take_succ_cons, List.sum_cons]
      have e1 : m + 1 + (j : Int) = m + ((j + 1 : Nat) : Int) := by omega
      have e2 : r - x - (ms.take j).sum = r - (x + (ms.take j).sum) := by omega
      rw [e1, e2]
section
variable {c : Mcal} (h : c.Ok)
include h
theorem date_at_ex (d : Int) : ∃ (y : Int) (m : Nat) (dd : Int), IsD c.cal d y m dd ∧ m_Years_date_at [YD c, .int d] = .ok (.val (dateD y m dd)) none := by
  obtain ⟨y, h1, h2, h3⟩ := ev_year_at h d
  have s := start_succ h.cal y
  obtain ⟨j, ρ, a, b, e, e0, f⟩ := dl_loop (c.cal.mon y) (.val (YD c)) (.val (.int d)) .no y (d - c.cal.start y) 1 (by omega) (by omega)
  refine ⟨y, j, _, isD_of h.cal a b e, ?_⟩
  have e1 : (1 : Int) + (j : Int) = (j : Int) + 1 := by omega
  rw [e1] at f
  have it : D.items (msD (c.cal.mon y)) = some ((c.cal.mon y).map D.int) := rfl
  simp [runV, runIO2, runIO, sRet, sSeq, sAsg, sSet, sPar, sIf, sNext, sDrop, thaw, frz, cOp, cVar, cMove, cC, cUn, cCall, cCallL, cTup, cLst, aNil, aCons, cIxV, slotD, gNm, gTp, gMore, gNone, gSb, cLenV, cChain, cAnd, cOr, cNot, asB, tAnd, tOr, tNot, cIf, DL.ret, finF, ioOf, RF.to, RF.io, Sl.mut, Sl.put, Sl.data, Sl.dat, D.bool, D.addE, D.add, D.sub, D.mul, D.div, D.mod, D.pow, D.lt, D.ltE, D.le, D.gt, D.ge, D.neg, opLen, opInt, opAbs, opTuple, opList, opStr, opRepr, opAny, opAll, opSum, cFn, cFnIO, cMeth, cNew, cFld, m_Years_date_at, b_Years_date_at, h3, ev_months h, sFor, cItems, it, f, e0, dateD]
theorem ev_date_at {d y dd : Int} {m : Nat} (i : IsD c.cal d y m dd) : m_Years_date_at [YD c, .int d] = .ok (.val (dateD y m dd)) none := by
  obtain ⟨y', m', d', i', e⟩ := date_at_ex h d
  obtain ⟨rfl, rfl, rfl⟩ := isD_unique h.cal i i'
  exact e
theorem ev_day_at {d y dd : Int} {m : Nat} (i : IsD c.cal d y m dd) : m_Years_day_at [YD c, dateD y m dd] = .ok (.val (.int d)) none := by
  have sl : D.slice none (some (m : Int)) (msD (c.cal.mon y)) = some (.val (.tup ((c.cal.mon y).take m |>.map D.int))) := by
    have hm := i.m1
    show some (Sl.val (.tup (cutL ((c.cal.mon y).map D.int) none (some (m : Int))))) = _
    unfold cutL
    rw [HT.sIx_nat, HT.sIx_none]
    simp [runV, runIO2, runIO, sRet, sSeq, sAsg, sSet, sPar, sIf, sNext, sDrop, thaw, frz, cOp, cVar, cMove, cC, cUn, cCall, cCallL, cTup, cLst, aNil, aCons, cIxV, slotD, gNm, gTp, gMore, gNone, gSb, cLenV, cChain, cAnd, cOr, cNot, asB, tAnd, tOr, tNot, cIf, DL.ret, finF, ioOf, RF.to, RF.io, Sl.mut, Sl.put, Sl.data, Sl.dat, D.bool, D.addE, D.add, D.sub, D.mul, D.div, D.mod, D.pow, D.lt, D.ltE, D.le, D.gt, D.ge, D.neg, opLen, opInt, opAbs, opTuple, opList, opStr, opRepr, opAny, opAll, opSum, cFn, cFnIO, cMeth, cNew, cFld]
  have e := i.e
  have fin : c.cal.start y + ((c.cal.mon y).take m).sum + dd - 1 = d := by omega
  simp [runV, runIO2, runIO, sRet, sSeq, sAsg, sSet, sPar, sIf, sNext, sDrop, thaw, frz, cOp, cVar, cMove, cC, cUn, cCall, cCallL, cTup, cLst, aNil, aCons, cIxV, slotD, gNm, gTp, gMore, gNone, gSb, cLenV, cChain, cAnd, cOr, cNot, asB, tAnd, tOr, tNot, cIf, DL.ret, finF, ioOf, RF.to, RF.io, Sl.mut, Sl.put, Sl.data, Sl.dat, D.bool, D.addE, D.add, D.sub, D.mul, D.div, D.mod, D.pow, D.lt, D.ltE, D.le, D.gt, D.ge, D.neg, opLen, opInt, opAbs, opTuple, opList, opStr, opRepr, opAny, opAll, opSum, cFn, cFnIO, cMeth, cNew, cFld, m_Years_day_at, b_Years_day_at, dateD, ev_start h, ev_months h, cSl, oNone, oSome, fin, sl]
end
end Wk29

end
section
namespace Wk29
open PySem DL CAL
theorem ev_weekday (d : Int) : m_weekday [.int d] = .ok (.val (.int ((d + 5) % 7))) none := by
  simp [runV, runIO2, runIO, sRet, sSeq, sAsg, sSet, sPar, sIf, sNext, sDrop, thaw, frz, cOp, cVar, cMove, cC, cUn, cCall, cCallL, cTup, cLst, aNil, aCons, cIxV, slotD, gNm, gTp, gMore, gNone, gSb, cLenV, cChain, cAnd, cOr, cNot, asB, tAnd, tOr, tNot, cIf, DL.ret, finF, ioOf, RF.to, RF.io, Sl.mut, Sl.put, Sl.data, Sl.dat, D.bool, D.addE, D.add, D.sub, D.mul, D.div, D.mod, D.pow, D.lt, D.ltE, D.le, D.gt, D.ge, D.neg, opLen, opInt, opAbs, opTuple, opList, opStr, opRepr, opAny, opAll, opSum, cFn, cFnIO, cMeth, cNew, cFld, m_weekday, b_weekday, c_WEEK]
section
variable {c : Mcal} (h : c.Ok)
include h
theorem ms_at {y : Int} {m : Nat} (hm : m < (c.cal.mon y).length) : D.ixI (msD (c.cal.mon y)) (.int (m : Int)) = some (.int ((c.cal.mon y).getD m 0)) := by
  unfold msD
  rw [ix_tup _ rfl (by simpa [runV, runIO2, runIO, sRet, sSeq, sAsg, sSet, sPar, sIf, sNext, sDrop, thaw, frz, cOp, cVar, cMove, cC, cUn, cCall, cCallL, cTup, cLst, aNil, aCons, cIxV, slotD, gNm, gTp, gMore, gNone, gSb, cLenV, cChain, cAnd, cOr, cNot, asB, tAnd, tOr, tNot, cIf, DL.ret, finF, ioOf, RF.to, RF.io, Sl.mut, Sl.put, Sl.data, Sl.dat, D.bool, D.addE, D.add, D.sub, D.mul, D.div, D.mod, D.pow, D.lt, D.ltE, D.le, D.gt, D.ge, D.neg, opLen, opInt, opAbs, opTuple, opList, opStr, opRepr, opAny, opAll, opSum, cFn, cFnIO, cMeth, cNew, cFld] using hm), getD_lt _ _ hm]
  simp [runV, runIO2, runIO, sRet, sSeq, sAsg, sSet, sPar, sIf, sNext, sDrop, thaw, frz, cOp, cVar, cMove, cC, cUn, cCall, cCallL, cTup, cLst, aNil, aCons, cIxV, slotD, gNm, gTp, gMore, gNone, gSb, cLenV, cChain, cAnd, cOr, cNot, asB, tAnd, tOr, tNot, cIf, DL.ret, finF, ioOf, RF.to, RF.io, Sl.mut, Sl.put, Sl.data, Sl.dat, D.bool, D.addE, D.add, D.sub, D.mul, D.div, D.mod, D.pow, D.lt, D.ltE, D.le, D.gt, D.ge, D.neg, opLen, opInt, opAbs, opTuple, opList, opStr, opRepr, opAny, opAll, opSum, cFn, cFnIO, cMeth, cNew, cFld]
theorem ev_is_a_date {day y d : Int} {m : Nat} (i : IsD c.cal day y m d) : m_is_a_date [c.d, dateD y m d] = .ok (.val (.bl true)) none := by
  have l0 : 0 < c.years.length := h.y1
  obtain ⟨k, hk, e1, e2⟩ := ys_at h y
  have lc : cLc [2] (cItems (cVar 1)) (gNm 2) tTrue e_is_a_date_0 [.val c.d, .val (dateD y m d), .no, .no] = .ok (.own ([.bl true, .bl true, .bl true])) [.val c.d, .val (dateD y m d), .no, .no] :=
    lc_ok (ρ1 := [.val c.d, .val (dateD y m d), .no, .no]) (ds := [.int y, .int ((m : Int) + 1), .int d]) (fun _ => .bl true) rfl rfl (fun d' hd => by
      simp only [List.mem_cons, List.not_mem_nil, or_false] at hd
      rcases hd with rfl | rfl | rfl <;> simp [runV, runIO2, runIO, sRet, sSeq, sAsg, sSet, sPar, sIf, sNext, sDrop, thaw, frz, cOp, cVar, cMove, cC, cUn, cCall, cCallL, cTup, cLst, aNil, aCons, cIxV, slotD, gNm, gTp, gMore, gNone, gSb, cLenV, cChain, cAnd, cOr, cNot, asB, tAnd, tOr, tNot, cIf, DL.ret, finF, ioOf, RF.to, RF.io, Sl.mut, Sl.put, Sl.data, Sl.dat, D.bool, D.addE, D.add, D.sub, D.mul, D.div, D.mod, D.pow, D.lt, D.ltE, D.le, D.gt, D.ge, D.neg, opLen, opInt, opAbs, opTuple, opList, opStr, opRepr, opAny, opAll, opSum, cFn, cFnIO, cMeth, cNew, cFld, e_is_a_date_0, ev_is_integer]) size_3
  have m1 := i.m1
  have d0 := i.d0
  have d1 := i.d1
  have a := ms_at h m1
  generalize (c.cal.mon y).getD m 0 = lm at a d1
  have m2 : (m : Int) + 1 ≤ ((c.cal.mon y).length : Int) := by omega
  have ln : opLen [msD (c.cal.mon y)] = some (.int ((c.cal.mon y).length : Int)) := by simp [runV, runIO2, runIO, sRet, sSeq, sAsg, sSet, sPar, sIf, sNext, sDrop, thaw, frz, cOp, cVar, cMove, cC, cUn, cCall, cCallL, cTup, cLst, aNil, aCons, cIxV, slotD, gNm, gTp, gMore, gNone, gSb, cLenV, cChain, cAnd, cOr, cNot, asB, tAnd, tOr, tNot, cIf, DL.ret, finF, ioOf, RF.to, RF.io, Sl.mut, Sl.put, Sl.data, Sl.dat, D.bool, D.addE, D.add, D.sub, D.mul, D.div, D.mod, D.pow, D.lt, D.ltE, D.le, D.gt, D.ge, D.neg, opLen, opInt, opAbs, opTuple, opList, opStr, opRepr, opAny, opAll, opSum, cFn, cFnIO, cMeth, cNew, cFld, msD]
  have m3 : (1 : Int) ≤ (m : Int) + 1 := by omega
  have lt : ∀ ds : List D, opLen [.tup ds] = some (.int (ds.length : Int)) := fun _ => rfl
  unfold Mcal.d dateD at lc ⊢
  simp [runV, runIO2, runIO, sRet, sSeq, sAsg, sSet, sPar, sIf, sNext, sDrop, thaw, frz, cOp, cVar, cMove, cC, cUn, cCall, cCallL, cTup, cLst, aNil, aCons, cIxV, slotD, gNm, gTp, gMore, gNone, gSb, cLenV, cChain, cAnd, cOr, cNot, asB, tAnd, tOr, tNot, cIf, DL.ret, finF, ioOf, RF.to, RF.io, Sl.mut, Sl.put, Sl.data, Sl.dat, D.bool, D.addE, D.add, D.sub, D.mul, D.div, D.mod, D.pow, D.lt, D.ltE, D.le, D.gt, D.ge, D.neg, opInt, opAbs, opTuple, opList, opStr, opRepr, opAny, opAll, opSum, cFn, cFnIO, cMeth, cNew, cFld, lt, m_is_a_date, b_is_a_date, ev_is_tuple, lc, D.bls, e1, e2, l0, ln, m2, m3, d0, a, d1]
theorem ev_need_date {day y d : Int} {m : Nat} (i : IsD c.cal day y m d) : m_need_date [c.d, dateD y m d] = .ok (.val .non) none := by
  simp [runV, runIO2, runIO, sRet, sSeq, sAsg, sSet, sPar, sIf, sNext, sDrop, thaw, frz, cOp, cVar, cMove, cC, cUn, cCall, cCallL, cTup, cLst, aNil, aCons, cIxV, slotD, gNm, gTp, gMore, gNone, gSb, cLenV, cChain, cAnd, cOr, cNot, asB, tAnd, tOr, tNot, cIf, DL.ret, finF, ioOf, RF.to, RF.io, Sl.mut, Sl.put, Sl.data, Sl.dat, D.bool, D.addE, D.add, D.sub, D.mul, D.div, D.mod, D.pow, D.lt, D.ltE, D.le, D.gt, D.ge, D.neg, opLen, opInt, opAbs, opTuple, opList, opStr, opRepr, opAny, opAll, opSum, cFn, cFnIO, cMeth, cNew, cFld, m_need_date, b_need_date, ev_is_a_date h i]
variable {x : D} (hn : m_need_calendar [x] = .ok (.val c.d) none)
include hn
theorem ev_date_of {day y d : Int} {m : Nat} (i : IsD c.cal day y m d) : m_date_of [x, .int day] = .ok (.val (dateD y m d)) none := by
  simp [runV, runIO2, runIO, sRet, sSeq, sAsg, sSet, sPar, sIf, sNext, sDrop, thaw, frz, cOp, cVar, cMove, cC, cUn, cCall, cCallL, cTup, cLst, aNil, aCons, cIxV, slotD, gNm, gTp, gMore, gNone, gSb, cLenV, cChain, cAnd, cOr, cNot, asB, tAnd, tOr, tNot, cIf, DL.ret, finF, ioOf, RF.to, RF.io, Sl.mut, Sl.put, Sl.data, Sl.dat, D.bool, D.addE, D.add, D.sub, D.mul, D.div, D.mod, D.pow, D.lt, D.ltE, D.le, D.gt, D.ge, D.neg, opLen, opInt, opAbs, opTuple, opList, opStr, opRepr, opAny, opAll, opSum, cFn, cFnIO, cMeth, cNew, cFld, m_date_of, b_date_of, hn, ev_years h, ev_date_at h i]
theorem ev_day_of {day y d : Int} {m : Nat} (i : IsD c.cal day y m d) : m_day_of [x, dateD y m d] = .ok (.val (.int day)) none := by
  simp [runV, runIO2, runIO, sRet, sSeq, sAsg, sSet, sPar, sIf, sNext, sDrop, thaw, frz, cOp, cVar, cMove, cC, cUn, cCall, cCallL, cTup, cLst, aNil, aCons, cIxV, slotD, gNm, gTp, gMore, gNone, gSb, cLenV, cChain, cAnd, cOr, cNot, asB, tAnd, tOr, tNot, cIf, DL.ret, finF, ioOf, RF.to, RF.io, Sl.mut, Sl.put, Sl.data, Sl.dat, D.bool, D.addE, D.add, D.sub, D.mul, D.div, D.mod, D.pow, D.lt, D.ltE, D.le, D.gt, D.ge, D.neg, opLen, opInt, opAbs, opTuple, opList, opStr, opRepr, opAny, opAll, opSum, cFn, cFnIO, cMeth, cNew, cFld, m_day_of, b_day_of, hn, ev_years h, ev_need_date h i, ev_day_at h i]
theorem ev_cycle_days : m_cycle_days [x] = .ok (.val (.int c.cal.T)) none := by
  simp [runV, runIO2, runIO, sRet, sSeq, sAsg, sSet, sPar, sIf, sNext, sDrop, thaw, frz, cOp, cVar, cMove, cC, cUn, cCall, cCallL, cTup, cLst, aNil, aCons, cIxV, slotD, gNm, gTp, gMore, gNone, gSb, cLenV, cChain, cAnd, cOr, cNot, asB, tAnd, tOr, tNot, cIf, DL.ret, finF, ioOf, RF.to, RF.io, Sl.mut, Sl.put, Sl.data, Sl.dat, D.bool, D.addE, D.add, D.sub, D.mul, D.div, D.mod, D.pow, D.lt, D.ltE, D.le, D.gt, D.ge, D.neg, opLen, opInt, opAbs, opTuple, opList, opStr, opRepr, opAny, opAll, opSum, cFn, cFnIO, cMeth, cNew, cFld, m_cycle_days, b_cycle_days, hn, ev_years h, ev_days h]
theorem ev_year_start (y : Int) : m_year_start [x, .int y] = .ok (.val (.int (c.cal.start y))) none := by
  simp [runV, runIO2, runIO, sRet, sSeq, sAsg, sSet, sPar, sIf, sNext, sDrop, thaw, frz, cOp, cVar, cMove, cC, cUn, cCall, cCallL, cTup, cLst, aNil, aCons, cIxV, slotD, gNm, gTp, gMore, gNone, gSb, cLenV, cChain, cAnd, cOr, cNot, asB, tAnd, tOr, tNot, cIf, DL.ret, finF, ioOf, RF.to, RF.io, Sl.mut, Sl.put, Sl.data, Sl.dat, D.bool, D.addE, D.add, D.sub, D.mul, D.div, D.mod, D.pow, D.lt, D.ltE, D.le, D.gt, D.ge, D.neg, opLen, opInt, opAbs, opTuple, opList, opStr, opRepr, opAny, opAll, opSum, cFn, cFnIO, cMeth, cNew, cFld, m_year_start, b_year_start, hn, ev_years h, ev_start h]
omit hn
variable (hm : m_u_law_made [x] = .ok (.val c.d) none)
include hm
theorem ev_year_lengths : m_u_law_year_lengths [x] = .ok (.own (c.cal.yl.map D.int)) none := by
  have e : (c.years.map nat).map (fun d => (opSum [(D.ixI (.tup (c.kinds.map msD)) d).getD .non]).getD .non) = c.cal.yl.map D.int := by
    unfold Cal.yl Mcal.cal
    simp only [List.map_map]
    refine List.map_congr_left fun k hk => ?_
    have l := h.yk k hk
    have q := ix_tup (c.kinds.map msD) (k := (k : Int)) rfl (by rw [List.length_map]; exact l)
    show (opSum [(D.ixI (.tup (c.kinds.map msD)) (.int (k : Int))).getD .non]).getD .non = D.int (c.kinds.getD k []).sum
    rw [q, getD_lt _ _ l, List.getElem_map, Option.getD_some, sum_ms]
    rfl
  have lc : ∀ s0 s1 s2 : Sl, cLc [5] (cItems (cVar 4)) (gNm 5) tTrue e_u_law_year_lengths_0 [s0, s1, s2, .val (.tup (c.kinds.map msD)), .val (.tup (c.years.map nat)), .no] = .ok (.own (c.cal.yl.map D.int)) [s0, s1, s2, .val (.tup (c.kinds.map msD)), .val (.tup (c.years.map nat)), .no] := fun s0 s1 s2 => by
    rw [← e]
    refine lc_ok (ρ1 := [s0, s1, s2, .val (.tup (c.kinds.map msD)), .val (.tup (c.years.map nat)), .no]) _ (by simp [runV, runIO2, runIO, sRet, sSeq, sAsg, sSet, sPar, sIf, sNext, sDrop, thaw, frz, cOp, cVar, cMove, cC, cUn, cCall, cCallL, cTup, cLst, aNil, aCons, cIxV, slotD, gNm, gTp, gMore, gNone, gSb, cLenV, cChain, cAnd, cOr, cNot, asB, tAnd, tOr, tNot, cIf, DL.ret, finF, ioOf, RF.to, RF.io, Sl.mut, Sl.put, Sl.data, Sl.dat, D.bool, D.addE, D.add, D.sub, D.mul, D.div, D.mod, D.pow, D.lt, D.ltE, D.le, D.gt, D.ge, D.neg, opLen, opInt, opAbs, opTuple, opList, opStr, opRepr, opAny, opAll, opSum, cFn, cFnIO, cMeth, cNew, cFld, cItems, D.items]) rfl (fun d hd => ?_) (by have := h.y2; rw [List.length_map]; exact size_ge (by omega))
    obtain ⟨k, hk, rfl⟩ := List.mem_map.mp hd
    have q := ix_tup (c.kinds.map msD) (k := (k : Int)) rfl (by rw [List.length_map]; exact h.yk k hk)
    rw [List.getElem_map] at q
    simp [runV, runIO2, runIO, sRet, sSeq, sAsg, sSet, sPar, sIf, sNext, sDrop, thaw, frz, cOp, cVar, cMove, cC, cUn, cCall, cCallL, cTup, cLst, aNil, aCons, cIxV, slotD, gNm, gTp, gMore, gNone, gSb, cLenV, cChain, cAnd, cOr, cNot, asB, tAnd, tOr, tNot, cIf, DL.ret, finF, ioOf, RF.to, RF.io, Sl.mut, Sl.put, Sl.data, Sl.dat, D.bool, D.addE, D.add, D.sub, D.mul, D.div, D.mod, D.pow, D.lt, D.ltE, D.le, D.gt, D.ge, D.neg, opLen, opInt, opAbs, opTuple, opList, opStr, opRepr, opAny, opAll, cFn, cFnIO, cMeth, cNew, cFld, e_u_law_year_lengths_0, nat, q, sum_ms]
  simp [runV, runIO2, runIO, sRet, sSeq, sAsg, sSet, sPar, sIf, sNext, sDrop, thaw, frz, cOp, cVar, cMove, cC, cUn, cCall, cCallL, cTup, cLst, aNil, aCons, cIxV, slotD, gNm, gTp, gMore, gNone, gSb, cLenV, cChain, cAnd, cOr, cNot, asB, tAnd, tOr, tNot, cIf, DL.ret, finF, ioOf, RF.to, RF.io, Sl.mut, Sl.put, Sl.data, Sl.dat, D.bool, D.addE, D.add, D.sub, D.mul, D.div, D.mod, D.pow, D.lt, D.ltE, D.le, D.gt, D.ge, D.neg, opLen, opInt, opAbs, opTuple, opList, opStr, opRepr, opAny, opAll, opSum, cFn, cFnIO, cMeth, cNew, cFld, m_u_law_year_lengths, b_u_law_year_lengths, hm, Mcal.d, lc]
theorem ev_kind_of (y : Int) : m_u_law_kind_of [x, .int y] = .ok (.val (msD (c.cal.mon y))) none := by
  have l0 : 0 < c.years.length := h.y1
  obtain ⟨k, hk, e1, e2⟩ := ys_at h y
  simp [runV, runIO2, runIO, sRet, sSeq, sAsg, sSet, sPar, sIf, sNext, sDrop, thaw, frz, cOp, cVar, cMove, cC, cUn, cCall, cCallL, cTup, cLst, aNil, aCons, cIxV, slotD, gNm, gTp, gMore, gNone, gSb, cLenV, cChain, cAnd, cOr, cNot, asB, tAnd, tOr, tNot, cIf, DL.ret, finF, ioOf, RF.to, RF.io, Sl.mut, Sl.put, Sl.data, Sl.dat, D.bool, D.addE, D.add, D.sub, D.mul, D.div, D.mod, D.pow, D.lt, D.ltE, D.le, D.gt, D.ge, D.neg, opLen, opInt, opAbs, opTuple, opList, opStr, opRepr, opAny, opAll, opSum, cFn, cFnIO, cMeth, cNew, cFld, m_u_law_kind_of, b_u_law_kind_of, hm, Mcal.d, e1, e2, l0]
theorem ev_year_begin (y : Int) : m_u_law_year_begin [x, .int y] = .ok (.val (.int (c.cal.start y))) none := by
  have l0 := len_pos h
  have dv : divOk (c.years.length : Int) = true := divOk_of l0.1 (by omega)
  have yl : c.cal.yl.length = c.years.length := by simp [runV, runIO2, runIO, sRet, sSeq, sAsg, sSet, sPar, sIf, sNext, sDrop, thaw, frz, cOp, cVar, cMove, cC, cUn, cCall, cCallL, cTup, cLst, aNil, aCons, cIxV, slotD, gNm, gTp, gMore, gNone, gSb, cLenV, cChain, cAnd, cOr, cNot, asB, tAnd, tOr, tNot, cIf, DL.ret, finF, ioOf, RF.to, RF.io, Sl.mut, Sl.put, Sl.data, Sl.dat, D.bool, D.addE, D.add, D.sub, D.mul, D.div, D.mod, D.pow, D.lt, D.ltE, D.le, D.gt, D.ge, D.neg, opLen, opInt, opAbs, opTuple, opList, opStr, opRepr, opAny, opAll, opSum, cFn, cFnIO, cMeth, cNew, cFld, Cal.yl, Mcal.cal]
  have e := at_int h.cal y
  have a := at_lt h.cal y
  rw [h.L] at e
  rw [h.cl] at a
  have eb : c.cal.base = c.base := rfl
  rw [eb] at e
  have em := Int.mul_ediv_add_emod (y - c.base) (c.years.length : Int)
  rw [Int.mul_comm] at em
  have ix : y - c.base - (y - c.base) / (c.years.length : Int) * (c.years.length : Int) = (c.cal.at_ y : Int) := by omega
  have sl : D.slice none (some (c.cal.at_ y : Int)) (.lst (c.cal.yl.map D.int)) = some (.own ((c.cal.yl.map D.int).take (c.cal.at_ y))) := by
    show some (Sl.own (cutL (c.cal.yl.map D.int) none (some (c.cal.at_ y : Int)))) = _
    unfold cutL
    rw [HT.sIx_nat, HT.sIx_none, List.length_map, Nat.min_eq_left (by omega)]
    simp [runV, runIO2, runIO, sRet, sSeq, sAsg, sSet, sPar, sIf, sNext, sDrop, thaw, frz, cOp, cVar, cMove, cC, cUn, cCall, cCallL, cTup, cLst, aNil, aCons, cIxV, slotD, gNm, gTp, gMore, gNone, gSb, cLenV, cChain, cAnd, cOr, cNot, asB, tAnd, tOr, tNot, cIf, DL.ret, finF, ioOf, RF.to, RF.io, Sl.mut, Sl.put, Sl.data, Sl.dat, D.bool, D.addE, D.add, D.sub, D.mul, D.div, D.mod, D.pow, D.lt, D.ltE, D.le, D.gt, D.ge, D.neg, opLen, opInt, opAbs, opTuple, opList, opStr, opRepr, opAny, opAll, opSum, cFn, cFnIO, cMeth, cNew, cFld]
  have hs : c.cal.start y = c.epoch + (y - c.base) / (c.years.length : Int) * c.cal.T + (c.cal.yl.take (c.cal.at_ y)).sum := by
    unfold Cal.start Cal.S
    rw [h.L]
    rfl
  have mt := mul_T h
  unfold Cal.T at mt hs
  simp [runV, runIO2, runIO, sRet, sSeq, sAsg, sSet, sPar, sIf, sNext, sDrop, thaw, frz, cOp, cVar, cMove, cC, cUn, cCall, cCallL, cTup, cLst, aNil, aCons, cIxV, slotD, gNm, gTp, gMore, gNone, gSb, cLenV, cChain, cAnd, cOr, cNot, asB, tAnd, tOr, tNot, cIf, DL.ret, finF, ioOf, RF.to, RF.io, Sl.mut, Sl.put, Sl.data, Sl.dat, D.bool, D.addE, D.add, D.sub, D.mul, D.div, D.mod, D.pow, D.lt, D.ltE, D.le, D.gt, D.ge, D.neg, opLen, opInt, opAbs, opTuple, opList, opStr, opRepr, opAny, opAll, opSum, cFn, cFnIO, cMeth, cNew, cFld, m_u_law_year_begin, b_u_law_year_begin, hm, Mcal.d, ev_year_lengths h hm, dv, mul_L h, ix, cSl, oNone, oSome, sl, hs, mt]
end
end Wk29

end
section
namespace Wk29
open PySem DL CAL
theorem ld_step1 (s0 s1 s2 s3 s4 s5 s6 s7 s11 s12 : Sl) (r y x : Int) : l_u_law_date_of_0 [s0, s1, s2, s3, s4, s5, s6, s7, .val (.int r), .val (.int y), .val (.int x), s11, s12] = if r < x then .ok .brk [s0, s1, s2, s3, s4, s5, s6, s7, .val (.int r), .val (.int y), .val (.int x), s11, s12]
    else .ok .next [s0, s1, s2, s3, s4, s5, s6, s7, .val (.int (r - x)), .val (.int (y + 1)), .val (.int x), s11, s12] := by
  by_cases q : r < x <;> simp [runV, runIO2, runIO, sRet, sSeq, sAsg, sSet, sPar, sIf, sNext, sDrop, thaw, frz, cOp, cVar, cMove, cC, cUn, cCall, cCallL, cTup, cLst, aNil, aCons, cIxV, slotD, gNm, gTp, gMore, gNone, gSb, cLenV, cChain, cAnd, cOr, cNot, asB, tAnd, tOr, tNot, cIf, DL.ret, finF, ioOf, RF.to, RF.io, Sl.mut, Sl.put, Sl.data, Sl.dat, D.bool, D.addE, D.add, D.sub, D.mul, D.div, D.mod, D.pow, D.lt, D.ltE, D.le, D.gt, D.ge, D.neg, opLen, opInt, opAbs, opTuple, opList, opStr, opRepr, opAny, opAll, opSum, cFn, cFnIO, cMeth, cNew, cFld, l_u_law_date_of_0, q, sBrk]
theorem ld_loop1 (s0 s1 s2 s3 s4 s5 s6 s7 s11 s12 : Sl) : ∀ (ls : List Int) (s10 : Sl) (r y : Int), 0 ≤ r → r < ls.sum → ∃ (k : Nat) (t10 : Sl), k < ls.length ∧ (ls.take k).sum ≤ r ∧ r < (ls.take (k + 1)).sum ∧
    goFor (gNm 10) l_u_law_date_of_0 (ls.map D.int) [s0, s1, s2, s3, s4, s5, s6, s7, .val (.int r), .val (.int y), s10, s11, s12] = .ok .next [s0, s1, s2, s3, s4, s5, s6, s7, .val (.int (r - (ls.take k).sum)), .val (.int (y + k)), t10, s11, s12]
  | [], s10, r, y, h0, h1 => by simp [runV, runIO2, runIO, sRet, sSeq, sAsg, sSet, sPar, sIf, sNext, sDrop, thaw, frz, cOp, cVar, cMove, cC, cUn, cCall, cCallL, cTup, cLst, aNil, aCons, cIxV, slotD, gNm, gTp, gMore, gNone, gSb, cLenV, cChain, cAnd, cOr, cNot, asB, tAnd, tOr, tNot, cIf, DL.ret, finF, ioOf, RF.to, RF.io, Sl.mut, Sl.put, Sl.data, Sl.dat, D.bool, D.addE, D.add, D.sub, D.mul, D.div, D.mod, D.pow, D.lt, D.ltE, D.le, D.gt, D.ge, D.neg, opLen, opInt, opAbs, opTuple, opList, opStr, opRepr, opAny, opAll, opSum, cFn, cFnIO, cMeth, cNew, cFld] at h1; omega
  | x :: ls, s10, r, y, h0, h1 => by
    have g : gNm 10 (.int x) [s0, s1, s2, s3, s4, s5, s6, s7, .val (.int r), .val (.int y), s10, s11, s12] = some [s0, s1, s2, s3, s4, s5, s6, s7, .val (.int r), .val (.int y), .val (.int x), s11, s12] := rfl
    have st := ld_step1 s0 s1 s2 s3 s4 s5 s6 s7 s11 s12 r y x
    by_cases q : r < x
    · rw [if_pos q] at st
      refine ⟨0, .val (.int x), by simp [runV, runIO2, runIO, sRet, sSeq, sAsg, sSet, sPar, sIf, sNext, sDrop, thaw, frz, cOp, cVar, cMove, cC, cUn, cCall, cCallL, cTup, cLst, aNil, aCons, cIxV, slotD, gNm, gTp, gMore, gNone, gSb, cLenV, cChain, cAnd, cOr, cNot, asB, tAnd, tOr, tNot, cIf, DL.ret, finF, ioOf, RF.to, RF.io, Sl.mut, Sl.put, Sl.data, Sl.dat, D.bool, D.addE, D.add, D.sub, D.mul, D.div, D.mod, D.pow, D.lt, D.ltE, D.le, D.gt, D.ge, D.neg, opLen, opInt, opAbs, opTuple, opList, opStr, opRepr, opAny, opAll, opSum, cFn, cFnIO, cMeth, cNew, cFld], by simpa [runV, runIO2, runIO, sRet, sSeq, sAsg, sSet, sPar, sIf, sNext, sDrop, thaw, frz, cOp, cVar, cMove, cC, cUn, cCall, cCallL, cTup, cLst, aNil, aCons, cIxV, slotD, gNm, gTp, gMore, gNone, gSb, cLenV, cChain, cAnd, cOr, cNot, asB, tAnd, tOr, tNot, cIf, DL.ret, finF, ioOf, RF.to, RF.io, Sl.mut, Sl.put, Sl.data, Sl.dat, D.bool, D.addE, D.add, D.sub, D.mul, D.div, D.mod, D.pow, D.lt, D.ltE, D.le, D.gt, D.ge, D.neg, opLen, opInt, opAbs, opTuple, opList, opStr, opRepr, opAny, opAll, opSum, cFn, cFnIO, cMeth, cNew, cFld] using h0, by simpa [runV, runIO2, runIO, sRet, sSeq, sAsg, sSet, sPar, sIf, sNext, sDrop, thaw, frz, cOp, cVar, cMove, cC, cUn, cCall, cCallL, cTup, cLst, aNil, aCons, cIxV, slotD, gNm, gTp, gMore, gNone, gSb, cLenV, cChain, cAnd, cOr, cNot, asB, tAnd, tOr, tNot, cIf, DL.ret, finF, ioOf, RF.to, RF.io, Sl.mut, Sl.put, Sl.data, Sl.dat, D.bool, D.addE, D.add, D.sub, D.mul, D.div, D.mod, D.pow, D.lt, D.ltE, D.le, D.gt, D.ge, D.neg, opLen, opInt, opAbs, opTuple, opList, opStr, opRepr, opAny, opAll, opSum, cFn, cFnIO, cMeth, cNew, cFld] using q, ?_⟩
      simp only [List.map_cons, goFor, g, st, R.bind_ok]
      simp [runV, runIO2, runIO, sRet, sSeq, sAsg, sSet, sPar, sIf, sNext, sDrop, thaw, frz, cOp, cVar, cMove, cC, cUn, cCall, cCallL, cTup, cLst, aNil, aCons, cIxV, slotD, gNm, gTp, gMore, gNone, gSb, cLenV, cChain, cAnd, cOr, cNot, asB, tAnd, tOr, tNot, cIf, DL.ret, finF, ioOf, RF.to, RF.io, Sl.mut, Sl.put, Sl.data, Sl.dat, D.bool, D.addE, D.add, D.sub, D.mul, D.div, D.mod, D.pow, D.lt, D.ltE, D.le, D.gt, D.ge, D.neg, opLen, opInt, opAbs, opTuple, opList, opStr, opRepr, opAny, opAll, opSum, cFn, cFnIO, cMeth, cNew, cFld]
    · rw [if_neg q] at st
      rw [List.sum_cons] at h1
      obtain ⟨k, t, a, b, e, f⟩ := ld_loop1 s0 s1 s2 s3 s4 s5 s6 s7 s11 s12 ls (.val (.int x)) (r - x) (y + 1) (by omega) (by omega)
      refine ⟨k + 1, t, by simpa [runV, runIO2, runIO, sRet, sSeq, sAsg, sSet, sPar, sIf, sNext, sDrop, thaw, frz, cOp, cVar, cMove, cC, cUn, cCall, cCallL, cTup, cLst, aNil, aCons, cIxV, slotD, gNm, gTp, gMore, gNone, gSb, cLenV, cChain, cAnd, cOr, cNot, asB, tAnd, tOr, tNot, cIf, DL.ret, finF, ioOf, RF.to, RF.io, Sl.mut, Sl.put, Sl.data, Sl.dat, D.bool, D.addE, D.add, D.sub, D.mul, D.div, D.mod, D.pow, D.lt, D.ltE, D.le, D.gt, D.ge, D.neg, opLen, opInt, opAbs, opTuple, opList, opStr, opRepr, opAny, opAll, opSum, cFn, cFnIO, cMeth, cNew, cFld] using a, by rw [List.take_succ_cons, List.sum_cons]; omega, by rw [List.take_succ_cons, List.sum_cons]; omega, ?_⟩
      simp only [List.map_cons, goFor, g, st, R.bind_ok]
      rw [f, List.take_succ_cons, List.sum_cons]
      have e1 : y + 1 + (k : Int) = y + ((k + 1 : Nat) : Int) := by omega
      have e2 : r - x - (ls.take k).sum = r - (x + (ls.take k).sum) := by omega
      rw [e1, e2]
theorem ld_step2 (ms : List Int) (i : Nat) (hi : i < ms.length) (s0 s1 s2 s3 s4 s5 s6 s7 s10 : Sl) (r y : Int) : l_u_law_date_of_1 [s0, s1, s2, s3, s4, s5, s6, s7, .val (.int r), .val (.int y), s10, .val (msD ms), .val (.int ((i : Int) + 1))] = if r < ms[i] then .ok (.ret (.val (.tup [.int y, .int ((i : Int) + 1), .int (r + 1)]))) [s0, s1, s2, s3, s4, s5, s6, s7, .val (.int r), .val (.int y), s10, .val (msD ms), .val (.int ((i : Int) + 1))]
    else .ok .next [s0, s1, s2, s3, s4, s5, s6, s7, .val (.int (r - ms[i])), .val (.int y), s10, .val (msD ms), .val (.int ((i : Int) + 1))] := by
  have a : D.ixI (msD ms) (.int (i : Int)) = some (.int ms[i]) := by
    unfold msD
    rw [ix_tup _ rfl (by simpa [runV, runIO2, runIO, sRet, sSeq, sAsg, sSet, sPar, sIf, sNext, sDrop, thaw, frz, cOp, cVar, cMove, cC, cUn, cCall, cCallL, cTup, cLst, aNil, aCons, cIxV, slotD, gNm, gTp, gMore, gNone, gSb, cLenV, cChain, cAnd, cOr, cNot, asB, tAnd, tOr, tNot, cIf, DL.ret, finF, ioOf, RF.to, RF.io, Sl.mut, Sl.put, Sl.data, Sl.dat, D.bool, D.addE, D.add, D.sub, D.mul, D.div, D.mod, D.pow, D.lt, D.ltE, D.le, D.gt, D.ge, D.neg, opLen, opInt, opAbs, opTuple, opList, opStr, opRepr, opAny, opAll, opSum, cFn, cFnIO, cMeth, cNew, cFld] using hi)]
    simp [runV, runIO2, runIO, sRet, sSeq, sAsg, sSet, sPar, sIf, sNext, sDrop, thaw, frz, cOp, cVar, cMove, cC, cUn, cCall, cCallL, cTup, cLst, aNil, aCons, cIxV, slotD, gNm, gTp, gMore, gNone, gSb, cLenV, cChain, cAnd, cOr, cNot, asB, tAnd, tOr, tNot, cIf, DL.ret, finF, ioOf, RF.to, RF.io, Sl.mut, Sl.put, Sl.data, Sl.dat, D.bool, D.addE, D.add, D.sub, D.mul, D.div, D.mod, D.pow, D.lt, D.ltE, D.le, D.gt, D.ge, D.neg, opLen, opInt, opAbs, opTuple, opList, opStr, opRepr, opAny, opAll, opSum, cFn, cFnIO, cMeth, cNew, cFld]
  generalize ms[i] = q at a ⊢
  by_cases q : r < q <;> simp [runV, runIO2, runIO, sRet, sSeq, sAsg, sSet, sPar, sIf, sNext, sDrop, thaw, frz, cOp, cVar, cMove, cC, cUn, cCall, cCallL, cTup, cLst, aNil, aCons, cIxV, slotD, gNm, gTp, gMore, gNone, gSb, cLenV, cChain, cAnd, cOr, cNot, asB, tAnd, tOr, tNot, cIf, DL.ret, finF, ioOf, RF.to, RF.io, Sl.mut, Sl.put, Sl.data, Sl.dat, D.bool, D.addE, D.add, D.sub, D.mul, D.div, D.mod, D.pow, D.lt, D.ltE, D.le, D.gt, D.ge, D.neg, opLen, opInt, opAbs, opTuple, opList, opStr, opRepr, opAny, opAll, opSum, cFn, cFnIO, cMeth, cNew, cFld, l_u_law_date_of_1, q, a]
theorem ld_loop2 (ms : List Int) (s0 s1 s2 s3 s4 s5 s6 s7 s10 : Sl) : ∀ (n i : Nat) (s12 : Sl) (r y : Int), i + n = ms.length → 0 ≤ r → r < (ms.drop i).sum → ∃ (j : Nat) (ρ : Rho), i + j < ms.length ∧ ((ms.drop i).take j).sum ≤ r ∧ r < ((ms.drop i).take (j + 1)).sum ∧ ρ[0]? = some s0 ∧
    goFor (gNm 12) l_u_law_date_of_1 ((List.range' i n).map fun k : Nat => D.int ((k : Int) + 1)) [s0, s1, s2, s3, s4, s5, s6, s7, .val (.int r), .val (.int y), s10, .val (msD ms), s12] = .ok (.ret (.val (.tup [.int y, .int (((i + j : Nat) : Int) + 1), .int (r - ((ms.drop i).take j).sum + 1)]))) ρ
  | 0, i, s12, r, y, e, h0, h1 => by
    rw [List.drop_of_length_le (by omega)] at h1
    simp [runV, runIO2, runIO, sRet, sSeq, sAsg, sSet, sPar, sIf, sNext, sDrop, thaw, frz, cOp, cVar, cMove, cC, cUn, cCall, cCallL, cTup, cLst, aNil, aCons, cIxV, slotD, gNm, gTp, gMore, gNone, gSb, cLenV, cChain, cAnd, cOr, cNot, asB, tAnd, tOr, tNot, cIf, DL.ret, finF, ioOf, RF.to, RF.io, Sl.mut, Sl.put, Sl.data, Sl.dat, D.bool, D.addE, D.add, D.sub, D.mul, D.div, D.mod, D.pow, D.lt, D.ltE, D.le, D.gt, D.ge, D.neg, opLen, opInt, opAbs, opTuple, opList, opStr, opRepr, opAny, opAll, opSum, cFn, cFnIO, cMeth, cNew, cFld] at h1
    omega
  | n + 1, i, s12, r, y, e, h0, h1 => by
    have hi : i < ms.length := by omega
    rw [List.drop_eq_getElem_cons hi] at h1 ⊢
    have g : gNm 12 (.int ((i : Int) + 1)) [s0, s1, s2, s3, s4, s5, s6, s7, .val (.int r), .val (.int y), s10, .val (msD ms), s12] = some [s0, s1, s2, s3, s4, s5, s6, s7, .val (.int r), .val (.int y), s10, .val (msD ms), .val (.int ((i : Int) + 1))] := rfl
    have st := ld_step2 ms i hi s0 s1 s2 s3 s4 s5 s6 s7 s10 r y
    rw [List.range'_succ]
    by_cases q : r < ms[i]
    · rw [if_pos q] at st
      refine ⟨0, [s0, s1, s2, s3, s4, s5, s6, s7, .val (.int r), .val (.int y), s10, .val (msD ms), .val (.int ((i : Int) + 1))], by omega, by simpa [runV, runIO2, runIO, sRet, sSeq, sAsg, sSet, sPar, sIf, sNext, sDrop, thaw, frz, cOp, cVar, cMove, cC, cUn, cCall, cCallL, cTup, cLst, aNil, aCons, cIxV, slotD, gNm, gTp, gMore, gNone, gSb, cLenV, cChain, cAnd, cOr, cNot, asB, tAnd, tOr, tNot, cIf, DL.ret, finF, ioOf, RF.to, RF.io, Sl.mut, Sl.put, Sl.data, Sl.dat, D.bool, D.addE, D.add, D.sub, D.mul, D.div, D.mod, D.pow, D.lt, D.ltE, D.le, D.gt, D.ge, D.neg, opLen, opInt, opAbs, opTuple, opList, opStr, opRepr, opAny, opAll, opSum, cFn, cFnIO, cMeth, cNew, cFld] using h0, by simp only [List.take_succ_cons, List.take_zero, List.sum_cons, List.sum_nil]; omega, rfl, ?_⟩
      simp only [List.map_cons, goFor, g, st, R.bind_ok]
      simp [runV, runIO2, runIO, sRet, sSeq, sAsg, sSet, sPar, sIf, sNext, sDrop, thaw, frz, cOp, cVar, cMove, cC, cUn, cCall, cCallL, cTup, cLst, aNil, aCons, cIxV, slotD, gNm, gTp, gMore, gNone, gSb, cLenV, cChain, cAnd, cOr, cNot, asB, tAnd, tOr, tNot, cIf, DL.ret, finF, ioOf, RF.to, RF.io, Sl.mut, Sl.put, Sl.data, Sl.dat, D.bool, D.addE, D.add, D.sub, D.mul, D.div, D.mod, D.pow, D.lt, D.ltE, D.le, D.gt, D.ge, D.neg, opLen, opInt, opAbs, opTuple, opList, opStr, opRepr, opAny, opAll, opSum, cFn, cFnIO, cMeth, cNew, cFld]
    · rw [if_neg q] at st
      rw [List.sum_cons] at h1
      obtain ⟨j, ρ, a, b, c, e0, f⟩ := ld_loop2 ms s0 s1 s2 s3 s4 s5 s6 s7 s10 n (i + 1) (.val (.int ((i : Int) + 1))) (r - ms[i]) y (by omega) (by omega) (by omega)
      refine ⟨j + 1, ρ, by omega, by rw [List.take_succ_cons, List.sum_cons]; omega, by rw [List.take_succ_cons, List.sum_cons]; omega, e0, ?_⟩
      simp only [List.map_cons, goFor, g, st, R.bind_ok]
      rw [f, List.take_succ_cons, List.sum_cons]
      have e1 : i + 1 + j = i + (j + 1) := by omega
      have e2 : r - ms[i] - ((ms.drop (i + 1)).take j).sum = r - (ms[i] + ((ms.drop (i + 1)).take j).sum) := by omega
      rw [e1, e2]
theorem span1_eq (n : Nat) : span 1 n = (List.range' 0 n).map fun k : Nat => D.int ((k : Int) + 1) := by
  unfold span
  rw [List.range_eq_range']
  refine List.map_congr_left fun k _ => ?_
  rw [Int.add_comm]
section
variable {c : Mcal} (h : c.Ok) {x : D} (hm : m_u_law_made [x] = .ok (.val c.d) none)
include h hm
theorem law_date_ex (d : Int) : ∃ (y : Int) (m : Nat) (dd : Int), IsD c.cal d y m dd ∧ m_u_law_date_of [x, .int d] = .ok (.val (dateD y m dd)) none := by
  have t := T_rng h
  have l := len_pos h
  have h2 : 0 ≤ (d - c.epoch) % c.cal.T := Int.emod_nonneg _ (by omega)
  have h3 : (d - c.epoch) % c.cal.T < c.cal.T := Int.emod_lt_of_pos _ t.1
  have a2 := Int.mul_ediv_add_emod (d - c.epoch) c.cal.T
  rw [Int.mul_comm] at a2
  obtain ⟨k, t10, k1, k2, k3, k4⟩ := ld_loop1 (.val x) (.val (.int d)) (.val (.int c.epoch)) (.val (.int c.base)) (.val (.tup (c.kinds.map msD))) (.val (.tup (c.years.map nat))) (.val (.lst (c.cal.yl.map D.int))) (.val (.int ((d - c.epoch) / c.cal.T))) .no .no c.cal.yl .no ((d - c.epoch) % c.cal.T) (c.base + (d - c.epoch) / c.cal.T * (c.years.length : Int)) h2 h3
  have kl : k < c.cal.cyc.length := by simpa [runV, runIO2, runIO, sRet, sSeq, sAsg, sSet, sPar, sIf, sNext, sDrop, thaw, frz, cOp, cVar, cMove, cC, cUn, cCall, cCallL, cTup, cLst, aNil, aCons, cIxV, slotD, gNm, gTp, gMore, gNone, gSb, cLenV, cChain, cAnd, cOr, cNot, asB, tAnd, tOr, tNot, cIf, DL.ret, finF, ioOf, RF.to, RF.io, Sl.mut, Sl.put, Sl.data, Sl.dat, D.bool, D.addE, D.add, D.sub, D.mul, D.div, D.mod, D.pow, D.lt, D.ltE, D.le, D.gt, D.ge, D.neg, opLen, opInt, opAbs, opTuple, opList, opStr, opRepr, opAny, opAll, opSum, cFn, cFnIO, cMeth, cNew, cFld, Cal.yl] using k1
  have c1 := start_of h.cal (q := (d - c.epoch) / c.cal.T) kl
  have c2 := start_of' h.cal (q := (d - c.epoch) / c.cal.T) kl
  rw [h.L] at c1 c2
  have eb : c.cal.base = c.base := rfl
  have ee : c.cal.epoch = c.epoch := rfl
  rw [eb, ee] at c1 c2
  have u1 : c.cal.S k = (c.cal.yl.take k).sum := rfl
  have u2 : c.cal.S (k + 1) = (c.cal.yl.take (k + 1)).sum := rfl
  generalize hy : c.base + (d - c.epoch) / c.cal.T * (c.years.length : Int) + (k : Int) = y at *
  have ss := start_succ h.cal y
  obtain ⟨j, ρ, b1, b2, b3, b4, b5⟩ := ld_loop2 (c.cal.mon y) (.val x) (.val (.int d)) (.val (.int c.epoch)) (.val (.int c.base)) (.val (.tup (c.kinds.map msD))) (.val (.tup (c.years.map nat))) (.val (.lst (c.cal.yl.map D.int))) (.val (.int ((d - c.epoch) / c.cal.T))) t10 (c.cal.mon y).length 0 .no ((d - c.epoch) % c.cal.T - (c.cal.yl.take k).sum) y (by omega) (by omega) (by rw [List.drop_zero]; omega)
  rw [List.drop_zero] at b2 b3 b5
  rw [Nat.zero_add] at b1 b5
  have er : (d - c.epoch) % c.cal.T - (c.cal.yl.take k).sum = d - c.cal.start y := by omega
  rw [er] at b2 b3 b5 k4
  refine ⟨y, j, _, isD_of h.cal b1 b2 b3, ?_⟩
  have dv : divOk c.cal.T = true := divOk_of t.1 (by omega)
  have fr : d - c.epoch - (d - c.epoch) / c.cal.T * c.cal.T = (d - c.epoch) % c.cal.T := by omega
  have mt := mul_T h
  have os : opSum [.lst (c.cal.yl.map D.int)] = some (.int c.cal.T) := by
    show (D.ints (c.cal.yl.map D.int)).map (fun ns => D.int ns.sum) = _
    rw [ints_map]
    rfl
  have ln : opLen [msD (c.cal.mon y)] = some (.int ((c.cal.mon y).length : Int)) := by simp [runV, runIO2, runIO, sRet, sSeq, sAsg, sSet, sPar, sIf, sNext, sDrop, thaw, frz, cOp, cVar, cMove, cC, cUn, cCall, cCallL, cTup, cLst, aNil, aCons, cIxV, slotD, gNm, gTp, gMore, gNone, gSb, cLenV, cChain, cAnd, cOr, cNot, asB, tAnd, tOr, tNot, cIf, DL.ret, finF, ioOf, RF.to, RF.io, Sl.mut, Sl.put, Sl.data, Sl.dat, D.bool, D.addE, D.add, D.sub, D.mul, D.div, D.mod, D.pow, D.lt, D.ltE, D.le, D.gt, D.ge, D.neg, opLen, opInt, opAbs, opTuple, opList, opStr, opRepr, opAny, opAll, opSum, cFn, cFnIO, cMeth, cNew, cFld, msD]
  have lt : ∀ ds : List D, opLen [.tup ds] = some (.int (ds.length : Int)) := fun _ => rfl
  have sp : (((c.cal.mon y).length : Int) + 1 - 1).toNat = (c.cal.mon y).length := by omega
  rw [← span1_eq] at b5
  simp [runV, runIO2, runIO, sRet, sSeq, sAsg, sSet, sPar, sIf, sNext, sDrop, thaw, frz, cOp, cVar, cMove, cC, cUn, cCall, cCallL, cTup, cLst, aNil, aCons, cIxV, slotD, gNm, gTp, gMore, gNone, gSb, cLenV, cChain, cAnd, cOr, cNot, asB, tAnd, tOr, tNot, cIf, DL.ret, finF, ioOf, RF.to, RF.io, Sl.mut, Sl.put, Sl.data, Sl.dat, D.bool, D.addE, D.add, D.sub, D.mul, D.div, D.mod, D.pow, D.lt, D.ltE, D.le, D.gt, D.ge, D.neg, opInt, opAbs, opTuple, opList, opStr, opRepr, opAny, opAll, cFn, cFnIO, cMeth, cNew, cFld, lt, m_u_law_date_of, b_u_law_date_of, hm, Mcal.d, ev_year_lengths h hm, os, dv, mt, mul_L h, fr, sFor, cItems, D.items, k4, ev_kind_of h hm, cSpan, D.span2, ln, sp, b5, b4, dateD]
theorem ev_law_date_of {d y dd : Int} {m : Nat} (i : IsD c.cal d y m dd) : m_u_law_date_of [x, .int d] = .ok (.val (dateD y m dd)) none := by
  obtain ⟨y', m', d', i', e⟩ := law_date_ex h hm d
  obtain ⟨rfl, rfl, rfl⟩ := isD_unique h.cal i i'
  exact e
theorem ev_next {d y dd : Int} {m : Nat} (i : IsD c.cal d y m dd) : m_u_law_next [x, dateD y m dd] = .ok (.val (dateD (if dd < (c.cal.mon y).getD m 0 then y else if m + 1 < (c.cal.mon y).length then y else y + 1)
    (if dd < (c.cal.mon y).getD m 0 then m else if m + 1 < (c.cal.mon y).length then m + 1 else 0) (if dd < (c.cal.mon y).getD m 0 then dd + 1 else 1))) none := by
  have a := ms_at h i.m1
  generalize (c.cal.mon y).getD m 0 = lm at a ⊢
  have ln : opLen [msD (c.cal.mon y)] = some (.int ((c.cal.mon y).length : Int)) := by simp [runV, runIO2, runIO, sRet, sSeq, sAsg, sSet, sPar, sIf, sNext, sDrop, thaw, frz, cOp, cVar, cMove, cC, cUn, cCall, cCallL, cTup, cLst, aNil, aCons, cIxV, slotD, gNm, gTp, gMore, gNone, gSb, cLenV, cChain, cAnd, cOr, cNot, asB, tAnd, tOr, tNot, cIf, DL.ret, finF, ioOf, RF.to, RF.io, Sl.mut, Sl.put, Sl.data, Sl.dat, D.bool, D.addE, D.add, D.sub, D.mul, D.div, D.mod, D.pow, D.lt, D.ltE, D.le, D.gt, D.ge, D.neg, opLen, opInt, opAbs, opTuple, opList, opStr, opRepr, opAny, opAll, opSum, cFn, cFnIO, cMeth, cNew, cFld, msD]
  by_cases q1 : dd < lm
  · simp [runV, runIO2, runIO, sRet, sSeq, sAsg, sSet, sPar, sIf, sNext, sDrop, thaw, frz, cOp, cVar, cMove, cC, cUn, cCall, cCallL, cTup, cLst, aNil, aCons, cIxV, slotD, gNm, gTp, gMore, gNone, gSb, cLenV, cChain, cAnd, cOr, cNot, asB, tAnd, tOr, tNot, cIf, DL.ret, finF, ioOf, RF.to, RF.io, Sl.mut, Sl.put, Sl.data, Sl.dat, D.bool, D.addE, D.add, D.sub, D.mul, D.div, D.mod, D.pow, D.lt, D.ltE, D.le, D.gt, D.ge, D.neg, opInt, opAbs, opTuple, opList, opStr, opRepr, opAny, opAll, opSum, cFn, cFnIO, cMeth, cNew, cFld, m_u_law_next, b_u_law_next, dateD, ev_kind_of h hm, a, q1]
  · by_cases q2 : m + 1 < (c.cal.mon y).length
    · have q3 : (m : Int) + 1 < ((c.cal.mon y).length : Int) := by omega
      simp [runV, runIO2, runIO, sRet, sSeq, sAsg, sSet, sPar, sIf, sNext, sDrop, thaw, frz, cOp, cVar, cMove, cC, cUn, cCall, cCallL, cTup, cLst, aNil, aCons, cIxV, slotD, gNm, gTp, gMore, gNone, gSb, cLenV, cChain, cAnd, cOr, cNot, asB, tAnd, tOr, tNot, cIf, DL.ret, finF, ioOf, RF.to, RF.io, Sl.mut, Sl.put, Sl.data, Sl.dat, D.bool, D.addE, D.add, D.sub, D.mul, D.div, D.mod, D.pow, D.lt, D.ltE, D.le, D.gt, D.ge, D.neg, opInt, opAbs, opTuple, opList, opStr, opRepr, opAny, opAll, opSum, cFn, cFnIO, cMeth, cNew, cFld, m_u_law_next, b_u_law_next, dateD, ev_kind_of h hm, a, q1, ln, q2, q3]
    · have q3 : ¬ (m : Int) + 1 < ((c.cal.mon y).length : Int) := by omega
      simp [runV, runIO2, runIO, sRet, sSeq, sAsg, sSet, sPar, sIf, sNext, sDrop, thaw, frz, cOp, cVar, cMove, cC, cUn, cCall, cCallL, cTup, cLst, aNil, aCons, cIxV, slotD, gNm, gTp, gMore, gNone, gSb, cLenV, cChain, cAnd, cOr, cNot, asB, tAnd, tOr, tNot, cIf, DL.ret, finF, ioOf, RF.to, RF.io, Sl.mut, Sl.put, Sl.data, Sl.dat, D.bool, D.addE, D.add, D.sub, D.mul, D.div, D.mod, D.pow, D.lt, D.ltE, D.le, D.gt, D.ge, D.neg, opInt, opAbs, opTuple, opList, opStr, opRepr, opAny, opAll, opSum, cFn, cFnIO, cMeth, cNew, cFld, m_u_law_next, b_u_law_next, dateD, ev_kind_of h hm, a, q1, ln, q2, q3]
end
end Wk29

end
section
namespace Wk29
open PySem DL CAL
section
variable (y : Int) (m : Nat) (d : Int)
theorem dt_ne : D.ne (dateD y m d) (dateD y m d) = some (.bl false) := by
  unfold dateD
  rw [ne3]
  simp [runV, runIO2, runIO, sRet, sSeq, sAsg, sSet, sPar, sIf, sNext, sDrop, thaw, frz, cOp, cVar, cMove, cC, cUn, cCall, cCallL, cTup, cLst, aNil, aCons, cIxV, slotD, gNm, gTp, gMore, gNone, gSb, cLenV, cChain, cAnd, cOr, cNot, asB, tAnd, tOr, tNot, cIf, DL.ret, finF, ioOf, RF.to, RF.io, Sl.mut, Sl.put, Sl.data, Sl.dat, D.bool, D.addE, D.add, D.sub, D.mul, D.div, D.mod, D.pow, D.lt, D.ltE, D.le, D.gt, D.ge, D.neg, opLen, opInt, opAbs, opTuple, opList, opStr, opRepr, opAny, opAll, opSum, cFn, cFnIO, cMeth, cNew, cFld]
theorem dt_ix0 : D.ixI (dateD y m d) (.int 0) = some (.int y) := rfl
theorem dt_sl : D.slice (some 1) none (dateD y m d) = some (.val (.tup [.int ((m : Int) + 1), .int d])) := rfl
theorem dt_eq : D.eq (dateD y m d) (.tup [.int y, .int ((m : Int) + 1), .int d]) = some (.bl true) := by
  unfold dateD
  rw [eq3]
  simp [runV, runIO2, runIO, sRet, sSeq, sAsg, sSet, sPar, sIf, sNext, sDrop, thaw, frz, cOp, cVar, cMove, cC, cUn, cCall, cCallL, cTup, cLst, aNil, aCons, cIxV, slotD, gNm, gTp, gMore, gNone, gSb, cLenV, cChain, cAnd, cOr, cNot, asB, tAnd, tOr, tNot, cIf, DL.ret, finF, ioOf, RF.to, RF.io, Sl.mut, Sl.put, Sl.data, Sl.dat, D.bool, D.addE, D.add, D.sub, D.mul, D.div, D.mod, D.pow, D.lt, D.ltE, D.le, D.gt, D.ge, D.neg, opLen, opInt, opAbs, opTuple, opList, opStr, opRepr, opAny, opAll, opSum, cFn, cFnIO, cMeth, cNew, cFld]
theorem dt_lt (y' : Int) (m' : Nat) (d' : Int) : D.ltE (dateD y m d) (dateD y' m' d') = some (.bl (HT.lexLt [y, (m : Int) + 1, d] [y', (m' : Int) + 1, d'])) := rfl
theorem dt_tup : D.tup [.int y, .int ((m : Int) + 1), .int d] = dateD y m d := rfl
end
theorem lx_day (y a b : Int) : HT.lexLt [y, a, b] [y, a, b + 1] = true := by
  have q : ¬ b = b + 1 := by omega
  have q2 : b < b + 1 := by omega
  simp only [HT.lexLt, if_true, if_neg q, decide_eq_true q2]
theorem lx_month (y a a' b b' : Int) (h : a < a') : HT.lexLt [y, a, b] [y, a', b'] = true := by
  have q : ¬ a = a' := by omega
  simp only [HT.lexLt, if_true, if_neg q, decide_eq_true h]
theorem lx_year (y y' a a' b b' : Int) (h : y < y') : HT.lexLt [y, a, b] [y', a', b'] = true := by
  have q : ¬ y = y' := by omega
  simp only [HT.lexLt, if_neg q, decide_eq_true h]
section
variable {c : Mcal} (h : c.Ok) {x : D} (hn : m_need_calendar [x] = .ok (.val c.d) none) (hm : m_u_law_made [x] = .ok (.val c.d) none)
include h hn hm
theorem ev_right (day : Int) : m_u_law_right [x, .int day] = .ok (.val (.bl true)) none := by
  obtain ⟨y, m, dd, i⟩ := isD_ex h.cal day
  have n := ev_next h hm i
  have i1 := isD_next h.cal i
  have i2 := isD_turn h.cal i 1
  have i3 := isD_turn h.cal i (-3)
  rw [h.L, show day + 1 * c.cal.T = day + c.cal.T by omega, show y + 1 * (c.years.length : Int) = y + (c.years.length : Int) by omega] at i2
  rw [h.L, show day + -3 * c.cal.T = day - 3 * c.cal.T by omega, show y + -3 * (c.years.length : Int) = y - 3 * (c.years.length : Int) by omega] at i3
  have lx : HT.lexLt [y, (m : Int) + 1, dd] [if dd < (c.cal.mon y).getD m 0 then y else if m + 1 < (c.cal.mon y).length then y else y + 1, ((if dd < (c.cal.mon y).getD m 0 then m else if m + 1 < (c.cal.mon y).length then m + 1 else 0 : Nat) : Int) + 1, if dd < (c.cal.mon y).getD m 0 then dd + 1 else 1] = true := by
    by_cases q1 : dd < (c.cal.mon y).getD m 0
    · simp only [if_pos q1]
      exact lx_day _ _ _
    · simp only [if_neg q1]
      by_cases q2 : m + 1 < (c.cal.mon y).length
      · simp only [if_pos q2]
        exact lx_month _ _ _ _ _ (by omega)
      · simp only [if_neg q2]
        exact lx_year _ _ _ _ _ _ (by omega)
  revert n i1 lx
  generalize (if dd < (c.cal.mon y).getD m 0 then y else if m + 1 < (c.cal.mon y).length then y else y + 1) = y2
  generalize (if dd < (c.cal.mon y).getD m 0 then m else if m + 1 < (c.cal.mon y).length then m + 1 else 0) = m2
  generalize (if dd < (c.cal.mon y).getD m 0 then dd + 1 else 1) = d2
  intro n i1 lx
  have lt : ∀ ds : List D, opLen [.tup ds] = some (.int (ds.length : Int)) := fun _ => rfl
  have x3 : D.ixI c.d (.int 3) = some (.tup (c.years.map nat)) := rfl
  have m3 : ∀ j : Int, mulOk 3 j = true := fun j => mulOk_l (by decide) (by decide)
  simp [runV, runIO2, runIO, sRet, sSeq, sAsg, sSet, sPar, sIf, sNext, sDrop, thaw, frz, cOp, cVar, cMove, cC, cUn, cCall, cCallL, cTup, cLst, aNil, aCons, cIxV, slotD, gNm, gTp, gMore, gNone, gSb, cLenV, cChain, cAnd, cOr, cNot, asB, tAnd, tOr, tNot, cIf, DL.ret, finF, ioOf, RF.to, RF.io, Sl.mut, Sl.put, Sl.data, Sl.dat, D.bool, D.addE, D.add, D.sub, D.mul, D.div, D.mod, D.pow, D.lt, D.le, D.gt, D.ge, D.neg, opInt, opAbs, opTuple, opList, opStr, opRepr, opAny, opAll, opSum, cFn, cFnIO, cMeth, cNew, cFld, lt, m_u_law_right, b_u_law_right, ev_date_of h hn i, ev_law_date_of h hm i, ev_day_of h hn i, ev_date_of h hn i1, n, ev_cycle_days h hn, hm, x3, ev_date_of h hn i2, ev_date_of h hn i3, m3, cFnK, L2.pick, dt_ne, dt_ix0, dt_sl, dt_eq, dt_lt, lx, cSl, oNone, oSome]
end
end Wk29

end
section
namespace Wk29
open PySem DL CAL
@[simp] theorem eq_g_g : D.eq (.str "gregorian") (.str "gregorian") = some (.bl true) := by kernel_rfl
@[simp] theorem eq_g_j : D.eq (.str "gregorian") (.str "julian") = some (.bl false) := by kernel_rfl
@[simp] theorem eq_g_i : D.eq (.str "gregorian") (.str "islamic") = some (.bl false) := by kernel_rfl
@[simp] theorem eq_g_c : D.eq (.str "gregorian") (.str "coptic") = some (.bl false) := by kernel_rfl
@[simp] theorem eq_j_g : D.eq (.str "julian") (.str "gregorian") = some (.bl false) := by kernel_rfl
@[simp] theorem eq_j_j : D.eq (.str "julian") (.str "julian") = some (.bl true) := by kernel_rfl
@[simp] theorem eq_j_i : D.eq (.str "julian") (.str "islamic") = some (.bl false) := by kernel_rfl
@[simp] theorem eq_j_c : D.eq (.str "julian") (.str "coptic") = some (.bl false) := by kernel_rfl
@[simp] theorem eq_i_g : D.eq (.str "islamic") (.str "gregorian") = some (.bl false) := by kernel_rfl
@[simp] theorem eq_i_j : D.eq (.str "islamic") (.str "julian") = some (.bl false) := by kernel_rfl
@[simp] theorem eq_i_i : D.eq (.str "islamic") (.str "islamic") = some (.bl true) := by kernel_rfl
@[simp] theorem eq_i_c : D.eq (.str "islamic") (.str "coptic") = some (.bl false) := by kernel_rfl
@[simp] theorem eq_c_g : D.eq (.str "coptic") (.str "gregorian") = some (.bl false) := by kernel_rfl
@[simp] theorem eq_c_j : D.eq (.str "coptic") (.str "julian") = some (.bl false) := by kernel_rfl
@[simp] theorem eq_c_i : D.eq (.str "coptic") (.str "islamic") = some (.bl false) := by kernel_rfl
@[simp] theorem eq_c_c : D.eq (.str "coptic") (.str "coptic") = some (.bl true) := by kernel_rfl
def common : List Int := [31, 28, 31, 30, 31, 30, 31, 31, 30, 31, 30, 31]
def leapM : List Int := [31, 29, 31, 30, 31, 30, 31, 31, 30, 31, 30, 31]
def plainM : List Int := [30, 29, 30, 29, 30, 29, 30, 29, 30, 29, 30, 29]
def longerM : List Int := [30, 29, 30, 29, 30, 29, 30, 29, 30, 29, 30, 30]
def cop5 : List Int := [30, 30, 30, 30, 30, 30, 30, 30, 30, 30, 30, 30, 5]
def cop6 : List Int := [30, 30, 30, 30, 30, 30, 30, 30, 30, 30, 30, 30, 6]
def leap (y : Int) : Bool := decide (y % 4 = 0) && (!decide (y % 100 = 0) || decide (y % 400 = 0))
def longY : List Int := [2, 5, 7, 10, 13, 16, 18, 21, 24, 26, 29]
def gregC : Mcal := ⟨0, 2000, [common, leapM], (List.range 400).map fun k : Nat => if leap (2000 + (k : Int)) then 1 else 0⟩
def julC : Mcal := ⟨13, 2000, [common, leapM], [1, 0, 0, 0]⟩
def islC : Mcal := ⟨-503105, 1, [plainM, longerM], (List.range 30).map fun k : Nat => if ((k : Int) + 1) ∈ longY then 1 else 0⟩
def copC : Mcal := ⟨-626515, 1, [cop5, cop6], [0, 0, 1, 0]⟩
theorem greg_ok : gregC.Ok := by
  refine ⟨by decide, by decide, by simp [runV, runIO2, runIO, sRet, sSeq, sAsg, sSet, sPar, sIf, sNext, sDrop, thaw, frz, cOp, cVar, cMove, cC, cUn, cCall, cCallL, cTup, cLst, aNil, aCons, cIxV, slotD, gNm, gTp, gMore, gNone, gSb, cLenV, cChain, cAnd, cOr, cNot, asB, tAnd, tOr, tNot, cIf, DL.ret, finF, ioOf, RF.to, RF.io, Sl.mut, Sl.put, Sl.data, Sl.dat, D.bool, D.addE, D.add, D.sub, D.mul, D.div, D.mod, D.pow, D.lt, D.ltE, D.le, D.gt, D.ge, D.neg, opLen, opInt, opAbs, opTuple, opList, opStr, opRepr, opAny, opAll, opSum, cFn, cFnIO, cMeth, cNew, cFld, gregC], by simp [runV, runIO2, runIO, sRet, sSeq, sAsg, sSet, sPar, sIf, sNext, sDrop, thaw, frz, cOp, cVar, cMove, cC, cUn, cCall, cCallL, cTup, cLst, aNil, aCons, cIxV, slotD, gNm, gTp, gMore, gNone, gSb, cLenV, cChain, cAnd, cOr, cNot, asB, tAnd, tOr, tNot, cIf, DL.ret, finF, ioOf, RF.to, RF.io, Sl.mut, Sl.put, Sl.data, Sl.dat, D.bool, D.addE, D.add, D.sub, D.mul, D.div, D.mod, D.pow, D.lt, D.ltE, D.le, D.gt, D.ge, D.neg, opLen, opInt, opAbs, opTuple, opList, opStr, opRepr, opAny, opAll, opSum, cFn, cFnIO, cMeth, cNew, cFld, gregC], fun k hk => ?_, by decide, by decide, by decide, by decide⟩
  obtain ⟨j, _, rfl⟩ := List.mem_map.mp hk
  show (if leap (2000 + (j : Int)) then 1 else 0) < 2
  split <;> decide
theorem jul_ok : julC.Ok := ⟨by decide, by decide, by decide, by decide, by decide, by decide, by decide, by decide, by decide⟩
theorem isl_ok : islC.Ok := by
  refine ⟨by decide, by decide, by simp [runV, runIO2, runIO, sRet, sSeq, sAsg, sSet, sPar, sIf, sNext, sDrop, thaw, frz, cOp, cVar, cMove, cC, cUn, cCall, cCallL, cTup, cLst, aNil, aCons, cIxV, slotD, gNm, gTp, gMore, gNone, gSb, cLenV, cChain, cAnd, cOr, cNot, asB, tAnd, tOr, tNot, cIf, DL.ret, finF, ioOf, RF.to, RF.io, Sl.mut, Sl.put, Sl.data, Sl.dat, D.bool, D.addE, D.add, D.sub, D.mul, D.div, D.mod, D.pow, D.lt, D.ltE, D.le, D.gt, D.ge, D.neg, opLen, opInt, opAbs, opTuple, opList, opStr, opRepr, opAny, opAll, opSum, cFn, cFnIO, cMeth, cNew, cFld, islC], by simp [runV, runIO2, runIO, sRet, sSeq, sAsg, sSet, sPar, sIf, sNext, sDrop, thaw, frz, cOp, cVar, cMove, cC, cUn, cCall, cCallL, cTup, cLst, aNil, aCons, cIxV, slotD, gNm, gTp, gMore, gNone, gSb, cLenV, cChain, cAnd, cOr, cNot, asB, tAnd, tOr, tNot, cIf, DL.ret, finF, ioOf, RF.to, RF.io, Sl.mut, Sl.put, Sl.data, Sl.dat, D.bool, D.addE, D.add, D.sub, D.mul, D.div, D.mod, D.pow, D.lt, D.ltE, D.le, D.gt, D.ge, D.neg, opLen, opInt, opAbs, opTuple, opList, opStr, opRepr, opAny, opAll, opSum, cFn, cFnIO, cMeth, cNew, cFld, islC], fun k hk => ?_, by decide, by decide, by decide, by decide⟩
  obtain ⟨j, _, rfl⟩ := List.mem_map.mp hk
  show (if ((j : Int) + 1) ∈ longY then 1 else 0) < 2
  split <;> decide
theorem cop_ok : copC.Ok := ⟨by decide, by decide, by decide, by decide, by decide, by decide, by decide, by decide, by decide⟩
theorem ev_is_leap (y : Int) : m_is_leap [.int y] = .ok (.val (.bl (leap y))) none := by
  unfold leap
  by_cases h1 : y % 4 = 0 <;> by_cases h2 : y % 100 = 0 <;> by_cases h3 : y % 400 = 0 <;> simp [runV, runIO2, runIO, sRet, sSeq, sAsg, sSet, sPar, sIf, sNext, sDrop, thaw, frz, cOp, cVar, cMove, cC, cUn, cCall, cCallL, cTup, cLst, aNil, aCons, cIxV, slotD, gNm, gTp, gMore, gNone, gSb, cLenV, cChain, cAnd, cOr, cNot, asB, tAnd, tOr, tNot, cIf, DL.ret, finF, ioOf, RF.to, RF.io, Sl.mut, Sl.put, Sl.data, Sl.dat, D.bool, D.addE, D.add, D.sub, D.mul, D.div, D.mod, D.pow, D.lt, D.ltE, D.le, D.gt, D.ge, D.neg, opLen, opInt, opAbs, opTuple, opList, opStr, opRepr, opAny, opAll, opSum, cFn, cFnIO, cMeth, cNew, cFld, m_is_leap, b_is_leap, h1, h2, h3]
/-! the made ones, as the program tells them -/
def lpD (d : D) : D := match d with
  | .int y => .int (if leap y then 1 else 0)
  | d => d
def lgD (d : D) : D := match d with
  | .int y => .int (if y ∈ longY then 1 else 0)
  | d => d
theorem greg_list : (span 2000 400).map lpD = gregC.years.map nat := by
  unfold span gregC
  simp only [List.map_map]
  refine List.map_congr_left fun k _ => ?_
  show D.int (if leap (2000 + (k : Int)) then 1 else 0) = D.int (((if leap (2000 + (k : Int)) then 1 else 0 : Nat)) : Int)
  cases leap (2000 + (k : Int)) <;> rfl
theorem greg_list2 : (span 0 400).map lpD = gregC.years.map nat := by
  unfold span gregC
  simp only [List.map_map]
  refine List.map_congr_left fun k _ => ?_
  have e : leap (2000 + (k : Int)) = leap (0 + (k : Int)) := by
    unfold leap
    have e1 : (2000 + (k : Int)) % 4 = (0 + (k : Int)) % 4 := by omega
    have e2 : (2000 + (k : Int)) % 100 = (0 + (k : Int)) % 100 := by omega
    have e3 : (2000 + (k : Int)) % 400 = (0 + (k : Int)) % 400 := by omega
    rw [e1, e2, e3]
  show D.int (if leap (0 + (k : Int)) then 1 else 0) = D.int (((if leap (2000 + (k : Int)) then 1 else 0 : Nat)) : Int)
  rw [e]
  cases leap (0 + (k : Int)) <;> rfl
theorem isl_list : (span 1 30).map lgD = islC.years.map nat := by
  unfold span islC
  simp only [List.map_map]
  refine List.map_congr_left fun k _ => ?_
  show D.int (if (1 + (k : Int)) ∈ longY then 1 else 0) = D.int (((if ((k : Int) + 1) ∈ longY then 1 else 0 : Nat)) : Int)
  rw [Int.add_comm]
  split <;> rfl
theorem in_long (y : Int) : D.inE (.int y) (.tup [.int 2, .int 5, .int 7, .int 10, .int 13, .int 16, .int 18, .int 21, .int 24, .int 26, .int 29]) = some (.bl (decide (y ∈ longY))) := by
  have e : ∀ c : Int, (c == y) = decide (y = c) := fun c => by
    by_cases q : y = c
    · subst q; simp [runV, runIO2, runIO, sRet, sSeq, sAsg, sSet, sPar, sIf, sNext, sDrop, thaw, frz, cOp, cVar, cMove, cC, cUn, cCall, cCallL, cTup, cLst, aNil, aCons, cIxV, slotD, gNm, gTp, gMore, gNone, gSb, cLenV, cChain, cAnd, cOr, cNot, asB, tAnd, tOr, tNot, cIf, DL.ret, finF, ioOf, RF.to, RF.io, Sl.mut, Sl.put, Sl.data, Sl.dat, D.bool, D.addE, D.add, D.sub, D.mul, D.div, D.mod, D.pow, D.lt, D.ltE, D.le, D.gt, D.ge, D.neg, opLen, opInt, opAbs, opTuple, opList, opStr, opRepr, opAny, opAll, opSum, cFn, cFnIO, cMeth, cNew, cFld]
    · have : ¬ c = y := fun z => q z.symm
      simp [runV, runIO2, runIO, sRet, sSeq, sAsg, sSet, sPar, sIf, sNext, sDrop, thaw, frz, cOp, cVar, cMove, cC, cUn, cCall, cCallL, cTup, cLst, aNil, aCons, cIxV, slotD, gNm, gTp, gMore, gNone, gSb, cLenV, cChain, cAnd, cOr, cNot, asB, tAnd, tOr, tNot, cIf, DL.ret, finF, ioOf, RF.to, RF.io, Sl.mut, Sl.put, Sl.data, Sl.dat, D.bool, D.addE, D.add, D.sub, D.mul, D.div, D.mod, D.pow, D.lt, D.ltE, D.le, D.gt, D.ge, D.neg, opLen, opInt, opAbs, opTuple, opList, opStr, opRepr, opAny, opAll, opSum, cFn, cFnIO, cMeth, cNew, cFld, q, this]
  simp [runV, runIO2, runIO, sRet, sSeq, sAsg, sSet, sPar, sIf, sNext, sDrop, thaw, frz, cOp, cVar, cMove, cC, cUn, cCall, cCallL, cTup, cLst, aNil, aCons, cIxV, slotD, gNm, gTp, gMore, gNone, gSb, cLenV, cChain, cAnd, cOr, cNot, asB, tAnd, tOr, tNot, cIf, DL.ret, finF, ioOf, RF.to, RF.io, Sl.mut, Sl.put, Sl.data, Sl.dat, D.bool, D.addE, D.add, D.sub, D.mul, D.div, D.mod, D.pow, D.lt, D.ltE, D.le, D.gt, D.ge, D.neg, opLen, opInt, opAbs, opTuple, opList, opStr, opRepr, opAny, opAll, opSum, cFn, cFnIO, cMeth, cNew, cFld, D.inE, D.flat, D.memF, D.eqF, e, longY]
theorem mo_greg : m_made_of [.str "gregorian"] = .ok (.val gregC.d) none := by
  have lc : cLc [1] (cSpan D.span2 (aCons (cC (.int 2000)) (aCons (cC (.int 2400)) aNil))) (gNm 1) tTrue e_made_of_0 [.val (.str "gregorian"), .no] = .ok (.own (gregC.years.map nat)) [.val (.str "gregorian"), .no] := by
    rw [← greg_list]
    refine lc_ok (ρ1 := [.val (.str "gregorian"), .no]) lpD (by simp [runV, runIO2, runIO, sRet, sSeq, sAsg, sSet, sPar, sIf, sNext, sDrop, thaw, frz, cOp, cVar, cMove, cC, cUn, cCall, cCallL, cTup, cLst, aNil, aCons, cIxV, slotD, gNm, gTp, gMore, gNone, gSb, cLenV, cChain, cAnd, cOr, cNot, asB, tAnd, tOr, tNot, cIf, DL.ret, finF, ioOf, RF.to, RF.io, Sl.mut, Sl.put, Sl.data, Sl.dat, D.bool, D.addE, D.add, D.sub, D.mul, D.div, D.mod, D.pow, D.lt, D.ltE, D.le, D.gt, D.ge, D.neg, opLen, opInt, opAbs, opTuple, opList, opStr, opRepr, opAny, opAll, opSum, cFn, cFnIO, cMeth, cNew, cFld, cSpan, D.span2]) rfl (fun d hd => ?_) (by rw [span_length]; exact size_ge (by decide))
    obtain ⟨k, hk, rfl⟩ := span_mem hd
    simp [runV, runIO2, runIO, sRet, sSeq, sAsg, sSet, sPar, sIf, sNext, sDrop, thaw, frz, cOp, cVar, cMove, cC, cUn, cCall, cCallL, cTup, cLst, aNil, aCons, cIxV, slotD, gNm, gTp, gMore, gNone, gSb, cLenV, cChain, cAnd, cOr, cNot, asB, tAnd, tOr, tNot, cIf, DL.ret, finF, ioOf, RF.to, RF.io, Sl.mut, Sl.put, Sl.data, Sl.dat, D.bool, D.addE, D.add, D.sub, D.mul, D.div, D.mod, D.pow, D.lt, D.ltE, D.le, D.gt, D.ge, D.neg, opLen, opInt, opAbs, opTuple, opList, opStr, opRepr, opAny, opAll, opSum, cFn, cFnIO, cMeth, cNew, cFld, e_made_of_0, ev_is_leap, lpD]
  simp [runV, runIO2, runIO, sRet, sSeq, sAsg, sSet, sPar, sIf, sNext, sDrop, thaw, frz, cOp, cVar, cMove, cC, cUn, cCall, cCallL, cTup, cLst, aNil, aCons, cIxV, slotD, gNm, gTp, gMore, gNone, gSb, cLenV, cChain, cAnd, cOr, cNot, asB, tAnd, tOr, tNot, cIf, DL.ret, finF, ioOf, RF.to, RF.io, Sl.mut, Sl.put, Sl.data, Sl.dat, D.bool, D.addE, D.add, D.sub, D.mul, D.div, D.mod, D.pow, D.lt, D.ltE, D.le, D.gt, D.ge, D.neg, opLen, opInt, opAbs, opTuple, opList, opStr, opRepr, opAny, opAll, opSum, cFn, cFnIO, cMeth, cNew, cFld, m_made_of, b_made_of, lc]
  rfl
theorem mo_jul : m_made_of [.str "julian"] = .ok (.val julC.d) none := by
  simp [runV, runIO2, runIO, sRet, sSeq, sAsg, sSet, sPar, sIf, sNext, sDrop, thaw, frz, cOp, cVar, cMove, cC, cUn, cCall, cCallL, cTup, cLst, aNil, aCons, cIxV, slotD, gNm, gTp, gMore, gNone, gSb, cLenV, cChain, cAnd, cOr, cNot, asB, tAnd, tOr, tNot, cIf, DL.ret, finF, ioOf, RF.to, RF.io, Sl.mut, Sl.put, Sl.data, Sl.dat, D.bool, D.addE, D.add, D.sub, D.mul, D.div, D.mod, D.pow, D.lt, D.ltE, D.le, D.gt, D.ge, D.neg, opLen, opInt, opAbs, opTuple, opList, opStr, opRepr, opAny, opAll, opSum, cFn, cFnIO, cMeth, cNew, cFld, m_made_of, b_made_of]
  rfl
theorem mo_isl : m_made_of [.str "islamic"] = .ok (.val islC.d) none := by
  have lc : cLc [1] (cSpan D.span2 (aCons (cC (.int 1)) (aCons (cC (.int 31)) aNil))) (gNm 1) tTrue e_made_of_1 [.val (.str "islamic"), .no] = .ok (.own (islC.years.map nat)) [.val (.str "islamic"), .no] := by
    rw [← isl_list]
    refine lc_ok (ρ1 := [.val (.str "islamic"), .no]) lgD (by simp [runV, runIO2, runIO, sRet, sSeq, sAsg, sSet, sPar, sIf, sNext, sDrop, thaw, frz, cOp, cVar, cMove, cC, cUn, cCall, cCallL, cTup, cLst, aNil, aCons, cIxV, slotD, gNm, gTp, gMore, gNone, gSb, cLenV, cChain, cAnd, cOr, cNot, asB, tAnd, tOr, tNot, cIf, DL.ret, finF, ioOf, RF.to, RF.io, Sl.mut, Sl.put, Sl.data, Sl.dat, D.bool, D.addE, D.add, D.sub, D.mul, D.div, D.mod, D.pow, D.lt, D.ltE, D.le, D.gt, D.ge, D.neg, opLen, opInt, opAbs, opTuple, opList, opStr, opRepr, opAny, opAll, opSum, cFn, cFnIO, cMeth, cNew, cFld, cSpan, D.span2]) rfl (fun d hd => ?_) (by rw [span_length]; exact size_ge (by decide))
    obtain ⟨k, hk, rfl⟩ := span_mem hd
    simp [runV, runIO2, runIO, sRet, sSeq, sAsg, sSet, sPar, sIf, sNext, sDrop, thaw, frz, cOp, cVar, cMove, cC, cUn, cCall, cCallL, cTup, cLst, aNil, aCons, cIxV, slotD, gNm, gTp, gMore, gNone, gSb, cLenV, cChain, cAnd, cOr, cNot, asB, tAnd, tOr, tNot, cIf, DL.ret, finF, ioOf, RF.to, RF.io, Sl.mut, Sl.put, Sl.data, Sl.dat, D.bool, D.addE, D.add, D.sub, D.mul, D.div, D.mod, D.pow, D.lt, D.ltE, D.le, D.gt, D.ge, D.neg, opLen, opInt, opAbs, opTuple, opList, opStr, opRepr, opAny, opAll, opSum, cFn, cFnIO, cMeth, cNew, cFld, e_made_of_1, c_LONGER_YEARS, in_long, lgD]
  simp [runV, runIO2, runIO, sRet, sSeq, sAsg, sSet, sPar, sIf, sNext, sDrop, thaw, frz, cOp, cVar, cMove, cC, cUn, cCall, cCallL, cTup, cLst, aNil, aCons, cIxV, slotD, gNm, gTp, gMore, gNone, gSb, cLenV, cChain, cAnd, cOr, cNot, asB, tAnd, tOr, tNot, cIf, DL.ret, finF, ioOf, RF.to, RF.io, Sl.mut, Sl.put, Sl.data, Sl.dat, D.bool, D.addE, D.add, D.sub, D.mul, D.div, D.mod, D.pow, D.lt, D.ltE, D.le, D.gt, D.ge, D.neg, opLen, opInt, opAbs, opTuple, opList, opStr, opRepr, opAny, opAll, opSum, cFn, cFnIO, cMeth, cNew, cFld, m_made_of, b_made_of, lc]
  rfl
theorem mo_cop : m_made_of [.str "coptic"] = .ok (.val copC.d) none := by
  simp [runV, runIO2, runIO, sRet, sSeq, sAsg, sSet, sPar, sIf, sNext, sDrop, thaw, frz, cOp, cVar, cMove, cC, cUn, cCall, cCallL, cTup, cLst, aNil, aCons, cIxV, slotD, gNm, gTp, gMore, gNone, gSb, cLenV, cChain, cAnd, cOr, cNot, asB, tAnd, tOr, tNot, cIf, DL.ret, finF, ioOf, RF.to, RF.io, Sl.mut, Sl.put, Sl.data, Sl.dat, D.bool, D.addE, D.add, D.sub, D.mul, D.div, D.mod, D.pow, D.lt, D.ltE, D.le, D.gt, D.ge, D.neg, opLen, opInt, opAbs, opTuple, opList, opStr, opRepr, opAny, opAll, opSum, cFn, cFnIO, cMeth, cNew, cFld, m_made_of, b_made_of]
  rfl

theorem ic_greg : m_is_a_calendar [.str "gregorian"] = .ok (.val (.bl true)) none := by
  have h : D.inE (.str "gregorian") c_NAMES = some (.bl true) := by kernel_rfl
  simp [runV, runIO2, runIO, sRet, sSeq, sAsg, sSet, sPar, sIf, sNext, sDrop, thaw, frz, cOp, cVar, cMove, cC, cUn, cCall, cCallL, cTup, cLst, aNil, aCons, cIxV, slotD, gNm, gTp, gMore, gNone, gSb, cLenV, cChain, cAnd, cOr, cNot, asB, tAnd, tOr, tNot, cIf, DL.ret, finF, ioOf, RF.to, RF.io, Sl.mut, Sl.put, Sl.data, Sl.dat, D.bool, D.addE, D.add, D.sub, D.mul, D.div, D.mod, D.pow, D.lt, D.ltE, D.le, D.gt, D.ge, D.neg, opLen, opInt, opAbs, opTuple, opList, opStr, opRepr, opAny, opAll, opSum, cFn, cFnIO, cMeth, cNew, cFld, m_is_a_calendar, b_is_a_calendar, cIs, Ty.ask, D.tyName, isB, h]
theorem nd_greg : m_need_calendar [.str "gregorian"] = .ok (.val gregC.d) none := by
  simp [runV, runIO2, runIO, sRet, sSeq, sAsg, sSet, sPar, sIf, sNext, sDrop, thaw, frz, cOp, cVar, cMove, cC, cUn, cCall, cCallL, cTup, cLst, aNil, aCons, cIxV, slotD, gNm, gTp, gMore, gNone, gSb, cLenV, cChain, cAnd, cOr, cNot, asB, tAnd, tOr, tNot, cIf, DL.ret, finF, ioOf, RF.to, RF.io, Sl.mut, Sl.put, Sl.data, Sl.dat, D.bool, D.addE, D.add, D.sub, D.mul, D.div, D.mod, D.pow, D.lt, D.ltE, D.le, D.gt, D.ge, D.neg, opLen, opInt, opAbs, opTuple, opList, opStr, opRepr, opAny, opAll, opSum, cFn, cFnIO, cMeth, cNew, cFld, m_need_calendar, b_need_calendar, ic_greg, mo_greg]
theorem ic_jul : m_is_a_calendar [.str "julian"] = .ok (.val (.bl true)) none := by
  have h : D.inE (.str "julian") c_NAMES = some (.bl true) := by kernel_rfl
  simp [runV, runIO2, runIO, sRet, sSeq, sAsg, sSet, sPar, sIf, sNext, sDrop, thaw, frz, cOp, cVar, cMove, cC, cUn, cCall, cCallL, cTup, cLst, aNil, aCons, cIxV, slotD, gNm, gTp, gMore, gNone, gSb, cLenV, cChain, cAnd, cOr, cNot, asB, tAnd, tOr, tNot, cIf, DL.ret, finF, ioOf, RF.to, RF.io, Sl.mut, Sl.put, Sl.data, Sl.dat, D.bool, D.addE, D.add, D.sub, D.mul, D.div, D.mod, D.pow, D.lt, D.ltE, D.le, D.gt, D.ge, D.neg, opLen, opInt, opAbs, opTuple, opList, opStr, opRepr, opAny, opAll, opSum, cFn, cFnIO, cMeth, cNew, cFld, m_is_a_calendar, b_is_a_calendar, cIs, Ty.ask, D.tyName, isB, h]
theorem nd_jul : m_need_calendar [.str "julian"] = .ok (.val julC.d) none := by
  simp [runV, runIO2, runIO, sRet, sSeq, sAsg, sSet, sPar, sIf, sNext, sDrop, thaw, frz, cOp, cVar, cMove, cC, cUn, cCall, cCallL, cTup, cLst, aNil, aCons, cIxV, slotD, gNm, gTp, gMore, gNone, gSb, cLenV, cChain, cAnd, cOr, cNot, asB, tAnd, tOr, tNot, cIf, DL.ret, finF, ioOf, RF.to, RF.io, Sl.mut, Sl.put, Sl.data, Sl.dat, D.bool, D.addE, D.add, D.sub, D.mul, D.div, D.mod, D.pow, D.lt, D.ltE, D.le, D.gt, D.ge, D.neg, opLen, opInt, opAbs, opTuple, opList, opStr, opRepr, opAny, opAll, opSum, cFn, cFnIO, cMeth, cNew, cFld, m_need_calendar, b_need_calendar, ic_jul, mo_jul]
theorem ic_isl : m_is_a_calendar [.str "islamic"] = .ok (.val (.bl true)) none := by
  have h : D.inE (.str "islamic") c_NAMES = some (.bl true) := by kernel_rfl
  simp [runV, runIO2, runIO, sRet, sSeq, sAsg, sSet, sPar, sIf, sNext, sDrop, thaw, frz, cOp, cVar, cMove, cC, cUn, cCall, cCallL, cTup, cLst, aNil, aCons, cIxV, slotD, gNm, gTp, gMore, gNone, gSb, cLenV, cChain, cAnd, cOr, cNot, asB, tAnd, tOr, tNot, cIf, DL.ret, finF, ioOf, RF.to, RF.io, Sl.mut, Sl.put, Sl.data, Sl.dat, D.bool, D.addE, D.add, D.sub, D.mul, D.div, D.mod, D.pow, D.lt, D.ltE, D.le, D.gt, D.ge, D.neg, opLen, opInt, opAbs, opTuple, opList, opStr, opRepr, opAny, opAll, opSum, cFn, cFnIO, cMeth, cNew, cFld, m_is_a_calendar, b_is_a_calendar, cIs, Ty.ask, D.tyName, isB, h]
theorem nd_isl : m_need_calendar [.str "islamic"] = .ok (.val islC.d) none := by
  simp [runV, runIO2, runIO, sRet, sSeq, sAsg, sSet, sPar, sIf, sNext, sDrop, thaw, frz, cOp, cVar, cMove, cC, cUn, cCall, cCallL, cTup, cLst, aNil, aCons, cIxV, slotD, gNm, gTp, gMore, gNone, gSb, cLenV, cChain, cAnd, cOr, cNot, asB, tAnd, tOr, tNot, cIf, DL.ret, finF, ioOf, RF.to, RF.io, Sl.mut, Sl.put, Sl.data, Sl.dat, D.bool, D.addE, D.add, D.sub, D.mul, D.div, D.mod, D.pow, D.lt, D.ltE, D.le, D.gt, D.ge, D.neg, opLen, opInt, opAbs, opTuple, opList, opStr, opRepr, opAny, opAll, opSum, cFn, cFnIO, cMeth, cNew, cFld, m_need_calendar, b_need_calendar, ic_isl, mo_isl]
theorem ic_cop : m_is_a_calendar [.str "coptic"] = .ok (.val (.bl true)) none := by
  have h : D.inE (.str "coptic") c_NAMES = some (.bl true) := by kernel_rfl
  simp [runV, runIO2, runIO, sRet, sSeq, sAsg, sSet, sPar, sIf, sNext, sDrop, thaw, frz, cOp, cVar, cMove, cC, cUn, cCall, cCallL, cTup, cLst, aNil, aCons, cIxV, slotD, gNm, gTp, gMore, gNone, gSb, cLenV, cChain, cAnd, cOr, cNot, asB, tAnd, tOr, tNot, cIf, DL.ret, finF, ioOf, RF.to, RF.io, Sl.mut, Sl.put, Sl.data, Sl.dat, D.bool, D.addE, D.add, D.sub, D.mul, D.div, D.mod, D.pow, D.lt, D.ltE, D.le, D.gt, D.ge, D.neg, opLen, opInt, opAbs, opTuple, opList, opStr, opRepr, opAny, opAll, opSum, cFn, cFnIO, cMeth, cNew, cFld, m_is_a_calendar, b_is_a_calendar, cIs, Ty.ask, D.tyName, isB, h]
theorem nd_cop : m_need_calendar [.str "coptic"] = .ok (.val copC.d) none := by
  simp [runV, runIO2, runIO, sRet, sSeq, sAsg, sSet, sPar, sIf, sNext, sDrop, thaw, frz, cOp, cVar, cMove, cC, cUn, cCall, cCallL, cTup, cLst, aNil, aCons, cIxV, slotD, gNm, gTp, gMore, gNone, gSb, cLenV, cChain, cAnd, cOr, cNot, asB, tAnd, tOr, tNot, cIf, DL.ret, finF, ioOf, RF.to, RF.io, Sl.mut, Sl.put, Sl.data, Sl.dat, D.bool, D.addE, D.add, D.sub, D.mul, D.div, D.mod, D.pow, D.lt, D.ltE, D.le, D.gt, D.ge, D.neg, opLen, opInt, opAbs, opTuple, opList, opStr, opRepr, opAny, opAll, opSum, cFn, cFnIO, cMeth, cNew, cFld, m_need_calendar, b_need_calendar, ic_cop, mo_cop]
end Wk29

end
section
namespace Wk29
open PySem DL CAL
/-! the made ones, as the law tells them -/
def shD : D := .tup [.int 31, .int 28, .int 31, .int 30, .int 31, .int 30, .int 31, .int 31, .int 30, .int 31, .int 30, .int 31]
def loD : D := .tup [.int 31, .int 29, .int 31, .int 30, .int 31, .int 30, .int 31, .int 31, .int 30, .int 31, .int 30, .int 31]
theorem nm_greg : m_u_law_named [.str "gregorian"] = .ok (.val gregC.d) none := by
  have lc : cLc [3] (cSpan D.span1 (aCons (cC (.int 400)) aNil)) (gNm 3) tTrue e_u_law_named_0 [.val (.str "gregorian"), .val shD, .val loD, .no] = .ok (.own (gregC.years.map nat)) [.val (.str "gregorian"), .val shD, .val loD, .no] := by
    rw [← greg_list2]
    refine lc_ok (ρ1 := [.val (.str "gregorian"), .val shD, .val loD, .no]) lpD (by simp [runV, runIO2, runIO, sRet, sSeq, sAsg, sSet, sPar, sIf, sNext, sDrop, thaw, frz, cOp, cVar, cMove, cC, cUn, cCall, cCallL, cTup, cLst, aNil, aCons, cIxV, slotD, gNm, gTp, gMore, gNone, gSb, cLenV, cChain, cAnd, cOr, cNot, asB, tAnd, tOr, tNot, cIf, DL.ret, finF, ioOf, RF.to, RF.io, Sl.mut, Sl.put, Sl.data, Sl.dat, D.bool, D.addE, D.add, D.sub, D.mul, D.div, D.mod, D.pow, D.lt, D.ltE, D.le, D.gt, D.ge, D.neg, opLen, opInt, opAbs, opTuple, opList, opStr, opRepr, opAny, opAll, opSum, cFn, cFnIO, cMeth, cNew, cFld, cSpan, D.span1]) rfl (fun d hd => ?_) (by rw [span_length]; exact size_ge (by decide))
    obtain ⟨k, hk, rfl⟩ := span_mem hd
    have z : ∀ j : Int, (0 < j % 100) = ¬ (j % 100 = 0) := fun j => by
      have := Int.emod_nonneg j (show (100 : Int) ≠ 0 by decide)
      apply propext
      omega
    unfold lpD leap
    by_cases h1 : (0 + (k : Int)) % 4 = 0 <;> by_cases h2 : (0 + (k : Int)) % 100 = 0 <;> by_cases h3 : (0 + (k : Int)) % 400 = 0 <;> simp [runV, runIO2, runIO, sRet, sSeq, sAsg, sSet, sPar, sIf, sNext, sDrop, thaw, frz, cOp, cVar, cMove, cC, cUn, cCall, cCallL, cTup, cLst, aNil, aCons, cIxV, slotD, gNm, gTp, gMore, gNone, gSb, cLenV, cChain, cAnd, cOr, cNot, asB, tAnd, tOr, tNot, cIf, DL.ret, finF, ioOf, RF.to, RF.io, Sl.mut, Sl.put, Sl.data, Sl.dat, D.bool, D.addE, D.add, D.sub, D.mul, D.div, D.mod, D.pow, D.lt, D.ltE, D.le, D.gt, D.ge, D.neg, opLen, opInt, opAbs, opTuple, opList, opStr, opRepr, opAny, opAll, opSum, cFn, cFnIO, cMeth, cNew, cFld, -Int.zero_add, e_u_law_named_0, h1, h2, h3, z]
  unfold shD loD at lc
  simp [runV, runIO2, runIO, sRet, sSeq, sAsg, sSet, sPar, sIf, sNext, sDrop, thaw, frz, cOp, cVar, cMove, cC, cUn, cCall, cCallL, cTup, cLst, aNil, aCons, cIxV, slotD, gNm, gTp, gMore, gNone, gSb, cLenV, cChain, cAnd, cOr, cNot, asB, tAnd, tOr, tNot, cIf, DL.ret, finF, ioOf, RF.to, RF.io, Sl.mut, Sl.put, Sl.data, Sl.dat, D.bool, D.addE, D.add, D.sub, D.mul, D.div, D.mod, D.pow, D.lt, D.ltE, D.le, D.gt, D.ge, D.neg, opLen, opInt, opAbs, opTuple, opList, opStr, opRepr, opAny, opAll, opSum, cFn, cFnIO, cMeth, cNew, cFld, m_u_law_named, b_u_law_named, lc]
  rfl
theorem nm_jul : m_u_law_named [.str "julian"] = .ok (.val julC.d) none := by
  simp [runV, runIO2, runIO, sRet, sSeq, sAsg, sSet, sPar, sIf, sNext, sDrop, thaw, frz, cOp, cVar, cMove, cC, cUn, cCall, cCallL, cTup, cLst, aNil, aCons, cIxV, slotD, gNm, gTp, gMore, gNone, gSb, cLenV, cChain, cAnd, cOr, cNot, asB, tAnd, tOr, tNot, cIf, DL.ret, finF, ioOf, RF.to, RF.io, Sl.mut, Sl.put, Sl.data, Sl.dat, D.bool, D.addE, D.add, D.sub, D.mul, D.div, D.mod, D.pow, D.lt, D.ltE, D.le, D.gt, D.ge, D.neg, opLen, opInt, opAbs, opTuple, opList, opStr, opRepr, opAny, opAll, opSum, cFn, cFnIO, cMeth, cNew, cFld, m_u_law_named, b_u_law_named]
  rfl
theorem nm_isl : m_u_law_named [.str "islamic"] = .ok (.val islC.d) none := by
  have lc : cLc [3] (cSpan D.span2 (aCons (cC (.int 1)) (aCons (cC (.int 31)) aNil))) (gNm 3) tTrue e_u_law_named_1 [.val (.str "islamic"), .val shD, .val loD, .no] = .ok (.own (islC.years.map nat)) [.val (.str "islamic"), .val shD, .val loD, .no] := by
    rw [← isl_list]
    refine lc_ok (ρ1 := [.val (.str "islamic"), .val shD, .val loD, .no]) lgD (by simp [runV, runIO2, runIO, sRet, sSeq, sAsg, sSet, sPar, sIf, sNext, sDrop, thaw, frz, cOp, cVar, cMove, cC, cUn, cCall, cCallL, cTup, cLst, aNil, aCons, cIxV, slotD, gNm, gTp, gMore, gNone, gSb, cLenV, cChain, cAnd, cOr, cNot, asB, tAnd, tOr, tNot, cIf, DL.ret, finF, ioOf, RF.to, RF.io, Sl.mut, Sl.put, Sl.data, Sl.dat, D.bool, D.addE, D.add, D.sub, D.mul, D.div, D.mod, D.pow, D.lt, D.ltE, D.le, D.gt, D.ge, D.neg, opLen, opInt, opAbs, opTuple, opList, opStr, opRepr, opAny, opAll, opSum, cFn, cFnIO, cMeth, cNew, cFld, cSpan, D.span2]) rfl (fun d hd => ?_) (by rw [span_length]; exact size_ge (by decide))
    obtain ⟨k, hk, rfl⟩ := span_mem hd
    have s11 : (11 : Nat) ≤ sizeLine := size_ge (by decide)
    simp [runV, runIO2, runIO, sRet, sSeq, sAsg, sSet, sPar, sIf, sNext, sDrop, thaw, frz, cOp, cVar, cMove, cC, cUn, cCall, cCallL, cTup, cLst, aNil, aCons, cIxV, slotD, gNm, gTp, gMore, gNone, gSb, cLenV, cChain, cAnd, cOr, cNot, asB, tAnd, tOr, tNot, cIf, DL.ret, finF, ioOf, RF.to, RF.io, Sl.mut, Sl.put, Sl.data, Sl.dat, D.bool, D.addE, D.add, D.sub, D.mul, D.div, D.mod, D.pow, D.lt, D.ltE, D.le, D.gt, D.ge, D.neg, opLen, opInt, opAbs, opTuple, opList, opStr, opRepr, opAny, opAll, opSum, cFn, cFnIO, cMeth, cNew, cFld, e_u_law_named_1, in_long, lgD, s11]
  unfold shD loD at lc
  have s11 : (11 : Nat) ≤ sizeLine := size_ge (by decide)
  simp [runV, runIO2, runIO, sRet, sSeq, sAsg, sSet, sPar, sIf, sNext, sDrop, thaw, frz, cOp, cVar, cMove, cC, cUn, cCall, cCallL, cTup, cLst, aNil, aCons, cIxV, slotD, gNm, gTp, gMore, gNone, gSb, cLenV, cChain, cAnd, cOr, cNot, asB, tAnd, tOr, tNot, cIf, DL.ret, finF, ioOf, RF.to, RF.io, Sl.mut, Sl.put, Sl.data, Sl.dat, D.bool, D.addE, D.add, D.sub, D.mul, D.div, D.mod, D.pow, D.lt, D.ltE, D.le, D.gt, D.ge, D.neg, opLen, opInt, opAbs, opTuple, opList, opStr, opRepr, opAny, opAll, opSum, cFn, cFnIO, cMeth, cNew, cFld, m_u_law_named, b_u_law_named, lc]
  rfl
theorem nm_cop : m_u_law_named [.str "coptic"] = .ok (.val copC.d) none := by
  have s13 : (13 : Nat) ≤ sizeLine := size_ge (by decide)
  simp [runV, runIO2, runIO, sRet, sSeq, sAsg, sSet, sPar, sIf, sNext, sDrop, thaw, frz, cOp, cVar, cMove, cC, cUn, cCall, cCallL, cTup, cLst, aNil, aCons, cIxV, slotD, gNm, gTp, gMore, gNone, gSb, cLenV, cChain, cAnd, cOr, cNot, asB, tAnd, tOr, tNot, cIf, DL.ret, finF, ioOf, RF.to, RF.io, Sl.mut, Sl.put, Sl.data, Sl.dat, D.bool, D.addE, D.add, D.sub, D.mul, D.div, D.mod, D.pow, D.lt, D.ltE, D.le, D.gt, D.ge, D.neg, opLen, opInt, opAbs, opTuple, opList, opStr, opRepr, opAny, opAll, opSum, cFn, cFnIO, cMeth, cNew, cFld, m_u_law_named, b_u_law_named, s13]
  rfl
theorem md_greg : m_u_law_made [.str "gregorian"] = .ok (.val gregC.d) none := by
  simp [runV, runIO2, runIO, sRet, sSeq, sAsg, sSet, sPar, sIf, sNext, sDrop, thaw, frz, cOp, cVar, cMove, cC, cUn, cCall, cCallL, cTup, cLst, aNil, aCons, cIxV, slotD, gNm, gTp, gMore, gNone, gSb, cLenV, cChain, cAnd, cOr, cNot, asB, tAnd, tOr, tNot, cIf, DL.ret, finF, ioOf, RF.to, RF.io, Sl.mut, Sl.put, Sl.data, Sl.dat, D.bool, D.addE, D.add, D.sub, D.mul, D.div, D.mod, D.pow, D.lt, D.ltE, D.le, D.gt, D.ge, D.neg, opLen, opInt, opAbs, opTuple, opList, opStr, opRepr, opAny, opAll, opSum, cFn, cFnIO, cMeth, cNew, cFld, m_u_law_made, b_u_law_made, cIs, Ty.ask, D.tyName, isB, nm_greg]
theorem md_jul : m_u_law_made [.str "julian"] = .ok (.val julC.d) none := by
  simp [runV, runIO2, runIO, sRet, sSeq, sAsg, sSet, sPar, sIf, sNext, sDrop, thaw, frz, cOp, cVar, cMove, cC, cUn, cCall, cCallL, cTup, cLst, aNil, aCons, cIxV, slotD, gNm, gTp, gMore, gNone, gSb, cLenV, cChain, cAnd, cOr, cNot, asB, tAnd, tOr, tNot, cIf, DL.ret, finF, ioOf, RF.to, RF.io, Sl.mut, Sl.put, Sl.data, Sl.dat, D.bool, D.addE, D.add, D.sub, D.mul, D.div, D.mod, D.pow, D.lt, D.ltE, D.le, D.gt, D.ge, D.neg, opLen, opInt, opAbs, opTuple, opList, opStr, opRepr, opAny, opAll, opSum, cFn, cFnIO, cMeth, cNew, cFld, m_u_law_made, b_u_law_made, cIs, Ty.ask, D.tyName, isB, nm_jul]
theorem md_isl : m_u_law_made [.str "islamic"] = .ok (.val islC.d) none := by
  simp [runV, runIO2, runIO, sRet, sSeq, sAsg, sSet, sPar, sIf, sNext, sDrop, thaw, frz, cOp, cVar, cMove, cC, cUn, cCall, cCallL, cTup, cLst, aNil, aCons, cIxV, slotD, gNm, gTp, gMore, gNone, gSb, cLenV, cChain, cAnd, cOr, cNot, asB, tAnd, tOr, tNot, cIf, DL.ret, finF, ioOf, RF.to, RF.io, Sl.mut, Sl.put, Sl.data, Sl.dat, D.bool, D.addE, D.add, D.sub, D.mul, D.div, D.mod, D.pow, D.lt, D.ltE, D.le, D.gt, D.ge, D.neg, opLen, opInt, opAbs, opTuple, opList, opStr, opRepr, opAny, opAll, opSum, cFn, cFnIO, cMeth, cNew, cFld, m_u_law_made, b_u_law_made, cIs, Ty.ask, D.tyName, isB, nm_isl]
theorem md_cop : m_u_law_made [.str "coptic"] = .ok (.val copC.d) none := by
  simp [runV, runIO2, runIO, sRet, sSeq, sAsg, sSet, sPar, sIf, sNext, sDrop, thaw, frz, cOp, cVar, cMove, cC, cUn, cCall, cCallL, cTup, cLst, aNil, aCons, cIxV, slotD, gNm, gTp, gMore, gNone, gSb, cLenV, cChain, cAnd, cOr, cNot, asB, tAnd, tOr, tNot, cIf, DL.ret, finF, ioOf, RF.to, RF.io, Sl.mut, Sl.put, Sl.data, Sl.dat, D.bool, D.addE, D.add, D.sub, D.mul, D.div, D.mod, D.pow, D.lt, D.ltE, D.le, D.gt, D.ge, D.neg, opLen, opInt, opAbs, opTuple, opList, opStr, opRepr, opAny, opAll, opSum, cFn, cFnIO, cMeth, cNew, cFld, m_u_law_made, b_u_law_made, cIs, Ty.ask, D.tyName, isB, nm_cop]
theorem md_made (c : Mcal) : m_u_law_made [c.d] = .ok (.val c.d) none := by
  unfold Mcal.d
  simp [runV, runIO2, runIO, sRet, sSeq, sAsg, sSet, sPar, sIf, sNext, sDrop, thaw, frz, cOp, cVar, cMove, cC, cUn, cCall, cCallL, cTup, cLst, aNil, aCons, cIxV, slotD, gNm, gTp, gMore, gNone, gSb, cLenV, cChain, cAnd, cOr, cNot, asB, tAnd, tOr, tNot, cIf, DL.ret, finF, ioOf, RF.to, RF.io, Sl.mut, Sl.put, Sl.data, Sl.dat, D.bool, D.addE, D.add, D.sub, D.mul, D.div, D.mod, D.pow, D.lt, D.ltE, D.le, D.gt, D.ge, D.neg, opLen, opInt, opAbs, opTuple, opList, opStr, opRepr, opAny, opAll, opSum, cFn, cFnIO, cMeth, cNew, cFld, m_u_law_made, b_u_law_made, cIs, Ty.ask, D.tyName, isB]
end Wk29

end
section
namespace Wk29
open PySem DL CAL
/-! the years' months and begins of the four named calendars -/
theorem getD_map {α : Type} (f : Nat → α) (d : α) {n i : Nat} (h : i < n) : ((List.range n).map f).getD i d = f i := by
  rw [getD_lt _ _ (by simpa [runV, runIO2, runIO, sRet, sSeq, sAsg, sSet, sPar, sIf, sNext, sDrop, thaw, frz, cOp, cVar, cMove, cC, cUn, cCall, cCallL, cTup, cLst, aNil, aCons, cIxV, slotD, gNm, gTp, gMore, gNone, gSb, cLenV, cChain, cAnd, cOr, cNot, asB, tAnd, tOr, tNot, cIf, DL.ret, finF, ioOf, RF.to, RF.io, Sl.mut, Sl.put, Sl.data, Sl.dat, D.bool, D.addE, D.add, D.sub, D.mul, D.div, D.mod, D.pow, D.lt, D.ltE, D.le, D.gt, D.ge, D.neg, opLen, opInt, opAbs, opTuple, opList, opStr, opRepr, opAny, opAll, opSum, cFn, cFnIO, cMeth, cNew, cFld] using h)]
  simp [runV, runIO2, runIO, sRet, sSeq, sAsg, sSet, sPar, sIf, sNext, sDrop, thaw, frz, cOp, cVar, cMove, cC, cUn, cCall, cCallL, cTup, cLst, aNil, aCons, cIxV, slotD, gNm, gTp, gMore, gNone, gSb, cLenV, cChain, cAnd, cOr, cNot, asB, tAnd, tOr, tNot, cIf, DL.ret, finF, ioOf, RF.to, RF.io, Sl.mut, Sl.put, Sl.data, Sl.dat, D.bool, D.addE, D.add, D.sub, D.mul, D.div, D.mod, D.pow, D.lt, D.ltE, D.le, D.gt, D.ge, D.neg, opLen, opInt, opAbs, opTuple, opList, opStr, opRepr, opAny, opAll, opSum, cFn, cFnIO, cMeth, cNew, cFld]
theorem mon_of (c : Mcal) (h : c.Ok) (y : Int) : c.cal.mon y = c.kinds.getD (c.years.getD (c.cal.at_ y) 0) [] := by
  have a := at_lt h.cal y
  have a2 : c.cal.at_ y < c.years.length := by rw [← h.cl]; exact a
  unfold Cal.mon
  rw [getD_lt _ _ a, getD_lt _ _ a2]
  exact List.getElem_map _
theorem leap_mod (y : Int) : leap (2000 + (y - 2000) % 400) = leap y := by
  unfold leap
  have e1 : (2000 + (y - 2000) % 400) % 4 = y % 4 := by omega
  have e2 : (2000 + (y - 2000) % 400) % 100 = y % 100 := by omega
  have e3 : (2000 + (y - 2000) % 400) % 400 = y % 400 := by omega
  rw [e1, e2, e3]
theorem at_greg (y : Int) : (gregC.cal.at_ y : Int) = (y - 2000) % 400 ∧ gregC.cal.at_ y < 400 := by
  have e := at_int greg_ok.cal y
  rw [greg_ok.L] at e
  have l : gregC.years.length = 400 := by simp [runV, runIO2, runIO, sRet, sSeq, sAsg, sSet, sPar, sIf, sNext, sDrop, thaw, frz, cOp, cVar, cMove, cC, cUn, cCall, cCallL, cTup, cLst, aNil, aCons, cIxV, slotD, gNm, gTp, gMore, gNone, gSb, cLenV, cChain, cAnd, cOr, cNot, asB, tAnd, tOr, tNot, cIf, DL.ret, finF, ioOf, RF.to, RF.io, Sl.mut, Sl.put, Sl.data, Sl.dat, D.bool, D.addE, D.add, D.sub, D.mul, D.div, D.mod, D.pow, D.lt, D.ltE, D.le, D.gt, D.ge, D.neg, opLen, opInt, opAbs, opTuple, opList, opStr, opRepr, opAny, opAll, opSum, cFn, cFnIO, cMeth, cNew, cFld, gregC]
  rw [l] at e
  have b : gregC.cal.base = 2000 := rfl
  rw [b] at e
  have a := at_lt greg_ok.cal y
  rw [greg_ok.cl, l] at a
  exact ⟨e, a⟩
theorem mon_greg (y : Int) : gregC.cal.mon y = if leap y then leapM else common := by
  obtain ⟨e, a⟩ := at_greg y
  rw [mon_of gregC greg_ok]
  have g : gregC.years.getD (gregC.cal.at_ y) 0 = if leap (2000 + ((gregC.cal.at_ y : Nat) : Int)) then 1 else 0 := getD_map (fun k : Nat => if leap (2000 + (k : Int)) then 1 else 0) 0 a
  rw [g, e, leap_mod]
  cases leap y <;> rfl
theorem at_jul (y : Int) : (julC.cal.at_ y : Int) = (y - 2000) % 4 := by
  have e := at_int jul_ok.cal y
  rw [jul_ok.L] at e
  exact e
theorem mon_jul (y : Int) : julC.cal.mon y = if y % 4 = 0 then leapM else common := by
  have e := at_jul y
  rw [mon_of julC jul_ok]
  have q : julC.cal.at_ y = 0 ∨ julC.cal.at_ y = 1 ∨ julC.cal.at_ y = 2 ∨ julC.cal.at_ y = 3 := by omega
  rcases q with q | q | q | q
  · rw [if_pos (by omega), q]; rfl
  · rw [if_neg (by omega), q]; rfl
  · rw [if_neg (by omega), q]; rfl
  · rw [if_neg (by omega), q]; rfl
theorem at_cop (y : Int) : (copC.cal.at_ y : Int) = (y - 1) % 4 := by
  have e := at_int cop_ok.cal y
  rw [cop_ok.L] at e
  exact e
theorem mon_cop (y : Int) : copC.cal.mon y = if y % 4 = 3 then cop6 else cop5 := by
  have e := at_cop y
  rw [mon_of copC cop_ok]
  have q : copC.cal.at_ y = 0 ∨ copC.cal.at_ y = 1 ∨ copC.cal.at_ y = 2 ∨ copC.cal.at_ y = 3 := by omega
  rcases q with q | q | q | q
  · rw [if_neg (by omega), q]; rfl
  · rw [if_neg (by omega), q]; rfl
  · rw [if_pos (by omega), q]; rfl
  · rw [if_neg (by omega), q]; rfl
theorem at_isl (y : Int) : (islC.cal.at_ y : Int) = (y - 1) % 30 ∧ islC.cal.at_ y < 30 := by
  have e := at_int isl_ok.cal y
  rw [isl_ok.L] at e
  have l : islC.years.length = 30 := by simp [runV, runIO2, runIO, sRet, sSeq, sAsg, sSet, sPar, sIf, sNext, sDrop, thaw, frz, cOp, cVar, cMove, cC, cUn, cCall, cCallL, cTup, cLst, aNil, aCons, cIxV, slotD, gNm, gTp, gMore, gNone, gSb, cLenV, cChain, cAnd, cOr, cNot, asB, tAnd, tOr, tNot, cIf, DL.ret, finF, ioOf, RF.to, RF.io, Sl.mut, Sl.put, Sl.data, Sl.dat, D.bool, D.addE, D.add, D.sub, D.mul, D.div, D.mod, D.pow, D.lt, D.ltE, D.le, D.gt, D.ge, D.neg, opLen, opInt, opAbs, opTuple, opList, opStr, opRepr, opAny, opAll, opSum, cFn, cFnIO, cMeth, cNew, cFld, islC]
  rw [l] at e
  have b : islC.cal.base = 1 := rfl
  rw [b] at e
  have a := at_lt isl_ok.cal y
  rw [isl_ok.cl, l] at a
  exact ⟨e, a⟩
theorem isl_res : ∀ k : Nat, k < 30 → (((k : Int) + 1) ∈ longY ↔ (11 * ((k : Int) + 2) + 3) / 30 - (11 * ((k : Int) + 1) + 3) / 30 = 1) ∧ (((k : Int) + 1) ∉ longY ↔ (11 * ((k : Int) + 2) + 3) / 30 - (11 * ((k : Int) + 1) + 3) / 30 = 0) := by decide
theorem mon_isl (y : Int) : islC.cal.mon y = if (11 * (y + 1) + 3) / 30 - (11 * y + 3) / 30 = 1 then longerM else plainM := by
  obtain ⟨e, a⟩ := at_isl y
  rw [mon_of islC isl_ok]
  have g : islC.years.getD (islC.cal.at_ y) 0 = if ((islC.cal.at_ y : Nat) : Int) + 1 ∈ longY then 1 else 0 := getD_map (fun k : Nat => if ((k : Int) + 1) ∈ longY then 1 else 0) 0 a
  rw [g]
  have r := isl_res _ a
  generalize islC.cal.at_ y = k at *
  have d1 : (11 * (y + 1) + 3) / 30 - (11 * y + 3) / 30 = (11 * ((k : Int) + 2) + 3) / 30 - (11 * ((k : Int) + 1) + 3) / 30 := by
    have hy : y = 30 * ((y - 1) / 30) + ((k : Int) + 1) := by omega
    clear r g e
    generalize (y - 1) / 30 = q at hy
    subst hy
    have A : 11 * (30 * q + ((k : Int) + 1) + 1) + 3 = (11 * ((k : Int) + 2) + 3) + 30 * (11 * q) := by omega
    have B : 11 * (30 * q + ((k : Int) + 1)) + 3 = (11 * ((k : Int) + 1) + 3) + 30 * (11 * q) := by omega
    rw [A, B, Int.add_mul_ediv_left _ _ (by decide), Int.add_mul_ediv_left _ _ (by decide)]
    omega
  rw [d1]
  by_cases q : ((k : Int) + 1) ∈ longY
  · rw [if_pos q, if_pos (r.1.mp q)]; rfl
  · have z := r.2.mp q
    rw [if_neg q, if_neg (by omega)]; rfl
theorem isl_step (y : Int) : (11 * (y + 1) + 3) / 30 - (11 * y + 3) / 30 = 1 ∨ (11 * (y + 1) + 3) / 30 - (11 * y + 3) / 30 = 0 := by omega
/-- begins -/
def first (y : Int) : Int := 365 * (y - 1) + (y - 1) / 4 - (y - 1) / 100 + (y - 1) / 400 - 730119
theorem start_greg (y : Int) : gregC.cal.start y = first y := by
  refine start_eq greg_ok.cal first (by decide) (fun y => ?_) y
  rw [mon_greg]
  have s1 : leapM.sum = 366 := by decide
  have s2 : common.sum = 365 := by decide
  unfold first leap
  by_cases h1 : y % 4 = 0 <;> by_cases h2 : y % 100 = 0 <;> by_cases h3 : y % 400 = 0 <;> simp [runV, runIO2, runIO, sRet, sSeq, sAsg, sSet, sPar, sIf, sNext, sDrop, thaw, frz, cOp, cVar, cMove, cC, cUn, cCall, cCallL, cTup, cLst, aNil, aCons, cIxV, slotD, gNm, gTp, gMore, gNone, gSb, cLenV, cChain, cAnd, cOr, cNot, asB, tAnd, tOr, tNot, cIf, DL.ret, finF, ioOf, RF.to, RF.io, Sl.mut, Sl.put, Sl.data, Sl.dat, D.bool, D.addE, D.add, D.sub, D.mul, D.div, D.mod, D.pow, D.lt, D.ltE, D.le, D.gt, D.ge, D.neg, opLen, opInt, opAbs, opTuple, opList, opStr, opRepr, opAny, opAll, opSum, cFn, cFnIO, cMeth, cNew, cFld, h1, h2, h3, s1, s2] <;> omega
theorem start_jul (y : Int) : julC.cal.start y = 365 * (y - 1) + (y - 1) / 4 - 730121 := by
  refine start_eq jul_ok.cal (fun y => 365 * (y - 1) + (y - 1) / 4 - 730121) (by decide) (fun y => ?_) y
  rw [mon_jul]
  have s1 : leapM.sum = 366 := by decide
  have s2 : common.sum = 365 := by decide
  split <;> omega
theorem start_cop (y : Int) : copC.cal.start y = -626515 + 365 * (y - 1) + y / 4 := by
  refine start_eq cop_ok.cal (fun y => -626515 + 365 * (y - 1) + y / 4) (by decide) (fun y => ?_) y
  rw [mon_cop]
  have s1 : cop6.sum = 366 := by decide
  have s2 : cop5.sum = 365 := by decide
  split <;> omega
theorem start_isl (y : Int) : islC.cal.start y = -503105 + 354 * (y - 1) + (11 * y + 3) / 30 := by
  refine start_eq isl_ok.cal (fun y => -503105 + 354 * (y - 1) + (11 * y + 3) / 30) (by decide) (fun y => ?_) y
  rw [mon_isl]
  have s1 : longerM.sum = 355 := by decide
  have s2 : plainM.sum = 354 := by decide
  have z := isl_step y
  split <;> omega
end Wk29

end
section
namespace Wk29
open PySem DL CAL
theorem first_step (y : Int) : first (y + 1) = first y + (if leap y then 366 else 365) := by
  unfold first leap
  by_cases h1 : y % 4 = 0 <;> by_cases h2 : y % 100 = 0 <;> by_cases h3 : y % 400 = 0 <;> simp [runV, runIO2, runIO, sRet, sSeq, sAsg, sSet, sPar, sIf, sNext, sDrop, thaw, frz, cOp, cVar, cMove, cC, cUn, cCall, cCallL, cTup, cLst, aNil, aCons, cIxV, slotD, gNm, gTp, gMore, gNone, gSb, cLenV, cChain, cAnd, cOr, cNot, asB, tAnd, tOr, tNot, cIf, DL.ret, finF, ioOf, RF.to, RF.io, Sl.mut, Sl.put, Sl.data, Sl.dat, D.bool, D.addE, D.add, D.sub, D.mul, D.div, D.mod, D.pow, D.lt, D.ltE, D.le, D.gt, D.ge, D.neg, opLen, opInt, opAbs, opTuple, opList, opStr, opRepr, opAny, opAll, opSum, cFn, cFnIO, cMeth, cNew, cFld, h1, h2, h3] <;> omega
theorem tk_common : ∀ m : Nat, m < 12 → (common.take m).sum = if m < 2 then 31 * (m : Int) else (153 * ((m : Int) - 2) + 2) / 5 + 59 := by decide
theorem tk_leap : ∀ m : Nat, m < 12 → (leapM.take m).sum = if m < 2 then 31 * (m : Int) else (153 * ((m : Int) - 2) + 2) / 5 + 60 := by decide
theorem tk_plain : ∀ m : Nat, m < 12 → (plainM.take m).sum = 29 * (m : Int) + ((m : Int) + 1) / 2 := by decide
theorem tk_longer : ∀ m : Nat, m < 12 → (longerM.take m).sum = 29 * (m : Int) + ((m : Int) + 1) / 2 := by decide
theorem tk_cop5 : ∀ m : Nat, m < 13 → (cop5.take m).sum = 30 * (m : Int) := by decide
theorem tk_cop6 : ∀ m : Nat, m < 13 → (cop6.take m).sum = 30 * (m : Int) := by decide
theorem cv_early (m : Nat) (h : m < 2) : (153 * ((m : Int) + 1 - 3 + 12 * 1) + 2) / 5 = 306 + 31 * (m : Int) := by omega
theorem mir_cop (y : Int) (m : Nat) (d : Int) : m_u_law_civil [.str "coptic", dateD y m d] = .ok (.val (.int (-626515 + 365 * (y - 1) + y / 4 + 30 * ((m : Int) + 1 - 1) + d - 1))) none := by
  simp [runV, runIO2, runIO, sRet, sSeq, sAsg, sSet, sPar, sIf, sNext, sDrop, thaw, frz, cOp, cVar, cMove, cC, cUn, cCall, cCallL, cTup, cLst, aNil, aCons, cIxV, slotD, gNm, gTp, gMore, gNone, gSb, cLenV, cChain, cAnd, cOr, cNot, asB, tAnd, tOr, tNot, cIf, DL.ret, finF, ioOf, RF.to, RF.io, Sl.mut, Sl.put, Sl.data, Sl.dat, D.bool, D.addE, D.add, D.sub, D.mul, D.div, D.mod, D.pow, D.lt, D.ltE, D.le, D.gt, D.ge, D.neg, opLen, opInt, opAbs, opTuple, opList, opStr, opRepr, opAny, opAll, opSum, cFn, cFnIO, cMeth, cNew, cFld, m_u_law_civil, b_u_law_civil, dateD]
theorem mir_isl (y : Int) (m : Nat) (d : Int) : m_u_law_civil [.str "islamic", dateD y m d] = .ok (.val (.int (-503105 + 354 * (y - 1) + (11 * y + 3) / 30 + 29 * ((m : Int) + 1 - 1) + ((m : Int) + 1) / 2 + d - 1))) none := by
  simp [runV, runIO2, runIO, sRet, sSeq, sAsg, sSet, sPar, sIf, sNext, sDrop, thaw, frz, cOp, cVar, cMove, cC, cUn, cCall, cCallL, cTup, cLst, aNil, aCons, cIxV, slotD, gNm, gTp, gMore, gNone, gSb, cLenV, cChain, cAnd, cOr, cNot, asB, tAnd, tOr, tNot, cIf, DL.ret, finF, ioOf, RF.to, RF.io, Sl.mut, Sl.put, Sl.data, Sl.dat, D.bool, D.addE, D.add, D.sub, D.mul, D.div, D.mod, D.pow, D.lt, D.ltE, D.le, D.gt, D.ge, D.neg, opLen, opInt, opAbs, opTuple, opList, opStr, opRepr, opAny, opAll, opSum, cFn, cFnIO, cMeth, cNew, cFld, m_u_law_civil, b_u_law_civil, dateD]
theorem mir_greg (y : Int) (m : Nat) (d b : Int) (hb : b = if (m : Int) + 1 < 3 then 1 else 0) : m_u_law_civil [.str "gregorian", dateD y m d] = .ok (.val (.int (365 * (y - b) + (y - b) / 4 + (153 * ((m : Int) + 1 - 3 + 12 * b) + 2) / 5 + d - 1 - (y - b) / 100 + (y - b) / 400 - 730425))) none := by
  by_cases q : (m : Int) + 1 < 3
  · rw [if_pos q] at hb
    subst hb
    simp [runV, runIO2, runIO, sRet, sSeq, sAsg, sSet, sPar, sIf, sNext, sDrop, thaw, frz, cOp, cVar, cMove, cC, cUn, cCall, cCallL, cTup, cLst, aNil, aCons, cIxV, slotD, gNm, gTp, gMore, gNone, gSb, cLenV, cChain, cAnd, cOr, cNot, asB, tAnd, tOr, tNot, cIf, DL.ret, finF, ioOf, RF.to, RF.io, Sl.mut, Sl.put, Sl.data, Sl.dat, D.bool, D.addE, D.add, D.sub, D.mul, D.div, D.mod, D.pow, D.lt, D.ltE, D.le, D.gt, D.ge, D.neg, opLen, opInt, opAbs, opTuple, opList, opStr, opRepr, opAny, opAll, opSum, cFn, cFnIO, cMeth, cNew, cFld, m_u_law_civil, b_u_law_civil, dateD, q]
  · rw [if_neg q] at hb
    subst hb
    simp [runV, runIO2, runIO, sRet, sSeq, sAsg, sSet, sPar, sIf, sNext, sDrop, thaw, frz, cOp, cVar, cMove, cC, cUn, cCall, cCallL, cTup, cLst, aNil, aCons, cIxV, slotD, gNm, gTp, gMore, gNone, gSb, cLenV, cChain, cAnd, cOr, cNot, asB, tAnd, tOr, tNot, cIf, DL.ret, finF, ioOf, RF.to, RF.io, Sl.mut, Sl.put, Sl.data, Sl.dat, D.bool, D.addE, D.add, D.sub, D.mul, D.div, D.mod, D.pow, D.lt, D.ltE, D.le, D.gt, D.ge, D.neg, opLen, opInt, opAbs, opTuple, opList, opStr, opRepr, opAny, opAll, opSum, cFn, cFnIO, cMeth, cNew, cFld, m_u_law_civil, b_u_law_civil, dateD, q]
theorem mir_jul (y : Int) (m : Nat) (d b : Int) (hb : b = if (m : Int) + 1 < 3 then 1 else 0) : m_u_law_civil [.str "julian", dateD y m d] = .ok (.val (.int (365 * (y - b) + (y - b) / 4 + (153 * ((m : Int) + 1 - 3 + 12 * b) + 2) / 5 + d - 1 - 730427))) none := by
  by_cases q : (m : Int) + 1 < 3
  · rw [if_pos q] at hb
    subst hb
    simp [runV, runIO2, runIO, sRet, sSeq, sAsg, sSet, sPar, sIf, sNext, sDrop, thaw, frz, cOp, cVar, cMove, cC, cUn, cCall, cCallL, cTup, cLst, aNil, aCons, cIxV, slotD, gNm, gTp, gMore, gNone, gSb, cLenV, cChain, cAnd, cOr, cNot, asB, tAnd, tOr, tNot, cIf, DL.ret, finF, ioOf, RF.to, RF.io, Sl.mut, Sl.put, Sl.data, Sl.dat, D.bool, D.addE, D.add, D.sub, D.mul, D.div, D.mod, D.pow, D.lt, D.ltE, D.le, D.gt, D.ge, D.neg, opLen, opInt, opAbs, opTuple, opList, opStr, opRepr, opAny, opAll, opSum, cFn, cFnIO, cMeth, cNew, cFld, m_u_law_civil, b_u_law_civil, dateD, q]
  · rw [if_neg q] at hb
    subst hb
    simp [runV, runIO2, runIO, sRet, sSeq, sAsg, sSet, sPar, sIf, sNext, sDrop, thaw, frz, cOp, cVar, cMove, cC, cUn, cCall, cCallL, cTup, cLst, aNil, aCons, cIxV, slotD, gNm, gTp, gMore, gNone, gSb, cLenV, cChain, cAnd, cOr, cNot, asB, tAnd, tOr, tNot, cIf, DL.ret, finF, ioOf, RF.to, RF.io, Sl.mut, Sl.put, Sl.data, Sl.dat, D.bool, D.addE, D.add, D.sub, D.mul, D.div, D.mod, D.pow, D.lt, D.ltE, D.le, D.gt, D.ge, D.neg, opLen, opInt, opAbs, opTuple, opList, opStr, opRepr, opAny, opAll, opSum, cFn, cFnIO, cMeth, cNew, cFld, m_u_law_civil, b_u_law_civil, dateD, q]
theorem cv_cop {day y d : Int} {m : Nat} (i : IsD copC.cal day y m d) : m_u_law_civil [.str "coptic", dateD y m d] = .ok (.val (.int day)) none := by
  rw [mir_cop]
  have st := start_cop y
  have e := i.e
  have m1 := i.m1
  rw [mon_cop] at e m1
  have fin : -626515 + 365 * (y - 1) + y / 4 + 30 * ((m : Int) + 1 - 1) + d - 1 = day := by
    split at e
    · rw [if_pos (by assumption)] at m1
      rw [tk_cop6 m m1] at e
      omega
    · rw [if_neg (by assumption)] at m1
      rw [tk_cop5 m m1] at e
      omega
  rw [fin]
theorem cv_isl {day y d : Int} {m : Nat} (i : IsD islC.cal day y m d) : m_u_law_civil [.str "islamic", dateD y m d] = .ok (.val (.int day)) none := by
  rw [mir_isl]
  have st := start_isl y
  have e := i.e
  have m1 := i.m1
  rw [mon_isl] at e m1
  have fin : -503105 + 354 * (y - 1) + (11 * y + 3) / 30 + 29 * ((m : Int) + 1 - 1) + ((m : Int) + 1) / 2 + d - 1 = day := by
    split at e
    · rw [if_pos (by assumption)] at m1
      rw [tk_longer m m1] at e
      omega
    · rw [if_neg (by assumption)] at m1
      rw [tk_plain m m1] at e
      omega
  rw [fin]
theorem cv_jul {day y d : Int} {m : Nat} (i : IsD julC.cal day y m d) : m_u_law_civil [.str "julian", dateD y m d] = .ok (.val (.int day)) none := by
  rw [mir_jul y m d _ rfl]
  have st := start_jul y
  have e := i.e
  have m1 := i.m1
  rw [mon_jul] at e m1
  by_cases q : m < 2
  · have q' : (m : Int) + 1 < 3 := by omega
    have ce := cv_early m q
    rw [if_pos q', ce]
    have fin : 365 * (y - 1) + (y - 1) / 4 + (306 + 31 * (m : Int)) + d - 1 - 730427 = day := by
      split at e
      · rw [if_pos (by assumption)] at m1
        rw [tk_leap m m1, if_pos q] at e
        omega
      · rw [if_neg (by assumption)] at m1
        rw [tk_common m m1, if_pos q] at e
        omega
    rw [fin]
  · have q' : ¬ (m : Int) + 1 < 3 := by omega
    rw [if_neg q']
    have z : (153 * ((m : Int) + 1 - 3 + 12 * 0) + 2) / 5 = (153 * ((m : Int) - 2) + 2) / 5 := by
      rw [show (m : Int) + 1 - 3 + 12 * 0 = (m : Int) - 2 by omega]
    rw [z, Int.sub_zero]
    have fin : 365 * y + y / 4 + (153 * ((m : Int) - 2) + 2) / 5 + d - 1 - 730427 = day := by
      split at e
      · rw [if_pos (by assumption)] at m1
        rw [tk_leap m m1, if_neg q] at e
        omega
      · rw [if_neg (by assumption)] at m1
        rw [tk_common m m1, if_neg q] at e
        omega
    rw [fin]
theorem cv_greg {day y d : Int} {m : Nat} (i : IsD gregC.cal day y m d) : m_u_law_civil [.str "gregorian", dateD y m d] = .ok (.val (.int day)) none := by
  rw [mir_greg y m d _ rfl]
  have st := start_greg y
  have fs := first_step y
  have e := i.e
  have m1 := i.m1
  rw [mon_greg] at e m1
  unfold first at st fs
  rw [show y + 1 - 1 = y by omega] at fs
  by_cases q : m < 2
  · have q' : (m : Int) + 1 < 3 := by omega
    have ce := cv_early m q
    rw [if_pos q', ce]
    have fin : 365 * (y - 1) + (y - 1) / 4 + (306 + 31 * (m : Int)) + d - 1 - (y - 1) / 100 + (y - 1) / 400 - 730425 = day := by
      cases l : leap y
      · rw [l] at e m1
        rw [if_neg (by decide)] at e m1
        rw [tk_common m m1, if_pos q] at e
        omega
      · rw [l] at e m1
        rw [if_pos rfl] at e m1
        rw [tk_leap m m1, if_pos q] at e
        omega
    rw [fin]
  · have q' : ¬ (m : Int) + 1 < 3 := by omega
    rw [if_neg q']
    have z : (153 * ((m : Int) + 1 - 3 + 12 * 0) + 2) / 5 = (153 * ((m : Int) - 2) + 2) / 5 := by
      rw [show (m : Int) + 1 - 3 + 12 * 0 = (m : Int) - 2 by omega]
    rw [z, Int.sub_zero]
    generalize (153 * ((m : Int) - 2) + 2) / 5 = mp at *
    have fin : 365 * y + y / 4 + mp + d - 1 - y / 100 + y / 400 - 730425 = day := by
      cases l : leap y
      · rw [l] at e m1 fs
        rw [if_neg (by decide)] at e m1 fs
        have t := tk_common m m1
        rw [if_neg q] at t
        omega
      · rw [l] at e m1 fs
        rw [if_pos rfl] at e m1 fs
        have t := tk_leap m m1
        rw [if_neg q] at t
        omega
    rw [fin]
end Wk29

end
section
namespace Wk29
open PySem DL
def seedL (ns : List Int) (t r : Int) : List D := [.tup (ns.map D.int), .int t, .int r]
theorem ev_seed (ns : List Int) : m_u_law_seed [.scr ns] = .ok (.own (seedL ns 0 0)) none := by
  simp [runV, runIO2, runIO, sRet, sSeq, sAsg, sSet, sPar, sIf, sNext, sDrop, thaw, frz, cOp, cVar, cMove, cC, cUn, cCall, cCallL, cTup, cLst, aNil, aCons, cIxV, slotD, gNm, gTp, gMore, gNone, gSb, cLenV, cChain, cAnd, cOr, cNot, asB, tAnd, tOr, tNot, cIf, DL.ret, finF, ioOf, RF.to, RF.io, Sl.mut, Sl.put, Sl.data, Sl.dat, D.bool, D.addE, D.add, D.sub, D.mul, D.div, D.mod, D.pow, D.lt, D.ltE, D.le, D.gt, D.ge, D.neg, opLen, opInt, opAbs, opTuple, opList, opStr, opRepr, opAny, opAll, opSum, cFn, cFnIO, cMeth, cNew, cFld, m_u_law_seed, b_u_law_seed, seedL]
@[simp] theorem sx0 (ns : List Int) (t r : Int) : D.ixI (.lst (seedL ns t r)) (.int 0) = some (.tup (ns.map D.int)) := rfl
@[simp] theorem sx1 (ns : List Int) (t r : Int) : D.ixI (.lst (seedL ns t r)) (.int 1) = some (.int t) := rfl
@[simp] theorem sx2 (ns : List Int) (t r : Int) : D.ixI (.lst (seedL ns t r)) (.int 2) = some (.int r) := rfl
@[simp] theorem sp1 (ns : List Int) (t r u : Int) : DL.putAt (seedL ns t r) 1 (.int u) = some (seedL ns u r) := rfl
@[simp] theorem sp2 (ns : List Int) (t r u : Int) : DL.putAt (seedL ns t r) 2 (.int u) = some (seedL ns t u) := rfl
/-- small, or there is nothing to draw -/
theorem any_0 (ns : List Int) (t r many : Int) (h : many < 2) : m_u_law_any (seedL ns t r) [.int many] = .ok (.val (.int 0)) (some (seedL ns t r)) := by
  simp [runV, runIO2, runIO, sRet, sSeq, sAsg, sSet, sPar, sIf, sNext, sDrop, thaw, frz, cOp, cVar, cMove, cC, cUn, cCall, cCallL, cTup, cLst, aNil, aCons, cIxV, slotD, gNm, gTp, gMore, gNone, gSb, cLenV, cChain, cAnd, cOr, cNot, asB, tAnd, tOr, tNot, cIf, DL.ret, finF, ioOf, RF.to, RF.io, Sl.mut, Sl.put, Sl.data, Sl.dat, D.bool, D.addE, D.add, D.sub, D.mul, D.div, D.mod, D.pow, D.lt, D.ltE, D.le, D.gt, D.ge, D.neg, opLen, opInt, opAbs, opTuple, opList, opStr, opRepr, opAny, opAll, opSum, cFn, cFnIO, cMeth, cNew, cFld, m_u_law_any, b_u_law_any, h]
theorem any_rest (ns : List Int) (t r many : Int) (h : ¬ many < 2) (hm : many < 2 ^ 62) (hr : r > 0) : m_u_law_any (seedL ns t r) [.int many] = .ok (.val (.int (r % many))) (some (seedL ns t (r / many))) := by
  have h0 : 0 < many := by omega
  have d1 := divOk_of h0 hm
  simp [runV, runIO2, runIO, sRet, sSeq, sAsg, sSet, sPar, sIf, sNext, sDrop, thaw, frz, cOp, cVar, cMove, cC, cUn, cCall, cCallL, cTup, cLst, aNil, aCons, cIxV, slotD, gNm, gTp, gMore, gNone, gSb, cLenV, cChain, cAnd, cOr, cNot, asB, tAnd, tOr, tNot, cIf, DL.ret, finF, ioOf, RF.to, RF.io, Sl.mut, Sl.put, Sl.data, Sl.dat, D.bool, D.addE, D.add, D.sub, D.mul, D.div, D.mod, D.pow, D.lt, D.ltE, D.le, D.gt, D.ge, D.neg, opLen, opInt, opAbs, opTuple, opList, opStr, opRepr, opAny, opAll, opSum, cFn, cFnIO, cMeth, cNew, cFld, m_u_law_any, b_u_law_any, h, h0, d1, hr]
def cellM : M Sl := cIf (asB (cOp D.gt (cCall opLen (aCons (cIxV 0 (cC (.int 0))) aNil)) (cC (.int 0)))) (thaw (cOp D.ixI (cIxV 0 (cC (.int 0))) (cOp D.mod (cCall opInt (aCons (cOp D.sub (cVar 3) (cC (.int 1))) aNil)) (cCall opLen (aCons (cIxV 0 (cC (.int 0))) aNil))))) (thaw (cC (.int 0)))
theorem ix_ns (ns : List Int) {k : Int} (h0 : 0 ≤ k) (h1 : k < ns.length) : ∃ c : Int, D.ixI (.tup (ns.map D.int)) (.int k) = some (.int c) := by
  have hk : k.toNat < ns.length := by omega
  refine ⟨ns[k.toNat], ?_⟩
  show L2.atI (ns.map D.int) k = _
  unfold L2.atI L2.ixN
  rw [List.length_map, if_pos h0, if_pos h1, Option.bind_some, List.getElem?_map, List.getElem?_eq_getElem hk, Option.map_some]
theorem cell_ok (ns : List Int) (u r many : Int) : ∃ c : Int, cellM [.io (seedL ns u r), .val (.int many), .no, .val (.int u), .no, .no] = .ok (.val (.int c)) [.io (seedL ns u r), .val (.int many), .no, .val (.int u), .no, .no] := by
  by_cases hn : 0 < ns.length
  · have hl : (0 : Int) < ns.length := by omega
    obtain ⟨c, hc⟩ := ix_ns ns (k := (u - 1) % (ns.length : Int)) (Int.emod_nonneg _ (by omega)) (Int.emod_lt_of_pos _ hl)
    refine ⟨c, ?_⟩
    simp [runV, runIO2, runIO, sRet, sSeq, sAsg, sSet, sPar, sIf, sNext, sDrop, thaw, frz, cOp, cVar, cMove, cC, cUn, cCall, cCallL, cTup, cLst, aNil, aCons, cIxV, slotD, gNm, gTp, gMore, gNone, gSb, cLenV, cChain, cAnd, cOr, cNot, asB, tAnd, tOr, tNot, cIf, DL.ret, finF, ioOf, RF.to, RF.io, Sl.mut, Sl.put, Sl.data, Sl.dat, D.bool, D.addE, D.add, D.sub, D.mul, D.div, D.mod, D.pow, D.lt, D.ltE, D.le, D.gt, D.ge, D.neg, opLen, opInt, opAbs, opTuple, opList, opStr, opRepr, opAny, opAll, opSum, cFn, cFnIO, cMeth, cNew, cFld, cellM, hl, hn, hc]
  · have e : ns = [] := List.length_eq_zero_iff.mp (by omega)
    subst e
    exact ⟨0, by simp [runV, runIO2, runIO, sRet, sSeq, sAsg, sSet, sPar, sIf, sNext, sDrop, thaw, frz, cOp, cVar, cMove, cC, cUn, cCall, cCallL, cTup, cLst, aNil, aCons, cIxV, slotD, gNm, gTp, gMore, gNone, gSb, cLenV, cChain, cAnd, cOr, cNot, asB, tAnd, tOr, tNot, cIf, DL.ret, finF, ioOf, RF.to, RF.io, Sl.mut, Sl.put, Sl.data, Sl.dat, D.bool, D.addE, D.add, D.sub, D.mul, D.div, D.mod, D.pow, D.lt, D.ltE, D.le, D.gt, D.ge, D.neg, opLen, opInt, opAbs, opTuple, opList, opStr, opRepr, opAny, opAll, opSum, cFn, cFnIO, cMeth, cNew, cFld, cellM]⟩
def restM : M Fl := sSeq (sIf (tAnd (asB (cOp D.le (cVar 3) (cCall opLen (aCons (cIxV 0 (cC (.int 0))) aNil)))) (asB (cOp D.ge (cVar 4) (cOp D.pow (cC (.int 10)) (cC (.int 18)))))) (sSeq (sAsg (cOp D.div (cVar 4) (cVar 1)) (gSb 0 (cC (.int 2)))) (sRet (thaw (cOp D.mod (cCall opInt (aCons (cVar 4) aNil)) (cVar 1))))) sNext) (sSeq (sAsg (cOp D.mod (cCall opInt (aCons (cOp D.mul (cOp D.addE (cOp D.mod (cCall opInt (aCons (cVar 4) aNil)) (cC (.int 999999937))) (cOp D.mul (cC (.int 101)) (cVar 3))) (cC (.int 630360016))) aNil)) (cC (.int 2147483647))) (gNm 5)) (sSeq (sAsg (cOp D.mod (cCall opInt (aCons (cOp D.addE (cOp D.mul (cVar 5) (cVar 5)) (cOp D.mul (cVar 3) (cC (.int 62089911)))) aNil)) (cC (.int 2147483629))) (gNm 5)) (sSeq (sAsg (cOp D.mod (cCall opInt (aCons (cOp D.mul (cOp D.addE (cVar 5) (cVar 3)) (cOp D.addE (cOp D.addE (cVar 5) (cOp D.mul (cC (.int 3)) (cVar 3))) (cC (.int 1)))) aNil)) (cC (.int 999999937))) (gNm 5)) (sRet (thaw (cOp D.mod (cCall opInt (aCons (cOp D.div (cVar 5) (cC (.int 8))) aNil)) (cVar 1)))))))
def mx1 (c u : Int) : Int := (c % 999999937 + 101 * u) * 630360016 % 2147483647
def mx2 (c u : Int) : Int := (mx1 c u * mx1 c u + u * 62089911) % 2147483629
def mx3 (c u : Int) : Int := (mx2 c u + u) * (mx2 c u + 3 * u + 1) % 999999937
theorem rest_ok (ns : List Int) (u r many c : Int) (h : 2 ≤ many) (hm : many < 2 ^ 62) (hu0 : 0 ≤ u) (hu1 : u < 2 ^ 40) :
    ∃ (v r' : Int) (x : Sl), 0 ≤ v ∧ v < many ∧ restM [.io (seedL ns u r), .val (.int many), .no, .val (.int u), .val (.int c), .no] = .ok (.ret (.val (.int v))) [.io (seedL ns u r'), .val (.int many), .no, .val (.int u), .val (.int c), x] := by
  have h0 : 0 < many := by omega
  have d1 := divOk_of h0 hm
  by_cases hc : u ≤ (ns.length : Int) ∧ (1000000000000000000 : Int) ≤ c
  · refine ⟨c % many, c / many, .no, Int.emod_nonneg _ (by omega), Int.emod_lt_of_pos _ h0, ?_⟩
    simp [runV, runIO2, runIO, sRet, sSeq, sAsg, sSet, sPar, sIf, sNext, sDrop, thaw, frz, cOp, cVar, cMove, cC, cUn, cCall, cCallL, cTup, cLst, aNil, aCons, cIxV, slotD, gNm, gTp, gMore, gNone, gSb, cLenV, cChain, cAnd, cOr, cNot, asB, tAnd, tOr, tNot, cIf, DL.ret, finF, ioOf, RF.to, RF.io, Sl.mut, Sl.put, Sl.data, Sl.dat, D.bool, D.addE, D.add, D.sub, D.mul, D.div, D.mod, D.pow, D.lt, D.ltE, D.le, D.gt, D.ge, D.neg, opLen, opInt, opAbs, opTuple, opList, opStr, opRepr, opAny, opAll, opSum, cFn, cFnIO, cMeth, cNew, cFld, restM, h0, d1, hc.1, hc.2]
  · have g : ∀ a : Int, 0 ≤ a % 2147483647 ∧ a % 2147483647 < 2147483647 := fun a => ⟨Int.emod_nonneg _ (by decide), Int.emod_lt_of_pos _ (by decide)⟩
    have g2 : ∀ a : Int, 0 ≤ a % 2147483629 ∧ a % 2147483629 < 2147483629 := fun a => ⟨Int.emod_nonneg _ (by decide), Int.emod_lt_of_pos _ (by decide)⟩
    have m1 : ∀ a b : Int, mulOk (a % 2147483647) b = true := fun a b => mulOk_l (by have := g a; omega) (by have := g a; omega)
    have m2 : ∀ a b : Int, mulOk (a % 2147483629 + u) b = true := fun a b => mulOk_l (by have := g2 a; omega) (by have := g2 a; omega)
    refine ⟨mx3 c u / 8 % many, r, .val (.int (mx3 c u)), Int.emod_nonneg _ (by omega), Int.emod_lt_of_pos _ h0, ?_⟩
    by_cases hd : u ≤ (ns.length : Int)
    · have he : ¬ (1000000000000000000 : Int) ≤ c := fun z => hc ⟨hd, z⟩
      simp [runV, runIO2, runIO, sRet, sSeq, sAsg, sSet, sPar, sIf, sNext, sDrop, thaw, frz, cOp, cVar, cMove, cC, cUn, cCall, cCallL, cTup, cLst, aNil, aCons, cIxV, slotD, gNm, gTp, gMore, gNone, gSb, cLenV, cChain, cAnd, cOr, cNot, asB, tAnd, tOr, tNot, cIf, DL.ret, finF, ioOf, RF.to, RF.io, Sl.mut, Sl.put, Sl.data, Sl.dat, D.bool, D.addE, D.add, D.sub, D.mul, D.div, D.mod, D.pow, D.lt, D.ltE, D.le, D.gt, D.ge, D.neg, opLen, opInt, opAbs, opTuple, opList, opStr, opRepr, opAny, opAll, opSum, cFn, cFnIO, cMeth, cNew, cFld, restM, h0, d1, hd, he, m1, m2, mx3, mx2, mx1]
    · simp [runV, runIO2, runIO, sRet, sSeq, sAsg, sSet, sPar, sIf, sNext, sDrop, thaw, frz, cOp, cVar, cMove, cC, cUn, cCall, cCallL, cTup, cLst, aNil, aCons, cIxV, slotD, gNm, gTp, gMore, gNone, gSb, cLenV, cChain, cAnd, cOr, cNot, asB, tAnd, tOr, tNot, cIf, DL.ret, finF, ioOf, RF.to, RF.io, Sl.mut, Sl.put, Sl.data, Sl.dat, D.bool, D.addE, D.add, D.sub, D.mul, D.div, D.mod, D.pow, D.lt, D.ltE, D.le, D.gt, D.ge, D.neg, opLen, opInt, opAbs, opTuple, opList, opStr, opRepr, opAny, opAll, opSum, cFn, cFnIO, cMeth, cNew, cFld, restM, h0, d1, hd, m1, m2, mx3, mx2, mx1]
def a1 : M Fl := sIf (asB (cOp D.ltE (cVar 1) (cC (.int 2)))) (sRet (thaw (cC (.int 0)))) sNext
def a2 : M Fl := sIf (asB (cOp D.gt (cIxV 0 (cC (.int 2))) (cC (.int 0)))) (sSeq (sAsg (cTup (aCons (cOp D.mod (cCall opInt (aCons (cIxV 0 (cC (.int 2))) aNil)) (cVar 1)) (aCons (cOp D.div (cIxV 0 (cC (.int 2))) (cVar 1)) aNil))) (gTp (gMore (gNm 2) (gMore (gSb 0 (cC (.int 2))) gNone)))) (sRet (cMove 2))) sNext
def a3 : M Fl := sAsg (cOp D.addE (cIxV 0 (cC (.int 1))) (cC (.int 1))) (gSb 0 (cC (.int 1)))
def a4 : M Fl := sAsg (cIxV 0 (cC (.int 1))) (gNm 3)
theorem any_body : b_u_law_any = sSeq a1 (sSeq a2 (sSeq a3 (sSeq a4 (sSeq (sSet 4 cellM) restM)))) := rfl
theorem any_ok (ns : List Int) (t r many : Int) (h : 2 ≤ many) (hm : many < 2 ^ 62) (ht0 : 0 ≤ t) (ht1 : t < 2 ^ 39) :
    ∃ v t' r' : Int, 0 ≤ v ∧ v < many ∧ t ≤ t' ∧ t' ≤ t + 1 ∧ m_u_law_any (seedL ns t r) [.int many] = .ok (.val (.int v)) (some (seedL ns t' r')) := by
  by_cases hr : r > 0
  · exact ⟨r % many, t, r / many, Int.emod_nonneg _ (by omega), Int.emod_lt_of_pos _ (by omega), by omega, by omega, any_rest ns t r many (by omega) hm hr⟩
  · obtain ⟨c, hc⟩ := cell_ok ns (t + 1) r many
    obtain ⟨v, r', x, h1, h2, h3⟩ := rest_ok ns (t + 1) r many c h hm (by omega) (by omega)
    refine ⟨v, t + 1, r', h1, h2, by omega, by omega, ?_⟩
    have e1 : a1 [.io (seedL ns t r), .val (.int many), .no, .no, .no, .no] = .ok .next [.io (seedL ns t r), .val (.int many), .no, .no, .no, .no] := by
      have : ¬ many < 2 := by omega
      simp [runV, runIO2, runIO, sRet, sSeq, sAsg, sSet, sPar, sIf, sNext, sDrop, thaw, frz, cOp, cVar, cMove, cC, cUn, cCall, cCallL, cTup, cLst, aNil, aCons, cIxV, slotD, gNm, gTp, gMore, gNone, gSb, cLenV, cChain, cAnd, cOr, cNot, asB, tAnd, tOr, tNot, cIf, DL.ret, finF, ioOf, RF.to, RF.io, Sl.mut, Sl.put, Sl.data, Sl.dat, D.bool, D.addE, D.add, D.sub, D.mul, D.div, D.mod, D.pow, D.lt, D.ltE, D.le, D.gt, D.ge, D.neg, opLen, opInt, opAbs, opTuple, opList, opStr, opRepr, opAny, opAll, opSum, cFn, cFnIO, cMeth, cNew, cFld, a1, this]
    have e2 : a2 [.io (seedL ns t r), .val (.int many), .no, .no, .no, .no] = .ok .next [.io (seedL ns t r), .val (.int many), .no, .no, .no, .no] := by
      simp [runV, runIO2, runIO, sRet, sSeq, sAsg, sSet, sPar, sIf, sNext, sDrop, thaw, frz, cOp, cVar, cMove, cC, cUn, cCall, cCallL, cTup, cLst, aNil, aCons, cIxV, slotD, gNm, gTp, gMore, gNone, gSb, cLenV, cChain, cAnd, cOr, cNot, asB, tAnd, tOr, tNot, cIf, DL.ret, finF, ioOf, RF.to, RF.io, Sl.mut, Sl.put, Sl.data, Sl.dat, D.bool, D.addE, D.add, D.sub, D.mul, D.div, D.mod, D.pow, D.lt, D.ltE, D.le, D.gt, D.ge, D.neg, opLen, opInt, opAbs, opTuple, opList, opStr, opRepr, opAny, opAll, opSum, cFn, cFnIO, cMeth, cNew, cFld, a2, hr]
    have e3 : a3 [.io (seedL ns t r), .val (.int many), .no, .no, .no, .no] = .ok .next [.io (seedL ns (t + 1) r), .val (.int many), .no, .no, .no, .no] := by
      simp [runV, runIO2, runIO, sRet, sSeq, sAsg, sSet, sPar, sIf, sNext, sDrop, thaw, frz, cOp, cVar, cMove, cC, cUn, cCall, cCallL, cTup, cLst, aNil, aCons, cIxV, slotD, gNm, gTp, gMore, gNone, gSb, cLenV, cChain, cAnd, cOr, cNot, asB, tAnd, tOr, tNot, cIf, DL.ret, finF, ioOf, RF.to, RF.io, Sl.mut, Sl.put, Sl.data, Sl.dat, D.bool, D.addE, D.add, D.sub, D.mul, D.div, D.mod, D.pow, D.lt, D.ltE, D.le, D.gt, D.ge, D.neg, opLen, opInt, opAbs, opTuple, opList, opStr, opRepr, opAny, opAll, opSum, cFn, cFnIO, cMeth, cNew, cFld, a3]
    have e4 : a4 [.io (seedL ns (t + 1) r), .val (.int many), .no, .no, .no, .no] = .ok .next [.io (seedL ns (t + 1) r), .val (.int many), .no, .val (.int (t + 1)), .no, .no] := by
      simp [runV, runIO2, runIO, sRet, sSeq, sAsg, sSet, sPar, sIf, sNext, sDrop, thaw, frz, cOp, cVar, cMove, cC, cUn, cCall, cCallL, cTup, cLst, aNil, aCons, cIxV, slotD, gNm, gTp, gMore, gNone, gSb, cLenV, cChain, cAnd, cOr, cNot, asB, tAnd, tOr, tNot, cIf, DL.ret, finF, ioOf, RF.to, RF.io, Sl.mut, Sl.put, Sl.data, Sl.dat, D.bool, D.addE, D.add, D.sub, D.mul, D.div, D.mod, D.pow, D.lt, D.ltE, D.le, D.gt, D.ge, D.neg, opLen, opInt, opAbs, opTuple, opList, opStr, opRepr, opAny, opAll, opSum, cFn, cFnIO, cMeth, cNew, cFld, a4]
    have e5 : sSet 4 cellM [.io (seedL ns (t + 1) r), .val (.int many), .no, .val (.int (t + 1)), .no, .no] = .ok .next [.io (seedL ns (t + 1) r), .val (.int many), .no, .val (.int (t + 1)), .val (.int c), .no] := by
      unfold sSet
      rw [hc]
      rfl
    have e : b_u_law_any [.io (seedL ns t r), .val (.int many), .no, .no, .no, .no] = .ok (.ret (.val (.int v))) [.io (seedL ns (t + 1) r'), .val (.int many), .no, .val (.int (t + 1)), .val (.int c), x] := by
      rw [any_body]
      simp only [sSeq, e1, e2, e3, e4, e5, h3, R.bind_ok]
    have hr2 : m_u_law_any (seedL ns t r) [.int many] = (finF (b_u_law_any [.io (seedL ns t r), .val (.int many), .no, .no, .no, .no])).io := rfl
    rw [hr2, e]
    rfl
theorem ix_mem (ds : List D) {k : Int} (h0 : 0 ≤ k) (h1 : k < ds.length) : ∃ d ∈ ds, D.ixI (.lst ds) (.int k) = some d := by
  have hk : k.toNat < ds.length := by omega
  refine ⟨ds[k.toNat], List.getElem_mem hk, ?_⟩
  show L2.atI ds k = _
  unfold L2.atI L2.ixN
  rw [if_pos h0, if_pos h1, Option.bind_some, List.getElem?_eq_getElem hk]
/-- where a seed may be -/
structure Sd (ns : List Int) (n : Int) (es : List D) : Prop where
  ex : ∃ t r : Int, es = seedL ns t r ∧ 0 ≤ t ∧ t ≤ n
theorem sd_any {ns : List Int} {n many : Int} {es : List D} (s : Sd ns n es) (h : 2 ≤ many) (hm : many < 2 ^ 62) (hn : n < 2 ^ 38) : ∃ (v : Int) (es' : List D), 0 ≤ v ∧ v < many ∧ Sd ns (n + 1) es' ∧ m_u_law_any es [.int many] = .ok (.val (.int v)) (some es') := by
  obtain ⟨t, r, rfl, h0, h1⟩ := s.ex
  obtain ⟨v, t', r', a, b, c, d, e⟩ := any_ok ns t r many h hm h0 (by omega)
  exact ⟨v, _, a, b, ⟨t', r', rfl, by omega, by omega⟩, e⟩
theorem sd_one {ns : List Int} {n : Int} {es ds : List D} (s : Sd ns n es) (h : 2 ≤ ds.length) (hm : ds.length < 2 ^ 24) (hn : n < 2 ^ 38) : ∃ (d : D) (es' : List D), d ∈ ds ∧ Sd ns (n + 1) es' ∧ m_u_law_one_of es [.lst ds] = .ok (.val d) (some es') := by
  obtain ⟨v, es', a, b, c, e⟩ := sd_any (many := (ds.length : Int)) s (by omega) (by omega) hn
  obtain ⟨d, hd, hi⟩ := ix_mem ds a b
  refine ⟨d, es', hd, c, ?_⟩
  have hb : b_u_law_one_of [.io es, .val (.lst ds)] = .ok (.ret (.val d)) [.io es', .val (.lst ds)] := by
    simp [runV, runIO2, runIO, sRet, sSeq, sAsg, sSet, sPar, sIf, sNext, sDrop, thaw, frz, cOp, cVar, cMove, cC, cUn, cCall, cCallL, cTup, cLst, aNil, aCons, cIxV, slotD, gNm, gTp, gMore, gNone, gSb, cLenV, cChain, cAnd, cOr, cNot, asB, tAnd, tOr, tNot, cIf, DL.ret, finF, ioOf, RF.to, RF.io, Sl.mut, Sl.put, Sl.data, Sl.dat, D.bool, D.addE, D.add, D.sub, D.mul, D.div, D.mod, D.pow, D.lt, D.ltE, D.le, D.gt, D.ge, D.neg, opLen, opInt, opAbs, opTuple, opList, opStr, opRepr, opAny, opAll, opSum, cFn, cFnIO, cMeth, cNew, cFld, b_u_law_one_of, e, hi]
  have hr : m_u_law_one_of es [.lst ds] = (finF (b_u_law_one_of [.io es, .val (.lst ds)])).io := rfl
  rw [hr, hb]
  rfl
theorem ix5 (a b c d e : D) {k : Int} (h0 : 0 ≤ k) (h1 : k < 5) (P : D → Prop) (ha : P a) (hb : P b) (hc : P c) (hd : P d) (he : P e) : ∃ x, P x ∧ D.ixI (.lst [a, b, c, d, e]) (.int k) = some x := by
  obtain ⟨x, hx, hi⟩ := ix_mem [a, b, c, d, e] h0 (by simpa [runV, runIO2, runIO, sRet, sSeq, sAsg, sSet, sPar, sIf, sNext, sDrop, thaw, frz, cOp, cVar, cMove, cC, cUn, cCall, cCallL, cTup, cLst, aNil, aCons, cIxV, slotD, gNm, gTp, gMore, gNone, gSb, cLenV, cChain, cAnd, cOr, cNot, asB, tAnd, tOr, tNot, cIf, DL.ret, finF, ioOf, RF.to, RF.io, Sl.mut, Sl.put, Sl.data, Sl.dat, D.bool, D.addE, D.add, D.sub, D.mul, D.div, D.mod, D.pow, D.lt, D.ltE, D.le, D.gt, D.ge, D.neg, opLen, opInt, opAbs, opTuple, opList, opStr, opRepr, opAny, opAll, opSum, cFn, cFnIO, cMeth, cNew, cFld] using h1)
  refine ⟨x, ?_, hi⟩
  simp only [List.mem_cons, List.not_mem_nil, or_false] at hx
  rcases hx with rfl | rfl | rfl | rfl | rfl <;> assumption
theorem sd_far {ns : List Int} {n : Int} {es : List D} (s : Sd ns n es) (hn : n < 2 ^ 37) : ∃ (f : Int) (es' : List D), Sd ns (n + 7) es' ∧ m_u_law_far es [] = .ok (.val (.int f)) (some es') := by
  obtain ⟨v1, s1, p1, q1, i1, e1⟩ := sd_any (many := 2) s (by decide) (by decide) (by omega)
  obtain ⟨v2, s2, p2, q2, i2, e2⟩ := sd_any (many := 400) i1 (by decide) (by decide) (by omega)
  obtain ⟨v3, s3, p3, q3, i3, e3⟩ := sd_any (many := 500) i2 (by decide) (by decide) (by omega)
  obtain ⟨v4, s4, p4, q4, i4, e4⟩ := sd_any (many := 99999) i3 (by decide) (by decide) (by omega)
  obtain ⟨v5, s5, p5, q5, i5, e5⟩ := sd_any (many := 99999) i4 (by decide) (by decide) (by omega)
  obtain ⟨v6, s6, p6, q6, i6, e6⟩ := sd_any (many := 9999) i5 (by decide) (by decide) (by omega)
  obtain ⟨v7, s7, p7, q7, i7, e7⟩ := sd_any (many := 5) i6 (by decide) (by decide) (by omega)
  obtain ⟨x, ⟨g, rfl⟩, hx⟩ := ix5 (.int v2) (.int (250000 - v3)) (.int (1000000000 + v4)) (.int (100000000000000000000000000000 - v5)) (.int (123456789012345678901 + v6)) p7 q7 (fun d => ∃ g, d = D.int g) ⟨_, rfl⟩ ⟨_, rfl⟩ ⟨_, rfl⟩ ⟨_, rfl⟩ ⟨_, rfl⟩
  have m1 : mulOk (1 - 2 * v1) g = true := mulOk_l (by omega) (by omega)
  have sz : (5 : Nat) ≤ sizeLine := size_ge (by decide)
  refine ⟨(1 - 2 * v1) * g, s7, ⟨?_⟩, ?_⟩
  · obtain ⟨t, r, a, b, c⟩ := i7.ex
    exact ⟨t, r, a, b, by omega⟩
  · simp [runV, runIO2, runIO, sRet, sSeq, sAsg, sSet, sPar, sIf, sNext, sDrop, thaw, frz, cOp, cVar, cMove, cC, cUn, cCall, cCallL, cTup, cLst, aNil, aCons, cIxV, slotD, gNm, gTp, gMore, gNone, gSb, cLenV, cChain, cAnd, cOr, cNot, asB, tAnd, tOr, tNot, cIf, DL.ret, finF, ioOf, RF.to, RF.io, Sl.mut, Sl.put, Sl.data, Sl.dat, D.bool, D.addE, D.add, D.sub, D.mul, D.div, D.mod, D.pow, D.lt, D.ltE, D.le, D.gt, D.ge, D.neg, opLen, opInt, opAbs, opTuple, opList, opStr, opRepr, opAny, opAll, opSum, cFn, cFnIO, cMeth, cNew, cFld, m_u_law_far, b_u_law_far, e1, e2, e3, e4, e5, e6, e7, hx, m1, sz]
end Wk29

end
section
namespace Wk29
open PySem DL CAL
theorem Sd.le {ns : List Int} {n n' : Int} {es : List D} (s : Sd ns n es) (h : n ≤ n') : Sd ns n' es := by
  obtain ⟨t, r, e, h0, h1⟩ := s.ex
  exact ⟨t, r, e, h0, by omega⟩
theorem sd_any1 {ns : List Int} {n many : Int} {es : List D} (s : Sd ns n es) (h : 1 ≤ many) (hm : many < 2 ^ 62) (hn : n < 2 ^ 38) : ∃ (v : Int) (es' : List D), 0 ≤ v ∧ v < many ∧ Sd ns (n + 1) es' ∧ m_u_law_any es [.int many] = .ok (.val (.int v)) (some es') := by
  by_cases q : 2 ≤ many
  · exact sd_any s q hm hn
  · obtain ⟨t, r, rfl, h0, h1⟩ := s.ex
    exact ⟨0, _, by omega, by omega, ⟨t, r, rfl, h0, by omega⟩, any_0 ns t r many (by omega)⟩
/-- a comprehension whose parts draw -/
theorem goComp_sd {ns : List Int} {i : Nat} {me : M D} {Q : Int → Prop} {k : Int} (hk : 0 ≤ k) (F : List D → Sl → Rho) (hF : ∀ es s t, (F es s).set i t = F es t)
    (he : ∀ (n : Int) (es : List D) (d : D), Sd ns n es → n < 2 ^ 37 → ∃ (v : Int) (es' : List D), Q v ∧ Sd ns (n + k) es' ∧ me (F es (.val d)) = .ok (.int v) (F es' (.val d))) :
    ∀ (ds acc : List D) (n : Int) (es : List D), Sd ns n es → n + k * ds.length < 2 ^ 37 → acc.length + ds.length ≤ 1000 → ∃ (vs : List Int) (es' : List D), vs.length = ds.length ∧ (∀ v ∈ vs, Q v) ∧ Sd ns (n + k * ds.length) es' ∧ goComp [i] (gNm i) tTrue me ds acc (F es .no) = .ok (acc ++ vs.map D.int) (F es' .no)
  | [], acc, n, es, s, hn, hz => ⟨[], es, rfl, by simp [runV, runIO2, runIO, sRet, sSeq, sAsg, sSet, sPar, sIf, sNext, sDrop, thaw, frz, cOp, cVar, cMove, cC, cUn, cCall, cCallL, cTup, cLst, aNil, aCons, cIxV, slotD, gNm, gTp, gMore, gNone, gSb, cLenV, cChain, cAnd, cOr, cNot, asB, tAnd, tOr, tNot, cIf, DL.ret, finF, ioOf, RF.to, RF.io, Sl.mut, Sl.put, Sl.data, Sl.dat, D.bool, D.addE, D.add, D.sub, D.mul, D.div, D.mod, D.pow, D.lt, D.ltE, D.le, D.gt, D.ge, D.neg, opLen, opInt, opAbs, opTuple, opList, opStr, opRepr, opAny, opAll, opSum, cFn, cFnIO, cMeth, cNew, cFld], by simpa [runV, runIO2, runIO, sRet, sSeq, sAsg, sSet, sPar, sIf, sNext, sDrop, thaw, frz, cOp, cVar, cMove, cC, cUn, cCall, cCallL, cTup, cLst, aNil, aCons, cIxV, slotD, gNm, gTp, gMore, gNone, gSb, cLenV, cChain, cAnd, cOr, cNot, asB, tAnd, tOr, tNot, cIf, DL.ret, finF, ioOf, RF.to, RF.io, Sl.mut, Sl.put, Sl.data, Sl.dat, D.bool, D.addE, D.add, D.sub, D.mul, D.div, D.mod, D.pow, D.lt, D.ltE, D.le, D.gt, D.ge, D.neg, opLen, opInt, opAbs, opTuple, opList, opStr, opRepr, opAny, opAll, opSum, cFn, cFnIO, cMeth, cNew, cFld] using s, by simp [runV, runIO2, runIO, sRet, sSeq, sAsg, sSet, sPar, sIf, sNext, sDrop, thaw, frz, cOp, cVar, cMove, cC, cUn, cCall, cCallL, cTup, cLst, aNil, aCons, cIxV, slotD, gNm, gTp, gMore, gNone, gSb, cLenV, cChain, cAnd, cOr, cNot, asB, tAnd, tOr, tNot, cIf, DL.ret, finF, ioOf, RF.to, RF.io, Sl.mut, Sl.put, Sl.data, Sl.dat, D.bool, D.addE, D.add, D.sub, D.mul, D.div, D.mod, D.pow, D.lt, D.ltE, D.le, D.gt, D.ge, D.neg, opLen, opInt, opAbs, opTuple, opList, opStr, opRepr, opAny, opAll, opSum, cFn, cFnIO, cMeth, cNew, cFld, goComp]⟩
  | d :: ds, acc, n, es, s, hn, hz => by
    have e0 : k * ((d :: ds).length : Int) = k + k * (ds.length : Int) := by
      rw [List.length_cons, Int.natCast_add, Int.mul_add]
      simp [runV, runIO2, runIO, sRet, sSeq, sAsg, sSet, sPar, sIf, sNext, sDrop, thaw, frz, cOp, cVar, cMove, cC, cUn, cCall, cCallL, cTup, cLst, aNil, aCons, cIxV, slotD, gNm, gTp, gMore, gNone, gSb, cLenV, cChain, cAnd, cOr, cNot, asB, tAnd, tOr, tNot, cIf, DL.ret, finF, ioOf, RF.to, RF.io, Sl.mut, Sl.put, Sl.data, Sl.dat, D.bool, D.addE, D.add, D.sub, D.mul, D.div, D.mod, D.pow, D.lt, D.ltE, D.le, D.gt, D.ge, D.neg, opLen, opInt, opAbs, opTuple, opList, opStr, opRepr, opAny, opAll, opSum, cFn, cFnIO, cMeth, cNew, cFld]
      omega
    have e1 : 0 ≤ k * (ds.length : Int) := Int.mul_nonneg hk (by omega)
    rw [List.length_cons] at hz
    obtain ⟨v, es1, q, s1, h1⟩ := he n es d s (by omega)
    obtain ⟨vs, es2, l, qs, s2, h2⟩ := goComp_sd hk F hF he ds (acc ++ [.int v]) (n + k) es1 s1 (by omega) (by rw [List.length_append, List.length_singleton]; omega)
    refine ⟨v :: vs, es2, by simp [runV, runIO2, runIO, sRet, sSeq, sAsg, sSet, sPar, sIf, sNext, sDrop, thaw, frz, cOp, cVar, cMove, cC, cUn, cCall, cCallL, cTup, cLst, aNil, aCons, cIxV, slotD, gNm, gTp, gMore, gNone, gSb, cLenV, cChain, cAnd, cOr, cNot, asB, tAnd, tOr, tNot, cIf, DL.ret, finF, ioOf, RF.to, RF.io, Sl.mut, Sl.put, Sl.data, Sl.dat, D.bool, D.addE, D.add, D.sub, D.mul, D.div, D.mod, D.pow, D.lt, D.ltE, D.le, D.gt, D.ge, D.neg, opLen, opInt, opAbs, opTuple, opList, opStr, opRepr, opAny, opAll, opSum, cFn, cFnIO, cMeth, cNew, cFld, l], ?_, by rw [e0]; rw [show n + (k + k * (ds.length : Int)) = n + k + k * ds.length by omega]; exact s2, ?_⟩
    · intro w hw
      rcases List.mem_cons.mp hw with rfl | hw
      · exact q
      · exact qs w hw
    · have hl : acc.length < sizeLine := by rw [sizeLine_eq]; omega
      have g : gNm i d (F es .no) = some (F es (.val d)) := by rw [← hF es .no (.val d)]; rfl
      have wp : wipeR (F es1 (.val d)) [i] = F es1 .no := hF es1 (.val d) .no
      unfold goComp
      simp only [g, tTrue, noexc, R.bind_ok, if_true, h1, hl, wp, h2]
      simp [runV, runIO2, runIO, sRet, sSeq, sAsg, sSet, sPar, sIf, sNext, sDrop, thaw, frz, cOp, cVar, cMove, cC, cUn, cCall, cCallL, cTup, cLst, aNil, aCons, cIxV, slotD, gNm, gTp, gMore, gNone, gSb, cLenV, cChain, cAnd, cOr, cNot, asB, tAnd, tOr, tNot, cIf, DL.ret, finF, ioOf, RF.to, RF.io, Sl.mut, Sl.put, Sl.data, Sl.dat, D.bool, D.addE, D.add, D.sub, D.mul, D.div, D.mod, D.pow, D.lt, D.ltE, D.le, D.gt, D.ge, D.neg, opLen, opInt, opAbs, opTuple, opList, opStr, opRepr, opAny, opAll, opSum, cFn, cFnIO, cMeth, cNew, cFld]
/-- the same, as an expression -/
theorem lc_sd {ns : List Int} {i : Nat} {mi : M (List D)} {me : M D} {Q : Int → Prop} {k : Int} (hk : 0 ≤ k) (F : List D → Sl → Rho) (hF : ∀ es s t, (F es s).set i t = F es t) (hg : ∀ es s, (F es s).getD i .no = s)
    (he : ∀ (n : Int) (es : List D) (d : D), Sd ns n es → n < 2 ^ 37 → ∃ (v : Int) (es' : List D), Q v ∧ Sd ns (n + k) es' ∧ me (F es (.val d)) = .ok (.int v) (F es' (.val d)))
    {ρ : Rho} {ds : List D} {es : List D} {s : Sl} {n : Int} (hmi : mi ρ = .ok ds (F es s)) (hs : s.mut = none) (hgi : (F es s)[i]? = some s) (sd : Sd ns n es) (hn : n + k * ds.length < 2 ^ 37) (hz : ds.length ≤ 1000) :
    ∃ (vs : List Int) (es' : List D), vs.length = ds.length ∧ (∀ v ∈ vs, Q v) ∧ Sd ns (n + k * ds.length) es' ∧ cLc [i] mi (gNm i) tTrue me ρ = .ok (.own (vs.map D.int)) (F es' s) := by
  obtain ⟨vs, es', a, b, c, d⟩ := goComp_sd hk F hF he ds [] n es sd hn (by simpa [runV, runIO2, runIO, sRet, sSeq, sAsg, sSet, sPar, sIf, sNext, sDrop, thaw, frz, cOp, cVar, cMove, cC, cUn, cCall, cCallL, cTup, cLst, aNil, aCons, cIxV, slotD, gNm, gTp, gMore, gNone, gSb, cLenV, cChain, cAnd, cOr, cNot, asB, tAnd, tOr, tNot, cIf, DL.ret, finF, ioOf, RF.to, RF.io, Sl.mut, Sl.put, Sl.data, Sl.dat, D.bool, D.addE, D.add, D.sub, D.mul, D.div, D.mod, D.pow, D.lt, D.ltE, D.le, D.gt, D.ge, D.neg, opLen, opInt, opAbs, opTuple, opList, opStr, opRepr, opAny, opAll, opSum, cFn, cFnIO, cMeth, cNew, cFld] using hz)
  refine ⟨vs, es', a, b, c, ?_⟩
  have nm : noMut [i] (F es s) = true := by
    unfold noMut
    simp only [List.all_cons, List.all_nil, hgi, Option.bind_some, hs]
    rfl
  have wp : wipeR (F es s) [i] = F es .no := hF es s .no
  have uw : unwipe (F es s) (F es' .no) [i] = F es' s := by
    show (F es' .no).set i ((F es s).getD i .no) = _
    rw [hg, hF]
  unfold cLc
  rw [hmi, R.bind_ok, if_pos nm, wp, d, R.bind_ok, uw]
  simp [runV, runIO2, runIO, sRet, sSeq, sAsg, sSet, sPar, sIf, sNext, sDrop, thaw, frz, cOp, cVar, cMove, cC, cUn, cCall, cCallL, cTup, cLst, aNil, aCons, cIxV, slotD, gNm, gTp, gMore, gNone, gSb, cLenV, cChain, cAnd, cOr, cNot, asB, tAnd, tOr, tNot, cIf, DL.ret, finF, ioOf, RF.to, RF.io, Sl.mut, Sl.put, Sl.data, Sl.dat, D.bool, D.addE, D.add, D.sub, D.mul, D.div, D.mod, D.pow, D.lt, D.ltE, D.le, D.gt, D.ge, D.neg, opLen, opInt, opAbs, opTuple, opList, opStr, opRepr, opAny, opAll, opSum, cFn, cFnIO, cMeth, cNew, cFld]
/-! ### a month's length -/
theorem em_ok {ns : List Int} (s1 s2 s4 : Sl) (n : Int) (es : List D) (d : D) (s : Sd ns n es) (hn : n < 2 ^ 37) : ∃ (v : Int) (es' : List D), (1 ≤ v ∧ v ≤ 50) ∧ Sd ns (n + 2) es' ∧ e_u_law_drawn_made_0 [.io es, s1, s2, .val d, s4] = .ok (.int v) [.io es', s1, s2, .val d, s4] := by
  obtain ⟨v1, e1, a1, b1, i1, h1⟩ := sd_any (many := 4) s (by decide) (by decide) (by omega)
  have c : ∃ many : Int, 1 ≤ many ∧ many ≤ 50 ∧ D.ixI (.lst [.int 1, .int 4, .int 12, .int 50]) (.int v1) = some (.int many) := by
    have q : v1 = 0 ∨ v1 = 1 ∨ v1 = 2 ∨ v1 = 3 := by omega
    rcases q with rfl | rfl | rfl | rfl
    · exact ⟨1, by decide, by decide, rfl⟩
    · exact ⟨4, by decide, by decide, rfl⟩
    · exact ⟨12, by decide, by decide, rfl⟩
    · exact ⟨50, by decide, by decide, rfl⟩
  obtain ⟨many, c1, c2, c3⟩ := c
  obtain ⟨v2, e2, a2, b2, i2, h2⟩ := sd_any1 (many := many) i1 c1 (by omega) (by omega)
  refine ⟨1 + v2, e2, ⟨by omega, by omega⟩, by rw [show n + 2 = n + 1 + 1 by omega]; exact i2, ?_⟩
  simp [runV, runIO2, runIO, sRet, sSeq, sAsg, sSet, sPar, sIf, sNext, sDrop, thaw, frz, cOp, cVar, cMove, cC, cUn, cCall, cCallL, cTup, cLst, aNil, aCons, cIxV, slotD, gNm, gTp, gMore, gNone, gSb, cLenV, cChain, cAnd, cOr, cNot, asB, tAnd, tOr, tNot, cIf, DL.ret, finF, ioOf, RF.to, RF.io, Sl.mut, Sl.put, Sl.data, Sl.dat, D.bool, D.addE, D.add, D.sub, D.mul, D.div, D.mod, D.pow, D.lt, D.ltE, D.le, D.gt, D.ge, D.neg, opLen, opInt, opAbs, opTuple, opList, opStr, opRepr, opAny, opAll, opSum, cFn, cFnIO, cMeth, cNew, cFld, e_u_law_drawn_made_0, h1, c3, h2]
/-- a kind of years -/
def GoodK (ms : List Int) : Prop := (1 ≤ ms.length ∧ ms.length ≤ 20) ∧ ∀ x ∈ ms, 1 ≤ x ∧ x ≤ 50
theorem kind_drawn {ns : List Int} (ks : List (List Int)) (hk : ks.length < 1000) (s2 s4 : Sl) (n : Int) (es : List D) (s : Sd ns n es) (hn : n < 2 ^ 36) : ∃ (ms : List Int) (es' : List D), GoodK ms ∧ Sd ns (n + 11) es' ∧
    l_u_law_drawn_made_1 [.io es, .own (ks.map msD), s2, .no, s4] = .ok .next [.io es', .own ((ks ++ [ms]).map msD), s2, .no, s4] := by
  obtain ⟨v, e1, a1, b1, i1, h1⟩ := sd_any (many := 5) s (by decide) (by decide) (by omega)
  have sp : (span 0 (1 + v).toNat).length = (1 + v).toNat := span_length _ _
  have hi : cSpan D.span1 (aCons (cOp D.addE (cC (.int 1)) (frz (cFnIO 0 m_u_law_any (aCons (cC (.int 5)) aNil)))) aNil) [.io es, .own (ks.map msD), s2, .no, s4] = .ok (span 0 (1 + v).toNat) [.io e1, .own (ks.map msD), s2, .no, s4] := by
    simp [runV, runIO2, runIO, sRet, sSeq, sAsg, sSet, sPar, sIf, sNext, sDrop, thaw, frz, cOp, cVar, cMove, cC, cUn, cCall, cCallL, cTup, cLst, aNil, aCons, cIxV, slotD, gNm, gTp, gMore, gNone, gSb, cLenV, cChain, cAnd, cOr, cNot, asB, tAnd, tOr, tNot, cIf, DL.ret, finF, ioOf, RF.to, RF.io, Sl.mut, Sl.put, Sl.data, Sl.dat, D.bool, D.addE, D.add, D.sub, D.mul, D.div, D.mod, D.pow, D.lt, D.ltE, D.le, D.gt, D.ge, D.neg, opLen, opInt, opAbs, opTuple, opList, opStr, opRepr, opAny, opAll, opSum, cFn, cFnIO, cMeth, cNew, cFld, cSpan, D.span1, h1]
  obtain ⟨ms, e2, l, q, i2, h2⟩ := lc_sd (ns := ns) (i := 3) (me := e_u_law_drawn_made_0) (Q := fun v => 1 ≤ v ∧ v ≤ 50) (k := 2) (by decide) (fun es s => [.io es, .own (ks.map msD), s2, s, s4]) (fun _ _ _ => rfl) (fun _ _ => rfl)
    (fun n es d s hn => em_ok (.own (ks.map msD)) s2 s4 n es d s hn) (s := .no) hi rfl rfl i1 (by rw [sp]; omega) (by rw [sp]; omega)
  rw [sp] at l i2
  refine ⟨ms, e2, ⟨⟨by omega, by omega⟩, q⟩, i2.le (by omega), ?_⟩
  have z : (ks.map msD).length < sizeLine := by rw [List.length_map, sizeLine_eq]; omega
  have z' : ks.length < sizeLine := by rw [sizeLine_eq]; omega
  simp [runV, runIO2, runIO, sRet, sSeq, sAsg, sSet, sPar, sIf, sNext, sDrop, thaw, frz, cOp, cVar, cMove, cC, cUn, cCall, cCallL, cTup, cLst, aNil, aCons, cIxV, slotD, gNm, gTp, gMore, gNone, gSb, cLenV, cChain, cAnd, cOr, cNot, asB, tAnd, tOr, tNot, cIf, DL.ret, finF, ioOf, RF.to, RF.io, Sl.mut, Sl.put, Sl.data, Sl.dat, D.bool, D.addE, D.add, D.sub, D.mul, D.div, D.mod, D.pow, D.lt, D.ltE, D.le, D.gt, D.ge, D.neg, opLen, opInt, opAbs, opTuple, opList, opStr, opRepr, opAny, opAll, opSum, cFn, cFnIO, cMeth, cNew, cFld, l_u_law_drawn_made_1, sApp, h2, z', msD]
theorem kinds_drawn {ns : List Int} (s4 : Sl) : ∀ (ds : List D) (ks : List (List Int)) (s2 : Sl) (n : Int) (es : List D), Sd ns n es → n + 11 * ds.length < 2 ^ 36 → ks.length + ds.length < 1000 → ∃ (ks' : List (List Int)) (t2 : Sl) (es' : List D), ks'.length = ds.length ∧ (∀ ms ∈ ks', GoodK ms) ∧ Sd ns (n + 11 * ds.length) es' ∧ (s2.mut = none → t2.mut = none) ∧
    goFor (gNm 2) l_u_law_drawn_made_1 ds [.io es, .own (ks.map msD), s2, .no, s4] = .ok .next [.io es', .own ((ks ++ ks').map msD), t2, .no, s4]
  | [], ks, s2, n, es, s, hn, hk => ⟨[], s2, es, rfl, by simp [runV, runIO2, runIO, sRet, sSeq, sAsg, sSet, sPar, sIf, sNext, sDrop, thaw, frz, cOp, cVar, cMove, cC, cUn, cCall, cCallL, cTup, cLst, aNil, aCons, cIxV, slotD, gNm, gTp, gMore, gNone, gSb, cLenV, cChain, cAnd, cOr, cNot, asB, tAnd, tOr, tNot, cIf, DL.ret, finF, ioOf, RF.to, RF.io, Sl.mut, Sl.put, Sl.data, Sl.dat, D.bool, D.addE, D.add, D.sub, D.mul, D.div, D.mod, D.pow, D.lt, D.ltE, D.le, D.gt, D.ge, D.neg, opLen, opInt, opAbs, opTuple, opList, opStr, opRepr, opAny, opAll, opSum, cFn, cFnIO, cMeth, cNew, cFld], by simpa [runV, runIO2, runIO, sRet, sSeq, sAsg, sSet, sPar, sIf, sNext, sDrop, thaw, frz, cOp, cVar, cMove, cC, cUn, cCall, cCallL, cTup, cLst, aNil, aCons, cIxV, slotD, gNm, gTp, gMore, gNone, gSb, cLenV, cChain, cAnd, cOr, cNot, asB, tAnd, tOr, tNot, cIf, DL.ret, finF, ioOf, RF.to, RF.io, Sl.mut, Sl.put, Sl.data, Sl.dat, D.bool, D.addE, D.add, D.sub, D.mul, D.div, D.mod, D.pow, D.lt, D.ltE, D.le, D.gt, D.ge, D.neg, opLen, opInt, opAbs, opTuple, opList, opStr, opRepr, opAny, opAll, opSum, cFn, cFnIO, cMeth, cNew, cFld] using s, id, by simp [runV, runIO2, runIO, sRet, sSeq, sAsg, sSet, sPar, sIf, sNext, sDrop, thaw, frz, cOp, cVar, cMove, cC, cUn, cCall, cCallL, cTup, cLst, aNil, aCons, cIxV, slotD, gNm, gTp, gMore, gNone, gSb, cLenV, cChain, cAnd, cOr, cNot, asB, tAnd, tOr, tNot, cIf, DL.ret, finF, ioOf, RF.to, RF.io, Sl.mut, Sl.put, Sl.data, Sl.dat, D.bool, D.addE, D.add, D.sub, D.mul, D.div, D.mod, D.pow, D.lt, D.ltE, D.le, D.gt, D.ge, D.neg, opLen, opInt, opAbs, opTuple, opList, opStr, opRepr, opAny, opAll, opSum, cFn, cFnIO, cMeth, cNew, cFld, goFor]⟩
  | d :: ds, ks, s2, n, es, s, hn, hk => by
    rw [List.length_cons] at hn hk
    obtain ⟨ms, e1, g, i1, h1⟩ := kind_drawn ks (by omega) (.val d) s4 n es s (by omega)
    obtain ⟨ks', t2, e2, l, gs, i2, m2, h2⟩ := kinds_drawn s4 ds (ks ++ [ms]) (.val d) (n + 11) e1 i1 (by omega) (by rw [List.length_append, List.length_singleton]; omega)
    refine ⟨ms :: ks', t2, e2, by simp [runV, runIO2, runIO, sRet, sSeq, sAsg, sSet, sPar, sIf, sNext, sDrop, thaw, frz, cOp, cVar, cMove, cC, cUn, cCall, cCallL, cTup, cLst, aNil, aCons, cIxV, slotD, gNm, gTp, gMore, gNone, gSb, cLenV, cChain, cAnd, cOr, cNot, asB, tAnd, tOr, tNot, cIf, DL.ret, finF, ioOf, RF.to, RF.io, Sl.mut, Sl.put, Sl.data, Sl.dat, D.bool, D.addE, D.add, D.sub, D.mul, D.div, D.mod, D.pow, D.lt, D.ltE, D.le, D.gt, D.ge, D.neg, opLen, opInt, opAbs, opTuple, opList, opStr, opRepr, opAny, opAll, opSum, cFn, cFnIO, cMeth, cNew, cFld, l], ?_, ?_, fun _ => m2 rfl, ?_⟩
    · intro w hw
      rcases List.mem_cons.mp hw with rfl | hw
      · exact g
      · exact gs w hw
    · exact i2.le (by rw [List.length_cons]; omega)
    · have gm : gNm 2 d [.io es, .own (ks.map msD), s2, .no, s4] = some [.io es, .own (ks.map msD), .val d, .no, s4] := rfl
      simp only [goFor, gm, h1, R.bind_ok, h2]
      simp [runV, runIO2, runIO, sRet, sSeq, sAsg, sSet, sPar, sIf, sNext, sDrop, thaw, frz, cOp, cVar, cMove, cC, cUn, cCall, cCallL, cTup, cLst, aNil, aCons, cIxV, slotD, gNm, gTp, gMore, gNone, gSb, cLenV, cChain, cAnd, cOr, cNot, asB, tAnd, tOr, tNot, cIf, DL.ret, finF, ioOf, RF.to, RF.io, Sl.mut, Sl.put, Sl.data, Sl.dat, D.bool, D.addE, D.add, D.sub, D.mul, D.div, D.mod, D.pow, D.lt, D.ltE, D.le, D.gt, D.ge, D.neg, opLen, opInt, opAbs, opTuple, opList, opStr, opRepr, opAny, opAll, opSum, cFn, cFnIO, cMeth, cNew, cFld]
theorem six (a b c d e f : D) {ds : List D} (hd : ds = [a, b, c, d, e, f]) {x : D} (h : x ∈ ds) : x = a ∨ x = b ∨ x = c ∨ x = d ∨ x = e ∨ x = f := by
  subst hd
  simpa [runV, runIO2, runIO, sRet, sSeq, sAsg, sSet, sPar, sIf, sNext, sDrop, thaw, frz, cOp, cVar, cMove, cC, cUn, cCall, cCallL, cTup, cLst, aNil, aCons, cIxV, slotD, gNm, gTp, gMore, gNone, gSb, cLenV, cChain, cAnd, cOr, cNot, asB, tAnd, tOr, tNot, cIf, DL.ret, finF, ioOf, RF.to, RF.io, Sl.mut, Sl.put, Sl.data, Sl.dat, D.bool, D.addE, D.add, D.sub, D.mul, D.div, D.mod, D.pow, D.lt, D.ltE, D.le, D.gt, D.ge, D.neg, opLen, opInt, opAbs, opTuple, opList, opStr, opRepr, opAny, opAll, opSum, cFn, cFnIO, cMeth, cNew, cFld] using h
/-- the kinds, one of them twice perhaps -/
theorem dup_ok {ns : List Int} (ks : List (List Int)) (h0 : 1 ≤ ks.length) (h1 : ks.length ≤ 3) (s2 s4 : Sl) (n : Int) (es : List D) (s : Sd ns n es) (hn : n < 2 ^ 36) : ∃ (ks' : List (List Int)) (es' : List D), 1 ≤ ks'.length ∧ ks'.length ≤ 4 ∧ (∀ ms ∈ ks', ms ∈ ks) ∧ Sd ns (n + 1) es' ∧
    (sIf (asB (cOp D.eq (frz (cFnIO 0 m_u_law_any (aCons (cC (.int 4)) aNil))) (cC (.int 0)))) (sApp 1 (cIxV 1 (cC (.int 0)))) sNext) [.io es, .own (ks.map msD), s2, .no, s4] = .ok .next [.io es', .own (ks'.map msD), s2, .no, s4] := by
  obtain ⟨v, e1, a1, b1, i1, h1'⟩ := sd_any (many := 4) s (by decide) (by decide) (by omega)
  by_cases q : v = 0
  · match ks, h0, h1 with
    | k0 :: kt, h0, h1 =>
      refine ⟨(k0 :: kt) ++ [k0], e1, by simp [runV, runIO2, runIO, sRet, sSeq, sAsg, sSet, sPar, sIf, sNext, sDrop, thaw, frz, cOp, cVar, cMove, cC, cUn, cCall, cCallL, cTup, cLst, aNil, aCons, cIxV, slotD, gNm, gTp, gMore, gNone, gSb, cLenV, cChain, cAnd, cOr, cNot, asB, tAnd, tOr, tNot, cIf, DL.ret, finF, ioOf, RF.to, RF.io, Sl.mut, Sl.put, Sl.data, Sl.dat, D.bool, D.addE, D.add, D.sub, D.mul, D.div, D.mod, D.pow, D.lt, D.ltE, D.le, D.gt, D.ge, D.neg, opLen, opInt, opAbs, opTuple, opList, opStr, opRepr, opAny, opAll, opSum, cFn, cFnIO, cMeth, cNew, cFld], by simp [runV, runIO2, runIO, sRet, sSeq, sAsg, sSet, sPar, sIf, sNext, sDrop, thaw, frz, cOp, cVar, cMove, cC, cUn, cCall, cCallL, cTup, cLst, aNil, aCons, cIxV, slotD, gNm, gTp, gMore, gNone, gSb, cLenV, cChain, cAnd, cOr, cNot, asB, tAnd, tOr, tNot, cIf, DL.ret, finF, ioOf, RF.to, RF.io, Sl.mut, Sl.put, Sl.data, Sl.dat, D.bool, D.addE, D.add, D.sub, D.mul, D.div, D.mod, D.pow, D.lt, D.ltE, D.le, D.gt, D.ge, D.neg, opLen, opInt, opAbs, opTuple, opList, opStr, opRepr, opAny, opAll, opSum, cFn, cFnIO, cMeth, cNew, cFld] at h1 ⊢; omega, fun ms hm => by
        simp only [List.mem_append, List.mem_cons, List.not_mem_nil, or_false] at hm ⊢
        rcases hm with (h | h) | h
        · exact Or.inl h
        · exact Or.inr h
        · exact Or.inl h, i1, ?_⟩
      have z : (kt.map msD).length + 1 < sizeLine := by simp [runV, runIO2, runIO, sRet, sSeq, sAsg, sSet, sPar, sIf, sNext, sDrop, thaw, frz, cOp, cVar, cMove, cC, cUn, cCall, cCallL, cTup, cLst, aNil, aCons, cIxV, slotD, gNm, gTp, gMore, gNone, gSb, cLenV, cChain, cAnd, cOr, cNot, asB, tAnd, tOr, tNot, cIf, DL.ret, finF, ioOf, RF.to, RF.io, Sl.mut, Sl.put, Sl.data, Sl.dat, D.bool, D.addE, D.add, D.sub, D.mul, D.div, D.mod, D.pow, D.lt, D.ltE, D.le, D.gt, D.ge, D.neg, opLen, opInt, opAbs, opTuple, opList, opStr, opRepr, opAny, opAll, opSum, cFn, cFnIO, cMeth, cNew, cFld] at h1; rw [List.length_map, sizeLine_eq]; omega
      have z' : kt.length + 1 < sizeLine := by simp [runV, runIO2, runIO, sRet, sSeq, sAsg, sSet, sPar, sIf, sNext, sDrop, thaw, frz, cOp, cVar, cMove, cC, cUn, cCall, cCallL, cTup, cLst, aNil, aCons, cIxV, slotD, gNm, gTp, gMore, gNone, gSb, cLenV, cChain, cAnd, cOr, cNot, asB, tAnd, tOr, tNot, cIf, DL.ret, finF, ioOf, RF.to, RF.io, Sl.mut, Sl.put, Sl.data, Sl.dat, D.bool, D.addE, D.add, D.sub, D.mul, D.div, D.mod, D.pow, D.lt, D.ltE, D.le, D.gt, D.ge, D.neg, opLen, opInt, opAbs, opTuple, opList, opStr, opRepr, opAny, opAll, opSum, cFn, cFnIO, cMeth, cNew, cFld] at h1; rw [sizeLine_eq]; omega
      have ix : D.ixI (.lst (msD k0 :: kt.map msD)) (.int 0) = some (msD k0) := ix_lst (k := 0) (n := 0) (msD k0 :: kt.map msD) rfl (by simp [runV, runIO2, runIO, sRet, sSeq, sAsg, sSet, sPar, sIf, sNext, sDrop, thaw, frz, cOp, cVar, cMove, cC, cUn, cCall, cCallL, cTup, cLst, aNil, aCons, cIxV, slotD, gNm, gTp, gMore, gNone, gSb, cLenV, cChain, cAnd, cOr, cNot, asB, tAnd, tOr, tNot, cIf, DL.ret, finF, ioOf, RF.to, RF.io, Sl.mut, Sl.put, Sl.data, Sl.dat, D.bool, D.addE, D.add, D.sub, D.mul, D.div, D.mod, D.pow, D.lt, D.ltE, D.le, D.gt, D.ge, D.neg, opLen, opInt, opAbs, opTuple, opList, opStr, opRepr, opAny, opAll, opSum, cFn, cFnIO, cMeth, cNew, cFld])
      simp [runV, runIO2, runIO, sRet, sSeq, sAsg, sSet, sPar, sIf, sNext, sDrop, thaw, frz, cOp, cVar, cMove, cC, cUn, cCall, cCallL, cTup, cLst, aNil, aCons, cIxV, slotD, gNm, gTp, gMore, gNone, gSb, cLenV, cChain, cAnd, cOr, cNot, asB, tAnd, tOr, tNot, cIf, DL.ret, finF, ioOf, RF.to, RF.io, Sl.mut, Sl.put, Sl.data, Sl.dat, D.bool, D.addE, D.add, D.sub, D.mul, D.div, D.mod, D.pow, D.lt, D.ltE, D.le, D.gt, D.ge, D.neg, opLen, opInt, opAbs, opTuple, opList, opStr, opRepr, opAny, opAll, opSum, cFn, cFnIO, cMeth, cNew, cFld, h1', q, sApp, ix, z, z']
  · exact ⟨ks, e1, h0, by omega, fun _ h => h, i1, by simp [runV, runIO2, runIO, sRet, sSeq, sAsg, sSet, sPar, sIf, sNext, sDrop, thaw, frz, cOp, cVar, cMove, cC, cUn, cCall, cCallL, cTup, cLst, aNil, aCons, cIxV, slotD, gNm, gTp, gMore, gNone, gSb, cLenV, cChain, cAnd, cOr, cNot, asB, tAnd, tOr, tNot, cIf, DL.ret, finF, ioOf, RF.to, RF.io, Sl.mut, Sl.put, Sl.data, Sl.dat, D.bool, D.addE, D.add, D.sub, D.mul, D.div, D.mod, D.pow, D.lt, D.ltE, D.le, D.gt, D.ge, D.neg, opLen, opInt, opAbs, opTuple, opList, opStr, opRepr, opAny, opAll, opSum, cFn, cFnIO, cMeth, cNew, cFld, h1', q]⟩
theorem yr_el {ns : List Int} (ks : List (List Int)) (h0 : 1 ≤ ks.length) (h1 : ks.length ≤ 4) (s4 : Sl) (n : Int) (es : List D) (d : D) (s : Sd ns n es) (hn : n < 2 ^ 37) : ∃ (v : Int) (es' : List D), (0 ≤ v ∧ v < ks.length) ∧ Sd ns (n + 1) es' ∧ e_u_law_drawn_made_2 [.io es, .own (ks.map msD), .val d, .no, s4] = .ok (.int v) [.io es', .own (ks.map msD), .val d, .no, s4] := by
  obtain ⟨v, e1, a1, b1, i1, h1'⟩ := sd_any1 (many := (ks.length : Int)) s (by omega) (by omega) (by omega)
  refine ⟨v, e1, ⟨a1, b1⟩, i1, ?_⟩
  simp [runV, runIO2, runIO, sRet, sSeq, sAsg, sSet, sPar, sIf, sNext, sDrop, thaw, frz, cOp, cVar, cMove, cC, cUn, cCall, cCallL, cTup, cLst, aNil, aCons, cIxV, slotD, gNm, gTp, gMore, gNone, gSb, cLenV, cChain, cAnd, cOr, cNot, asB, tAnd, tOr, tNot, cIf, DL.ret, finF, ioOf, RF.to, RF.io, Sl.mut, Sl.put, Sl.data, Sl.dat, D.bool, D.addE, D.add, D.sub, D.mul, D.div, D.mod, D.pow, D.lt, D.ltE, D.le, D.gt, D.ge, D.neg, opLen, opInt, opAbs, opTuple, opList, opStr, opRepr, opAny, opAll, opSum, cFn, cFnIO, cMeth, cNew, cFld, e_u_law_drawn_made_2, h1']
theorem toNats : ∀ (vs : List Int), (∀ v ∈ vs, 0 ≤ v) → vs.map D.int = (vs.map Int.toNat).map nat
  | [], _ => rfl
  | v :: vs, h => by
    have h1 := h v List.mem_cons_self
    rw [List.map_cons, List.map_cons, List.map_cons, toNats vs fun w hw => h w (List.mem_cons_of_mem _ hw)]
    have e : nat v.toNat = D.int v := by unfold nat; rw [Int.toNat_of_nonneg h1]
    rw [e]
noncomputable def dm_dup : M Fl := (sIf (asB (cOp D.eq (frz (cFnIO 0 m_u_law_any (aCons (cC (.int 4)) aNil))) (cC (.int 0)))) (sApp 1 (cIxV 1 (cC (.int 0)))) sNext)
noncomputable def dm_yrs : M Fl := (sAsg (cCall opTuple (aCons (frz (cLc [2] (cSpan D.span1 (aCons (cOp D.addE (cC (.int 1)) (frz (cFnIO 0 m_u_law_any (aCons (cC (.int 7)) aNil)))) aNil)) (gNm 2) tTrue e_u_law_drawn_made_2)) aNil)) (gNm 4))
noncomputable def dm_ret : M Fl := (sRet (thaw (cTup (aCons (frz (cFnIO 0 m_u_law_one_of (aCons (frz (cLst (aCons (cC (.int 0)) (aCons (cC (.int 3)) (aCons (cUn D.neg (cC (.int 17))) (aCons (cOp D.pow (cC (.int 10)) (cC (.int 12))) (aCons (cUn D.neg (cOp D.pow (cC (.int 10)) (cC (.int 12)))) (aCons (cC (.int 250000)) aNil)))))))) aNil))) (aCons (frz (cFnIO 0 m_u_law_one_of (aCons (frz (cLst (aCons (cC (.int 0)) (aCons (cC (.int 1)) (aCons (cC (.int 2000)) (aCons (cUn D.neg (cC (.int 5))) (aCons (cOp D.pow (cC (.int 10)) (cC (.int 12))) (aCons (cUn D.neg (cOp D.pow (cC (.int 10)) (cC (.int 12)))) aNil)))))))) aNil))) (aCons (cCall opTuple (aCons (cVar 1) aNil)) (aCons (cVar 4) aNil)))))))
theorem dm_eq : b_u_law_drawn_made = sSeq (sSet 1 (cLst aNil)) (sSeq (sFor (cSpan D.span1 (aCons (cOp D.addE (cC (.int 1)) (frz (cFnIO 0 m_u_law_any (aCons (cC (.int 3)) aNil)))) aNil)) (gNm 2) l_u_law_drawn_made_1) (sSeq dm_dup (sSeq dm_yrs dm_ret))) := rfl
theorem yrs_ok {ns : List Int} (ks : List (List Int)) (h0 : 1 ≤ ks.length) (h1 : ks.length ≤ 4) (s2 : Sl) (m2 : s2.mut = none) (n : Int) (es : List D) (s : Sd ns n es) (hn : n < 2 ^ 36) : ∃ (ys : List Nat) (es' : List D), 1 ≤ ys.length ∧ ys.length ≤ 7 ∧ (∀ k ∈ ys, k < ks.length) ∧ Sd ns (n + 8) es' ∧
    dm_yrs [.io es, .own (ks.map msD), s2, .no, .no] = .ok .next [.io es', .own (ks.map msD), s2, .no, .val (.tup (ys.map nat))] := by
  obtain ⟨v, e1, a1, b1, i1, h1'⟩ := sd_any (many := 7) s (by decide) (by decide) (by omega)
  have sp : (span 0 (1 + v).toNat).length = (1 + v).toNat := span_length _ _
  have hi : cSpan D.span1 (aCons (cOp D.addE (cC (.int 1)) (frz (cFnIO 0 m_u_law_any (aCons (cC (.int 7)) aNil)))) aNil) [.io es, .own (ks.map msD), s2, .no, .no] = .ok (span 0 (1 + v).toNat) [.io e1, .own (ks.map msD), s2, .no, .no] := by
    simp [runV, runIO2, runIO, sRet, sSeq, sAsg, sSet, sPar, sIf, sNext, sDrop, thaw, frz, cOp, cVar, cMove, cC, cUn, cCall, cCallL, cTup, cLst, aNil, aCons, cIxV, slotD, gNm, gTp, gMore, gNone, gSb, cLenV, cChain, cAnd, cOr, cNot, asB, tAnd, tOr, tNot, cIf, DL.ret, finF, ioOf, RF.to, RF.io, Sl.mut, Sl.put, Sl.data, Sl.dat, D.bool, D.addE, D.add, D.sub, D.mul, D.div, D.mod, D.pow, D.lt, D.ltE, D.le, D.gt, D.ge, D.neg, opLen, opInt, opAbs, opTuple, opList, opStr, opRepr, opAny, opAll, opSum, cFn, cFnIO, cMeth, cNew, cFld, cSpan, D.span1, h1']
  obtain ⟨vs, e2, l, q, i2, h2⟩ := lc_sd (ns := ns) (i := 2) (me := e_u_law_drawn_made_2) (Q := fun v => 0 ≤ v ∧ v < ks.length) (k := 1) (by decide) (fun es s => [.io es, .own (ks.map msD), s, .no, .no]) (fun _ _ _ => rfl) (fun _ _ => rfl)
    (fun n es d s hn => yr_el ks h0 h1 .no n es d s hn) (s := s2) hi m2 rfl i1 (by rw [sp]; omega) (by rw [sp]; omega)
  rw [sp] at l i2
  refine ⟨vs.map Int.toNat, e2, by rw [List.length_map]; omega, by rw [List.length_map]; omega, ?_, i2.le (by omega), ?_⟩
  · intro k hk
    obtain ⟨w, hw, rfl⟩ := List.mem_map.mp hk
    have := q w hw
    omega
  · rw [← toNats vs fun v hv => (q v hv).1]
    simp [runV, runIO2, runIO, sRet, sSeq, sAsg, sSet, sPar, sIf, sNext, sDrop, thaw, frz, cOp, cVar, cMove, cC, cUn, cCall, cCallL, cTup, cLst, aNil, aCons, cIxV, slotD, gNm, gTp, gMore, gNone, gSb, cLenV, cChain, cAnd, cOr, cNot, asB, tAnd, tOr, tNot, cIf, DL.ret, finF, ioOf, RF.to, RF.io, Sl.mut, Sl.put, Sl.data, Sl.dat, D.bool, D.addE, D.add, D.sub, D.mul, D.div, D.mod, D.pow, D.lt, D.ltE, D.le, D.gt, D.ge, D.neg, opLen, opInt, opAbs, opTuple, opList, opStr, opRepr, opAny, opAll, opSum, cFn, cFnIO, cMeth, cNew, cFld, dm_yrs, h2]
theorem ret_ok {ns : List Int} (ks : List (List Int)) (ys : List Nat) (s2 : Sl) (n : Int) (es : List D) (s : Sd ns n es) (hn : n < 2 ^ 36) : ∃ (ep ba : Int) (es' : List D) (ρ : Rho), (-1000000000000 ≤ ep ∧ ep ≤ 1000000000000) ∧ (-1000000000000 ≤ ba ∧ ba ≤ 1000000000000) ∧ Sd ns (n + 2) es' ∧ ρ[0]? = some (.io es') ∧
    dm_ret [.io es, .own (ks.map msD), s2, .no, .val (.tup (ys.map nat))] = .ok (.ret (.val (.tup [.int ep, .int ba, .tup (ks.map msD), .tup (ys.map nat)]))) ρ := by
  obtain ⟨d1, e1, m1, i1, h1⟩ := sd_one (ds := [.int 0, .int 3, .int (-17), .int 1000000000000, .int (-1000000000000), .int 250000]) s (by simp [runV, runIO2, runIO, sRet, sSeq, sAsg, sSet, sPar, sIf, sNext, sDrop, thaw, frz, cOp, cVar, cMove, cC, cUn, cCall, cCallL, cTup, cLst, aNil, aCons, cIxV, slotD, gNm, gTp, gMore, gNone, gSb, cLenV, cChain, cAnd, cOr, cNot, asB, tAnd, tOr, tNot, cIf, DL.ret, finF, ioOf, RF.to, RF.io, Sl.mut, Sl.put, Sl.data, Sl.dat, D.bool, D.addE, D.add, D.sub, D.mul, D.div, D.mod, D.pow, D.lt, D.ltE, D.le, D.gt, D.ge, D.neg, opLen, opInt, opAbs, opTuple, opList, opStr, opRepr, opAny, opAll, opSum, cFn, cFnIO, cMeth, cNew, cFld]) (by simp [runV, runIO2, runIO, sRet, sSeq, sAsg, sSet, sPar, sIf, sNext, sDrop, thaw, frz, cOp, cVar, cMove, cC, cUn, cCall, cCallL, cTup, cLst, aNil, aCons, cIxV, slotD, gNm, gTp, gMore, gNone, gSb, cLenV, cChain, cAnd, cOr, cNot, asB, tAnd, tOr, tNot, cIf, DL.ret, finF, ioOf, RF.to, RF.io, Sl.mut, Sl.put, Sl.data, Sl.dat, D.bool, D.addE, D.add, D.sub, D.mul, D.div, D.mod, D.pow, D.lt, D.ltE, D.le, D.gt, D.ge, D.neg, opLen, opInt, opAbs, opTuple, opList, opStr, opRepr, opAny, opAll, opSum, cFn, cFnIO, cMeth, cNew, cFld]) (by omega)
  obtain ⟨d2, e2, m2, i2, h2⟩ := sd_one (ds := [.int 0, .int 1, .int 2000, .int (-5), .int 1000000000000, .int (-1000000000000)]) i1 (by simp [runV, runIO2, runIO, sRet, sSeq, sAsg, sSet, sPar, sIf, sNext, sDrop, thaw, frz, cOp, cVar, cMove, cC, cUn, cCall, cCallL, cTup, cLst, aNil, aCons, cIxV, slotD, gNm, gTp, gMore, gNone, gSb, cLenV, cChain, cAnd, cOr, cNot, asB, tAnd, tOr, tNot, cIf, DL.ret, finF, ioOf, RF.to, RF.io, Sl.mut, Sl.put, Sl.data, Sl.dat, D.bool, D.addE, D.add, D.sub, D.mul, D.div, D.mod, D.pow, D.lt, D.ltE, D.le, D.gt, D.ge, D.neg, opLen, opInt, opAbs, opTuple, opList, opStr, opRepr, opAny, opAll, opSum, cFn, cFnIO, cMeth, cNew, cFld]) (by simp [runV, runIO2, runIO, sRet, sSeq, sAsg, sSet, sPar, sIf, sNext, sDrop, thaw, frz, cOp, cVar, cMove, cC, cUn, cCall, cCallL, cTup, cLst, aNil, aCons, cIxV, slotD, gNm, gTp, gMore, gNone, gSb, cLenV, cChain, cAnd, cOr, cNot, asB, tAnd, tOr, tNot, cIf, DL.ret, finF, ioOf, RF.to, RF.io, Sl.mut, Sl.put, Sl.data, Sl.dat, D.bool, D.addE, D.add, D.sub, D.mul, D.div, D.mod, D.pow, D.lt, D.ltE, D.le, D.gt, D.ge, D.neg, opLen, opInt, opAbs, opTuple, opList, opStr, opRepr, opAny, opAll, opSum, cFn, cFnIO, cMeth, cNew, cFld]) (by omega)
  have q1 : ∃ ep : Int, d1 = .int ep ∧ (-1000000000000 ≤ ep ∧ ep ≤ 1000000000000) := by
    rcases six _ _ _ _ _ _ rfl m1 with rfl | rfl | rfl | rfl | rfl | rfl <;> exact ⟨_, rfl, by omega⟩
  have q2 : ∃ ba : Int, d2 = .int ba ∧ (-1000000000000 ≤ ba ∧ ba ≤ 1000000000000) := by
    rcases six _ _ _ _ _ _ rfl m2 with rfl | rfl | rfl | rfl | rfl | rfl <;> exact ⟨_, rfl, by omega⟩
  obtain ⟨ep, rfl, p1⟩ := q1
  obtain ⟨ba, rfl, p2⟩ := q2
  refine ⟨ep, ba, e2, [.io e2, .val (.lst (ks.map msD)), s2, .no, .val (.tup (ys.map nat))], p1, p2, by rw [show n + 2 = n + 1 + 1 by omega]; exact i2, rfl, ?_⟩
  simp [runV, runIO2, runIO, sRet, sSeq, sAsg, sSet, sPar, sIf, sNext, sDrop, thaw, frz, cOp, cVar, cMove, cC, cUn, cCall, cCallL, cTup, cLst, aNil, aCons, cIxV, slotD, gNm, gTp, gMore, gNone, gSb, cLenV, cChain, cAnd, cOr, cNot, asB, tAnd, tOr, tNot, cIf, DL.ret, finF, ioOf, RF.to, RF.io, Sl.mut, Sl.put, Sl.data, Sl.dat, D.bool, D.addE, D.add, D.sub, D.mul, D.div, D.mod, D.pow, D.lt, D.ltE, D.le, D.gt, D.ge, D.neg, opLen, opInt, opAbs, opTuple, opList, opStr, opRepr, opAny, opAll, opSum, cFn, cFnIO, cMeth, cNew, cFld, dm_ret, h1, h2]
theorem drawn_made_ok {ns : List Int} (n : Int) (es : List D) (s : Sd ns n es) (hn : n < 2 ^ 35) : ∃ (c : Mcal) (es' : List D), c.Ok ∧ Sd ns (n + 50) es' ∧ m_u_law_drawn_made es [] = .ok (.val c.d) (some es') := by
  obtain ⟨v, e1, a1, b1, i1, h1⟩ := sd_any (many := 3) s (by decide) (by decide) (by omega)
  have sp : (span 0 (1 + v).toNat).length = (1 + v).toNat := span_length _ _
  obtain ⟨ks, t2, e2, l, gs, i2, mt, h2⟩ := kinds_drawn (ns := ns) .no (span 0 (1 + v).toNat) [] .no (n + 1) e1 i1 (by rw [sp]; omega) (by rw [sp]; simp [runV, runIO2, runIO, sRet, sSeq, sAsg, sSet, sPar, sIf, sNext, sDrop, thaw, frz, cOp, cVar, cMove, cC, cUn, cCall, cCallL, cTup, cLst, aNil, aCons, cIxV, slotD, gNm, gTp, gMore, gNone, gSb, cLenV, cChain, cAnd, cOr, cNot, asB, tAnd, tOr, tNot, cIf, DL.ret, finF, ioOf, RF.to, RF.io, Sl.mut, Sl.put, Sl.data, Sl.dat, D.bool, D.addE, D.add, D.sub, D.mul, D.div, D.mod, D.pow, D.lt, D.ltE, D.le, D.gt, D.ge, D.neg, opLen, opInt, opAbs, opTuple, opList, opStr, opRepr, opAny, opAll, opSum, cFn, cFnIO, cMeth, cNew, cFld]; omega)
  rw [sp] at l i2
  obtain ⟨ks', e3, k1, k2, km, i3, h3⟩ := dup_ok ks (by omega) (by omega) t2 .no _ e2 i2 (by omega)
  obtain ⟨ys, e4, y1, y2, yk, i4, h4⟩ := yrs_ok ks' k1 k2 t2 (mt rfl) _ e3 i3 (by omega)
  obtain ⟨ep, ba, e5, ρ, p1, p2, i5, r0, h5⟩ := ret_ok ks' ys t2 _ e4 i4 (by omega)
  refine ⟨⟨ep, ba, ks', ys⟩, e5, ⟨k1, by show ks'.length ≤ 12; omega, y1, by show ys.length ≤ 500; omega, yk, fun ms hm => (gs ms (km ms hm)).1, fun ms hm => (gs ms (km ms hm)).2, p1, p2⟩, i5.le (by omega), ?_⟩
  have g0 : sSet 1 (cLst aNil) [.io es, .no, .no, .no, .no] = .ok .next [.io es, .own [], .no, .no, .no] := by simp [runV, runIO2, runIO, sRet, sSeq, sAsg, sSet, sPar, sIf, sNext, sDrop, thaw, frz, cOp, cVar, cMove, cC, cUn, cCall, cCallL, cTup, cLst, aNil, aCons, cIxV, slotD, gNm, gTp, gMore, gNone, gSb, cLenV, cChain, cAnd, cOr, cNot, asB, tAnd, tOr, tNot, cIf, DL.ret, finF, ioOf, RF.to, RF.io, Sl.mut, Sl.put, Sl.data, Sl.dat, D.bool, D.addE, D.add, D.sub, D.mul, D.div, D.mod, D.pow, D.lt, D.ltE, D.le, D.gt, D.ge, D.neg, opLen, opInt, opAbs, opTuple, opList, opStr, opRepr, opAny, opAll, opSum, cFn, cFnIO, cMeth, cNew, cFld]
  have hi : cSpan D.span1 (aCons (cOp D.addE (cC (.int 1)) (frz (cFnIO 0 m_u_law_any (aCons (cC (.int 3)) aNil)))) aNil) [.io es, .own [], .no, .no, .no] = .ok (span 0 (1 + v).toNat) [.io e1, .own [], .no, .no, .no] := by
    simp [runV, runIO2, runIO, sRet, sSeq, sAsg, sSet, sPar, sIf, sNext, sDrop, thaw, frz, cOp, cVar, cMove, cC, cUn, cCall, cCallL, cTup, cLst, aNil, aCons, cIxV, slotD, gNm, gTp, gMore, gNone, gSb, cLenV, cChain, cAnd, cOr, cNot, asB, tAnd, tOr, tNot, cIf, DL.ret, finF, ioOf, RF.to, RF.io, Sl.mut, Sl.put, Sl.data, Sl.dat, D.bool, D.addE, D.add, D.sub, D.mul, D.div, D.mod, D.pow, D.lt, D.ltE, D.le, D.gt, D.ge, D.neg, opLen, opInt, opAbs, opTuple, opList, opStr, opRepr, opAny, opAll, opSum, cFn, cFnIO, cMeth, cNew, cFld, cSpan, D.span1, h1]
  have hr : m_u_law_drawn_made es [] = (finF (b_u_law_drawn_made [.io es, .no, .no, .no, .no])).io := rfl
  have h3' : dm_dup [.io e2, .own (ks.map msD), t2, .no, .no] = .ok .next [.io e3, .own (ks'.map msD), t2, .no, .no] := h3
  have f2 := (for_ok (g := gNm 2) (mb := l_u_law_drawn_made_1) hi).trans h2
  simp only [List.nil_append] at f2
  rw [hr, dm_eq, seq_next g0, seq_next f2, seq_next h3', seq_next h4, h5]
  simp [runV, runIO2, runIO, sRet, sSeq, sAsg, sSet, sPar, sIf, sNext, sDrop, thaw, frz, cOp, cVar, cMove, cC, cUn, cCall, cCallL, cTup, cLst, aNil, aCons, cIxV, slotD, gNm, gTp, gMore, gNone, gSb, cLenV, cChain, cAnd, cOr, cNot, asB, tAnd, tOr, tNot, cIf, DL.ret, finF, ioOf, RF.to, RF.io, Sl.mut, Sl.put, Sl.data, Sl.dat, D.bool, D.addE, D.add, D.sub, D.mul, D.div, D.mod, D.pow, D.lt, D.ltE, D.le, D.gt, D.ge, D.neg, opLen, opInt, opAbs, opTuple, opList, opStr, opRepr, opAny, opAll, opSum, cFn, cFnIO, cMeth, cNew, cFld, r0, Mcal.d]
end Wk29

end
section
namespace Wk29
open PySem DL CAL
structure CalOf (x : D) (c : Mcal) : Prop where
  ok : c.Ok
  hn : m_need_calendar [x] = .ok (.val c.d) none
  hm : m_u_law_made [x] = .ok (.val c.d) none
  nm : x = c.d ∨ ∃ s, x = .str s ∧ ∀ (day y : Int) (m : Nat) (d : Int), IsD c.cal day y m d → m_u_law_civil [.str s, dateD y m d] = .ok (.val (.int day)) none
theorem of_greg : CalOf (.str "gregorian") gregC := ⟨greg_ok, nd_greg, md_greg, .inr ⟨_, rfl, fun _ _ _ _ i => cv_greg i⟩⟩
theorem of_jul : CalOf (.str "julian") julC := ⟨jul_ok, nd_jul, md_jul, .inr ⟨_, rfl, fun _ _ _ _ i => cv_jul i⟩⟩
theorem of_isl : CalOf (.str "islamic") islC := ⟨isl_ok, nd_isl, md_isl, .inr ⟨_, rfl, fun _ _ _ _ i => cv_isl i⟩⟩
theorem of_cop : CalOf (.str "coptic") copC := ⟨cop_ok, nd_cop, md_cop, .inr ⟨_, rfl, fun _ _ _ _ i => cv_cop i⟩⟩
theorem of_made {c : Mcal} (h : c.Ok) : CalOf c.d c := ⟨h, ev_need h, md_made c, .inl rfl⟩
theorem drawn_cal_ok {ns : List Int} (n : Int) (es : List D) (s : Sd ns n es) (hn : n < 2 ^ 34) : ∃ (x : D) (c : Mcal) (es' : List D), CalOf x c ∧ Sd ns (n + 51) es' ∧ m_u_law_drawn_calendar es [] = .ok (.val x) (some es') := by
  obtain ⟨v, e1, a1, b1, i1, h1⟩ := sd_any (many := 2) s (by decide) (by decide) (by omega)
  by_cases q : v = 0
  · obtain ⟨d, e2, m2, i2, h2⟩ := sd_one (ds := [.str "gregorian", .str "julian", .str "islamic", .str "coptic"]) i1 (by simp [runV, runIO2, runIO, sRet, sSeq, sAsg, sSet, sPar, sIf, sNext, sDrop, thaw, frz, cOp, cVar, cMove, cC, cUn, cCall, cCallL, cTup, cLst, aNil, aCons, cIxV, slotD, gNm, gTp, gMore, gNone, gSb, cLenV, cChain, cAnd, cOr, cNot, asB, tAnd, tOr, tNot, cIf, DL.ret, finF, ioOf, RF.to, RF.io, Sl.mut, Sl.put, Sl.data, Sl.dat, D.bool, D.addE, D.add, D.sub, D.mul, D.div, D.mod, D.pow, D.lt, D.ltE, D.le, D.gt, D.ge, D.neg, opLen, opInt, opAbs, opTuple, opList, opStr, opRepr, opAny, opAll, opSum, cFn, cFnIO, cMeth, cNew, cFld]) (by simp [runV, runIO2, runIO, sRet, sSeq, sAsg, sSet, sPar, sIf, sNext, sDrop, thaw, frz, cOp, cVar, cMove, cC, cUn, cCall, cCallL, cTup, cLst, aNil, aCons, cIxV, slotD, gNm, gTp, gMore, gNone, gSb, cLenV, cChain, cAnd, cOr, cNot, asB, tAnd, tOr, tNot, cIf, DL.ret, finF, ioOf, RF.to, RF.io, Sl.mut, Sl.put, Sl.data, Sl.dat, D.bool, D.addE, D.add, D.sub, D.mul, D.div, D.mod, D.pow, D.lt, D.ltE, D.le, D.gt, D.ge, D.neg, opLen, opInt, opAbs, opTuple, opList, opStr, opRepr, opAny, opAll, opSum, cFn, cFnIO, cMeth, cNew, cFld]) (by omega)
    have hc : ∃ c, CalOf d c := by
      simp only [List.mem_cons, List.not_mem_nil, or_false] at m2
      rcases m2 with rfl | rfl | rfl | rfl
      · exact ⟨_, of_greg⟩
      · exact ⟨_, of_jul⟩
      · exact ⟨_, of_isl⟩
      · exact ⟨_, of_cop⟩
    obtain ⟨c, hc⟩ := hc
    refine ⟨d, c, e2, hc, i2.le (by omega), ?_⟩
    simp [runV, runIO2, runIO, sRet, sSeq, sAsg, sSet, sPar, sIf, sNext, sDrop, thaw, frz, cOp, cVar, cMove, cC, cUn, cCall, cCallL, cTup, cLst, aNil, aCons, cIxV, slotD, gNm, gTp, gMore, gNone, gSb, cLenV, cChain, cAnd, cOr, cNot, asB, tAnd, tOr, tNot, cIf, DL.ret, finF, ioOf, RF.to, RF.io, Sl.mut, Sl.put, Sl.data, Sl.dat, D.bool, D.addE, D.add, D.sub, D.mul, D.div, D.mod, D.pow, D.lt, D.ltE, D.le, D.gt, D.ge, D.neg, opLen, opInt, opAbs, opTuple, opList, opStr, opRepr, opAny, opAll, opSum, cFn, cFnIO, cMeth, cNew, cFld, m_u_law_drawn_calendar, b_u_law_drawn_calendar, h1, q, h2]
  · obtain ⟨c, e2, ok, i2, h2⟩ := drawn_made_ok (n + 1) e1 i1 (by omega)
    refine ⟨c.d, c, e2, of_made ok, i2.le (by omega), ?_⟩
    simp [runV, runIO2, runIO, sRet, sSeq, sAsg, sSet, sPar, sIf, sNext, sDrop, thaw, frz, cOp, cVar, cMove, cC, cUn, cCall, cCallL, cTup, cLst, aNil, aCons, cIxV, slotD, gNm, gTp, gMore, gNone, gSb, cLenV, cChain, cAnd, cOr, cNot, asB, tAnd, tOr, tNot, cIf, DL.ret, finF, ioOf, RF.to, RF.io, Sl.mut, Sl.put, Sl.data, Sl.dat, D.bool, D.addE, D.add, D.sub, D.mul, D.div, D.mod, D.pow, D.lt, D.ltE, D.le, D.gt, D.ge, D.neg, opLen, opInt, opAbs, opTuple, opList, opStr, opRepr, opAny, opAll, opSum, cFn, cFnIO, cMeth, cNew, cFld, m_u_law_drawn_calendar, b_u_law_drawn_calendar, h1, q, h2]
theorem ends_ok {ns : List Int} {x : D} {c : Mcal} (o : CalOf x c) (n : Int) (es : List D) (s : Sd ns n es) (hn : n < 2 ^ 34) : ∃ (ds : List Int) (es' : List D), Sd ns (n + 15) es' ∧ m_u_law_ends_and_far es [x] = .ok (.val (.lst (ds.map D.int))) (some es') := by
  obtain ⟨d, e1, m1, i1, h1⟩ := sd_one (ds := [.int 2000, .int 1900, .int 2100, .int 4, .int 1, .int 0, .int (-1), .int (-400), .int 1582, .int 100000000000000000007]) s (by simp [runV, runIO2, runIO, sRet, sSeq, sAsg, sSet, sPar, sIf, sNext, sDrop, thaw, frz, cOp, cVar, cMove, cC, cUn, cCall, cCallL, cTup, cLst, aNil, aCons, cIxV, slotD, gNm, gTp, gMore, gNone, gSb, cLenV, cChain, cAnd, cOr, cNot, asB, tAnd, tOr, tNot, cIf, DL.ret, finF, ioOf, RF.to, RF.io, Sl.mut, Sl.put, Sl.data, Sl.dat, D.bool, D.addE, D.add, D.sub, D.mul, D.div, D.mod, D.pow, D.lt, D.ltE, D.le, D.gt, D.ge, D.neg, opLen, opInt, opAbs, opTuple, opList, opStr, opRepr, opAny, opAll, opSum, cFn, cFnIO, cMeth, cNew, cFld]) (by simp [runV, runIO2, runIO, sRet, sSeq, sAsg, sSet, sPar, sIf, sNext, sDrop, thaw, frz, cOp, cVar, cMove, cC, cUn, cCall, cCallL, cTup, cLst, aNil, aCons, cIxV, slotD, gNm, gTp, gMore, gNone, gSb, cLenV, cChain, cAnd, cOr, cNot, asB, tAnd, tOr, tNot, cIf, DL.ret, finF, ioOf, RF.to, RF.io, Sl.mut, Sl.put, Sl.data, Sl.dat, D.bool, D.addE, D.add, D.sub, D.mul, D.div, D.mod, D.pow, D.lt, D.ltE, D.le, D.gt, D.ge, D.neg, opLen, opInt, opAbs, opTuple, opList, opStr, opRepr, opAny, opAll, opSum, cFn, cFnIO, cMeth, cNew, cFld]) (by omega)
  have q : ∃ y : Int, d = .int y := by
    simp only [List.mem_cons, List.not_mem_nil, or_false] at m1
    rcases m1 with rfl | rfl | rfl | rfl | rfl | rfl | rfl | rfl | rfl | rfl <;> exact ⟨_, rfl⟩
  obtain ⟨y, rfl⟩ := q
  obtain ⟨f1, e2, i2, h2⟩ := sd_far i1 (by omega)
  obtain ⟨f2, e3, i3, h3⟩ := sd_far i2 (by omega)
  have yb := ev_year_begin o.ok o.hm y
  have ix0 : D.ixI c.d (.int 0) = some (.int c.epoch) := rfl
  have lc : cLc [4] (cItems (cTup (aCons (cUn D.neg (cC (.int 1))) (aCons (cC (.int 0)) (aCons (cC (.int 58)) (aCons (cC (.int 59)) (aCons (cC (.int 60)) aNil))))))) (gNm 4) tTrue e_u_law_ends_and_far_0 [.io e1, .val x, .val (.int y), .no, .no] =
      .ok (.own ([D.int (-1), .int 0, .int 58, .int 59, .int 60].map fun d => (D.addE (.int (c.cal.start y)) d).getD .non)) [.io e1, .val x, .val (.int y), .no, .no] :=
    lc_ok (ρ1 := [.io e1, .val x, .val (.int y), .no, .no]) _ (by simp [runV, runIO2, runIO, sRet, sSeq, sAsg, sSet, sPar, sIf, sNext, sDrop, thaw, frz, cOp, cVar, cMove, cC, cUn, cCall, cCallL, cTup, cLst, aNil, aCons, cIxV, slotD, gNm, gTp, gMore, gNone, gSb, cLenV, cChain, cAnd, cOr, cNot, asB, tAnd, tOr, tNot, cIf, DL.ret, finF, ioOf, RF.to, RF.io, Sl.mut, Sl.put, Sl.data, Sl.dat, D.bool, D.addE, D.add, D.sub, D.mul, D.div, D.mod, D.pow, D.lt, D.ltE, D.le, D.gt, D.ge, D.neg, opLen, opInt, opAbs, opTuple, opList, opStr, opRepr, opAny, opAll, opSum, cFn, cFnIO, cMeth, cNew, cFld, cItems, D.items]) rfl (fun d hd => by
      simp only [List.mem_cons, List.not_mem_nil, or_false] at hd
      rcases hd with rfl | rfl | rfl | rfl | rfl <;> simp [runV, runIO2, runIO, sRet, sSeq, sAsg, sSet, sPar, sIf, sNext, sDrop, thaw, frz, cOp, cVar, cMove, cC, cUn, cCall, cCallL, cTup, cLst, aNil, aCons, cIxV, slotD, gNm, gTp, gMore, gNone, gSb, cLenV, cChain, cAnd, cOr, cNot, asB, tAnd, tOr, tNot, cIf, DL.ret, finF, ioOf, RF.to, RF.io, Sl.mut, Sl.put, Sl.data, Sl.dat, D.bool, D.addE, D.add, D.sub, D.mul, D.div, D.mod, D.pow, D.lt, D.ltE, D.le, D.gt, D.ge, D.neg, opLen, opInt, opAbs, opTuple, opList, opStr, opRepr, opAny, opAll, opSum, cFn, cFnIO, cMeth, cNew, cFld, e_u_law_ends_and_far_0, yb]) size_5
  simp only [List.map_cons, List.map_nil, D.addE, D.add, Option.getD_some] at lc
  refine ⟨[c.cal.start y + -1, c.cal.start y + 0, c.cal.start y + 58, c.cal.start y + 59, c.cal.start y + 60, f1, f2, c.epoch, c.epoch - 1], e3, i3.le (by omega), ?_⟩
  simp [runV, runIO2, runIO, sRet, sSeq, sAsg, sSet, sPar, sIf, sNext, sDrop, thaw, frz, cOp, cVar, cMove, cC, cUn, cCall, cCallL, cTup, cLst, aNil, aCons, cIxV, slotD, gNm, gTp, gMore, gNone, gSb, cLenV, cChain, cAnd, cOr, cNot, asB, tAnd, tOr, tNot, cIf, DL.ret, finF, ioOf, RF.to, RF.io, Sl.mut, Sl.put, Sl.data, Sl.dat, D.bool, D.addE, D.add, D.sub, D.mul, D.div, D.mod, D.pow, D.lt, D.ltE, D.le, D.gt, D.ge, D.neg, opLen, opInt, opAbs, opTuple, opList, opStr, opRepr, opAny, opAll, opSum, cFn, cFnIO, cMeth, cNew, cFld, m_u_law_ends_and_far, b_u_law_ends_and_far, h1, lc, h2, h3, o.hm, ix0]
theorem five {α : Type} {P : α → Prop} {a b c d e x : α} (h : x ∈ [a, b, c, d, e]) (pa : P a) (pb : P b) (pc : P c) (pd : P d) (pe : P e) : P x := by
  simp only [List.mem_cons, List.not_mem_nil, or_false] at h
  rcases h with rfl | rfl | rfl | rfl | rfl <;> assumption
noncomputable def ld_get : M Fl := (sAsg (frz (cFn m_u_law_made (aCons (cVar 1) aNil))) (gTp (gMore (gNm 2) (gMore (gNm 3) (gMore (gNm 4) (gMore (gNm 5) gNone))))))
noncomputable def ld_two : M Fl := (sPar 6 7 (aCons (frz (cFnIO 0 m_u_law_one_of (aCons (frz (cLst (aCons (cC (.int 1)) (aCons (cUn D.neg (cC (.int 1))) (aCons (cC (.int 250000)) (aCons (cUn D.neg (cC (.int 249999))) (aCons (cOp D.pow (cC (.int 10)) (cC (.int 11))) aNil))))))) aNil))) (aCons (frz (cFnIO 0 m_u_law_one_of (aCons (frz (cLst (aCons (cC (.int 1)) (aCons (cUn D.neg (cC (.int 3))) (aCons (cOp D.pow (cC (.int 10)) (cC (.int 11))) aNil))))) aNil))) aNil)))
noncomputable def ld_out : M Fl := (sIf (tOr (asB (cOp D.gt (cCall opAbs (aCons (cOp D.addE (cVar 2) (cVar 6)) aNil)) (cOp D.pow (cC (.int 10)) (cC (.int 12))))) (asB (cOp D.gt (cCall opAbs (aCons (cOp D.addE (cVar 3) (cVar 7)) aNil)) (cOp D.pow (cC (.int 10)) (cC (.int 12)))))) (sRet (thaw (cC (.bl true)))) sNext)
noncomputable def ld_end : M Fl := (sSeq (sPar 8 9 (aCons (cTup (aCons (cOp D.addE (cVar 2) (cVar 6)) (aCons (cOp D.addE (cVar 3) (cVar 7)) (aCons (cVar 4) (aCons (cVar 5) aNil))))) (aCons (frz (cFnIO 0 m_u_law_far aNil)) aNil))) (sSeq (sSet 10 (cFn m_date_of (aCons (cVar 1) (aCons (cVar 9) aNil)))) (sRet (thaw (cAnd (cOp D.eq (frz (cFn m_date_of (aCons (cVar 8) (aCons (cOp D.addE (cVar 9) (cVar 6)) aNil)))) (cOp D.addE (cTup (aCons (cOp D.addE (cIxV 10 (cC (.int 0))) (cVar 7)) aNil)) (frz (cSl (cVar 10) (oSome (cC (.int 1))) oNone)))) (cOp D.eq (frz (cFn m_day_of (aCons (cVar 8) (aCons (cOp D.addE (cTup (aCons (cOp D.addE (cIxV 10 (cC (.int 0))) (cVar 7)) aNil)) (frz (cSl (cVar 10) (oSome (cC (.int 1))) oNone))) aNil)))) (cOp D.addE (cVar 9) (cVar 6))))))))
theorem ld_eq : b_u_law_led_along = sSeq ld_get (sSeq ld_two (sSeq ld_out ld_end)) := rfl
theorem led_ok {ns : List Int} {x : D} {c : Mcal} (o : CalOf x c) (n : Int) (es : List D) (s : Sd ns n es) (hn : n < 2 ^ 34) : ∃ (es' : List D), Sd ns (n + 9) es' ∧ m_u_law_led_along es [x] = .ok (.val (.bl true)) (some es') := by
  obtain ⟨d1, e1, m1, i1, h1⟩ := sd_one (ds := [.int 1, .int (-1), .int 250000, .int (-249999), .int 100000000000]) s (by simp [runV, runIO2, runIO, sRet, sSeq, sAsg, sSet, sPar, sIf, sNext, sDrop, thaw, frz, cOp, cVar, cMove, cC, cUn, cCall, cCallL, cTup, cLst, aNil, aCons, cIxV, slotD, gNm, gTp, gMore, gNone, gSb, cLenV, cChain, cAnd, cOr, cNot, asB, tAnd, tOr, tNot, cIf, DL.ret, finF, ioOf, RF.to, RF.io, Sl.mut, Sl.put, Sl.data, Sl.dat, D.bool, D.addE, D.add, D.sub, D.mul, D.div, D.mod, D.pow, D.lt, D.ltE, D.le, D.gt, D.ge, D.neg, opLen, opInt, opAbs, opTuple, opList, opStr, opRepr, opAny, opAll, opSum, cFn, cFnIO, cMeth, cNew, cFld]) (by simp [runV, runIO2, runIO, sRet, sSeq, sAsg, sSet, sPar, sIf, sNext, sDrop, thaw, frz, cOp, cVar, cMove, cC, cUn, cCall, cCallL, cTup, cLst, aNil, aCons, cIxV, slotD, gNm, gTp, gMore, gNone, gSb, cLenV, cChain, cAnd, cOr, cNot, asB, tAnd, tOr, tNot, cIf, DL.ret, finF, ioOf, RF.to, RF.io, Sl.mut, Sl.put, Sl.data, Sl.dat, D.bool, D.addE, D.add, D.sub, D.mul, D.div, D.mod, D.pow, D.lt, D.ltE, D.le, D.gt, D.ge, D.neg, opLen, opInt, opAbs, opTuple, opList, opStr, opRepr, opAny, opAll, opSum, cFn, cFnIO, cMeth, cNew, cFld]) (by omega)
  obtain ⟨d2, e2, m2, i2, h2⟩ := sd_one (ds := [.int 1, .int (-3), .int 100000000000]) i1 (by simp [runV, runIO2, runIO, sRet, sSeq, sAsg, sSet, sPar, sIf, sNext, sDrop, thaw, frz, cOp, cVar, cMove, cC, cUn, cCall, cCallL, cTup, cLst, aNil, aCons, cIxV, slotD, gNm, gTp, gMore, gNone, gSb, cLenV, cChain, cAnd, cOr, cNot, asB, tAnd, tOr, tNot, cIf, DL.ret, finF, ioOf, RF.to, RF.io, Sl.mut, Sl.put, Sl.data, Sl.dat, D.bool, D.addE, D.add, D.sub, D.mul, D.div, D.mod, D.pow, D.lt, D.ltE, D.le, D.gt, D.ge, D.neg, opLen, opInt, opAbs, opTuple, opList, opStr, opRepr, opAny, opAll, opSum, cFn, cFnIO, cMeth, cNew, cFld]) (by simp [runV, runIO2, runIO, sRet, sSeq, sAsg, sSet, sPar, sIf, sNext, sDrop, thaw, frz, cOp, cVar, cMove, cC, cUn, cCall, cCallL, cTup, cLst, aNil, aCons, cIxV, slotD, gNm, gTp, gMore, gNone, gSb, cLenV, cChain, cAnd, cOr, cNot, asB, tAnd, tOr, tNot, cIf, DL.ret, finF, ioOf, RF.to, RF.io, Sl.mut, Sl.put, Sl.data, Sl.dat, D.bool, D.addE, D.add, D.sub, D.mul, D.div, D.mod, D.pow, D.lt, D.ltE, D.le, D.gt, D.ge, D.neg, opLen, opInt, opAbs, opTuple, opList, opStr, opRepr, opAny, opAll, opSum, cFn, cFnIO, cMeth, cNew, cFld]) (by omega)
  have q1 : ∃ more : Int, d1 = .int more := by
    simp only [List.mem_cons, List.not_mem_nil, or_false] at m1
    rcases m1 with rfl | rfl | rfl | rfl | rfl <;> exact ⟨_, rfl⟩
  have q2 : ∃ later : Int, d2 = .int later := by
    simp only [List.mem_cons, List.not_mem_nil, or_false] at m2
    rcases m2 with rfl | rfl | rfl <;> exact ⟨_, rfl⟩
  obtain ⟨more, rfl⟩ := q1
  obtain ⟨later, rfl⟩ := q2
  have hr : m_u_law_led_along es [x] = (finF (b_u_law_led_along [.io es, .val x, .no, .no, .no, .no, .no, .no, .no, .no, .no])).io := rfl
  have g1 : ld_get [.io es, .val x, .no, .no, .no, .no, .no, .no, .no, .no, .no] = .ok .next [.io es, .val x, .val (.int c.epoch), .val (.int c.base), .val (.tup (c.kinds.map msD)), .val (.tup (c.years.map nat)), .no, .no, .no, .no, .no] := by
    simp [runV, runIO2, runIO, sRet, sSeq, sAsg, sSet, sPar, sIf, sNext, sDrop, thaw, frz, cOp, cVar, cMove, cC, cUn, cCall, cCallL, cTup, cLst, aNil, aCons, cIxV, slotD, gNm, gTp, gMore, gNone, gSb, cLenV, cChain, cAnd, cOr, cNot, asB, tAnd, tOr, tNot, cIf, DL.ret, finF, ioOf, RF.to, RF.io, Sl.mut, Sl.put, Sl.data, Sl.dat, D.bool, D.addE, D.add, D.sub, D.mul, D.div, D.mod, D.pow, D.lt, D.ltE, D.le, D.gt, D.ge, D.neg, opLen, opInt, opAbs, opTuple, opList, opStr, opRepr, opAny, opAll, opSum, cFn, cFnIO, cMeth, cNew, cFld, ld_get, o.hm, Mcal.d]
  have g2 : ld_two [.io es, .val x, .val (.int c.epoch), .val (.int c.base), .val (.tup (c.kinds.map msD)), .val (.tup (c.years.map nat)), .no, .no, .no, .no, .no] = .ok .next [.io e2, .val x, .val (.int c.epoch), .val (.int c.base), .val (.tup (c.kinds.map msD)), .val (.tup (c.years.map nat)), .val (.int more), .val (.int later), .no, .no, .no] := by
    simp [runV, runIO2, runIO, sRet, sSeq, sAsg, sSet, sPar, sIf, sNext, sDrop, thaw, frz, cOp, cVar, cMove, cC, cUn, cCall, cCallL, cTup, cLst, aNil, aCons, cIxV, slotD, gNm, gTp, gMore, gNone, gSb, cLenV, cChain, cAnd, cOr, cNot, asB, tAnd, tOr, tNot, cIf, DL.ret, finF, ioOf, RF.to, RF.io, Sl.mut, Sl.put, Sl.data, Sl.dat, D.bool, D.addE, D.add, D.sub, D.mul, D.div, D.mod, D.pow, D.lt, D.ltE, D.le, D.gt, D.ge, D.neg, opLen, opInt, opAbs, opTuple, opList, opStr, opRepr, opAny, opAll, opSum, cFn, cFnIO, cMeth, cNew, cFld, ld_two, h1, h2]
  by_cases q : (-1000000000000 ≤ c.epoch + more ∧ c.epoch + more ≤ 1000000000000) ∧ (-1000000000000 ≤ c.base + later ∧ c.base + later ≤ 1000000000000)
  · obtain ⟨f, e3, i3, h3⟩ := sd_far i2 (by omega)
    have g3 : ld_out [.io e2, .val x, .val (.int c.epoch), .val (.int c.base), .val (.tup (c.kinds.map msD)), .val (.tup (c.years.map nat)), .val (.int more), .val (.int later), .no, .no, .no] = .ok .next [.io e2, .val x, .val (.int c.epoch), .val (.int c.base), .val (.tup (c.kinds.map msD)), .val (.tup (c.years.map nat)), .val (.int more), .val (.int later), .no, .no, .no] := by
      have a1 : ¬ 1000000000000 < (if c.epoch + more < 0 then -(c.epoch + more) else c.epoch + more) := by split <;> omega
      have a2 : ¬ 1000000000000 < (if c.base + later < 0 then -(c.base + later) else c.base + later) := by split <;> omega
      simp only [ld_out, sIf, cIf, tOr, asB, cOp, cCall, aCons, aNil, cVar, cC, List.getElem?_cons_zero, List.getElem?_cons_succ, R.bind_ok, D.addE, D.add, DL.ret, opAbs, D.pow, D.gt, D.bool]
      simp [runV, runIO2, runIO, sRet, sSeq, sAsg, sSet, sPar, sIf, sNext, sDrop, thaw, frz, cOp, cVar, cMove, cC, cUn, cCall, cCallL, cTup, cLst, aNil, aCons, cIxV, slotD, gNm, gTp, gMore, gNone, gSb, cLenV, cChain, cAnd, cOr, cNot, asB, tAnd, tOr, tNot, cIf, DL.ret, finF, ioOf, RF.to, RF.io, Sl.mut, Sl.put, Sl.data, Sl.dat, D.bool, D.addE, D.add, D.sub, D.mul, D.div, D.mod, D.pow, D.lt, D.ltE, D.le, D.gt, D.ge, D.neg, opLen, opInt, opAbs, opTuple, opList, opStr, opRepr, opAny, opAll, opSum, cFn, cFnIO, cMeth, cNew, cFld, a1, a2]
    have o2 : CalOf (Mcal.d ⟨c.epoch + more, c.base + later, c.kinds, c.years⟩) ⟨c.epoch + more, c.base + later, c.kinds, c.years⟩ := of_made ⟨o.ok.k1, o.ok.k2, o.ok.y1, o.ok.y2, o.ok.yk, o.ok.m1, o.ok.mo, q.1, q.2⟩
    obtain ⟨y, m, dd, i⟩ := isD_ex o.ok.cal f
    have j : IsD (Mcal.cal ⟨c.epoch + more, c.base + later, c.kinds, c.years⟩) (f + more) (y + later) m dd := isD_led i more later
    have t1 := ev_date_of o.ok o.hn i
    have t2 := ev_date_of o2.ok o2.hn j
    have t3 := ev_day_of o2.ok o2.hn j
    have fold : D.tup [.int (c.epoch + more), .int (c.base + later), .tup (c.kinds.map msD), .tup (c.years.map nat)] = Mcal.d ⟨c.epoch + more, c.base + later, c.kinds, c.years⟩ := rfl
    refine ⟨e3, i3.le (by omega), ?_⟩
    rw [hr, ld_eq, seq_next g1, seq_next g2, seq_next g3]
    have ee : D.eq (dateD (y + later) m dd) (dateD (y + later) m dd) = some (.bl true) := dt_eq _ _ _
    simp [runV, runIO2, runIO, sRet, sSeq, sAsg, sSet, sPar, sIf, sNext, sDrop, thaw, frz, cOp, cVar, cMove, cC, cUn, cCall, cCallL, cTup, cLst, aNil, aCons, cIxV, slotD, gNm, gTp, gMore, gNone, gSb, cLenV, cChain, cAnd, cOr, cNot, asB, tAnd, tOr, tNot, cIf, DL.ret, finF, ioOf, RF.to, RF.io, Sl.mut, Sl.put, Sl.data, Sl.dat, D.bool, D.addE, D.add, D.sub, D.mul, D.div, D.mod, D.pow, D.lt, D.ltE, D.le, D.gt, D.ge, D.neg, opLen, opInt, opAbs, opTuple, opList, opStr, opRepr, opAny, opAll, opSum, cFn, cFnIO, cMeth, cNew, cFld, ld_end, h3, fold, t1, t2, t3, cSl, oNone, oSome, dt_ix0, dt_sl, dt_tup, ee]
  · have g3 : ld_out [.io e2, .val x, .val (.int c.epoch), .val (.int c.base), .val (.tup (c.kinds.map msD)), .val (.tup (c.years.map nat)), .val (.int more), .val (.int later), .no, .no, .no] = .ok (.ret (.val (.bl true))) [.io e2, .val x, .val (.int c.epoch), .val (.int c.base), .val (.tup (c.kinds.map msD)), .val (.tup (c.years.map nat)), .val (.int more), .val (.int later), .no, .no, .no] := by
      simp only [ld_out, sIf, cIf, tOr, asB, cOp, cCall, aCons, aNil, cVar, cC, List.getElem?_cons_zero, List.getElem?_cons_succ, R.bind_ok, D.addE, D.add, DL.ret, opAbs, D.pow, D.gt, D.bool]
      by_cases a1 : 1000000000000 < (if c.epoch + more < 0 then -(c.epoch + more) else c.epoch + more)
      · simp [runV, runIO2, runIO, sRet, sSeq, sAsg, sSet, sPar, sIf, sNext, sDrop, thaw, frz, cOp, cVar, cMove, cC, cUn, cCall, cCallL, cTup, cLst, aNil, aCons, cIxV, slotD, gNm, gTp, gMore, gNone, gSb, cLenV, cChain, cAnd, cOr, cNot, asB, tAnd, tOr, tNot, cIf, DL.ret, finF, ioOf, RF.to, RF.io, Sl.mut, Sl.put, Sl.data, Sl.dat, D.bool, D.addE, D.add, D.sub, D.mul, D.div, D.mod, D.pow, D.lt, D.ltE, D.le, D.gt, D.ge, D.neg, opLen, opInt, opAbs, opTuple, opList, opStr, opRepr, opAny, opAll, opSum, cFn, cFnIO, cMeth, cNew, cFld, a1]
      · have a2 : 1000000000000 < (if c.base + later < 0 then -(c.base + later) else c.base + later) := by
          split at a1 <;> split <;> omega
        simp [runV, runIO2, runIO, sRet, sSeq, sAsg, sSet, sPar, sIf, sNext, sDrop, thaw, frz, cOp, cVar, cMove, cC, cUn, cCall, cCallL, cTup, cLst, aNil, aCons, cIxV, slotD, gNm, gTp, gMore, gNone, gSb, cLenV, cChain, cAnd, cOr, cNot, asB, tAnd, tOr, tNot, cIf, DL.ret, finF, ioOf, RF.to, RF.io, Sl.mut, Sl.put, Sl.data, Sl.dat, D.bool, D.addE, D.add, D.sub, D.mul, D.div, D.mod, D.pow, D.lt, D.ltE, D.le, D.gt, D.ge, D.neg, opLen, opInt, opAbs, opTuple, opList, opStr, opRepr, opAny, opAll, opSum, cFn, cFnIO, cMeth, cNew, cFld, a1, a2]
    refine ⟨e2, i2.le (by omega), ?_⟩
    rw [hr, ld_eq, seq_next g1, seq_next g2]
    simp only [sSeq, g3, R.bind_ok]
    rfl
end Wk29

end
section
namespace Wk29
open PySem DL CAL
theorem bl_py (b : Bool) : SeqAt.shaped (D.bl b).py = true := (lay_bl 0 b).sh
@[simp] theorem ne_bl (a b : Bool) : D.ne (.bl a) (.bl b) = some (.bl (a != b)) := by
  unfold D.ne
  rw [bl_py, bl_py]
  cases a <;> cases b <;> rfl
/-! ### one day -/
theorem day_ok {x : D} {c : Mcal} (o : CalOf x c) (d : Int) (s0 s1 s2 s5 s6 : Sl) : l_law_0 [s0, s1, s2, .val x, .val (.int d), s5, s6] = .ok .next [s0, s1, s2, .val x, .val (.int d), s5, s6] := by
  have r := ev_right o.ok o.hn o.hm d
  have w1 := ev_weekday d
  have w2 := ev_weekday (d + 700000000000000000000)
  have e : (d + 700000000000000000000 + 5) % 7 = (d + 5) % 7 := by omega
  rw [e] at w2
  rcases o.nm with rfl | ⟨s, rfl, cv⟩
  · have t : Ty.ask (.b "str") c.d = some false := rfl
    generalize c.d = x at *
    simp [runV, runIO2, runIO, sRet, sSeq, sAsg, sSet, sPar, sIf, sNext, sDrop, thaw, frz, cOp, cVar, cMove, cC, cUn, cCall, cCallL, cTup, cLst, aNil, aCons, cIxV, slotD, gNm, gTp, gMore, gNone, gSb, cLenV, cChain, cAnd, cOr, cNot, asB, tAnd, tOr, tNot, cIf, DL.ret, finF, ioOf, RF.to, RF.io, Sl.mut, Sl.put, Sl.data, Sl.dat, D.bool, D.addE, D.add, D.sub, D.mul, D.div, D.mod, D.pow, D.lt, D.ltE, D.le, D.gt, D.ge, D.neg, opLen, opInt, opAbs, opTuple, opList, opStr, opRepr, opAny, opAll, opSum, cFn, cFnIO, cMeth, cNew, cFld, l_law_0, r, cIs, t, w1, w2, cFnK, L2.pick]
  · have t : Ty.ask (.b "str") (.str s) = some true := rfl
    obtain ⟨y, m, dd, i⟩ := isD_ex o.ok.cal d
    have dt := ev_date_of o.ok o.hn i
    have cc := cv _ _ _ _ i
    simp [runV, runIO2, runIO, sRet, sSeq, sAsg, sSet, sPar, sIf, sNext, sDrop, thaw, frz, cOp, cVar, cMove, cC, cUn, cCall, cCallL, cTup, cLst, aNil, aCons, cIxV, slotD, gNm, gTp, gMore, gNone, gSb, cLenV, cChain, cAnd, cOr, cNot, asB, tAnd, tOr, tNot, cIf, DL.ret, finF, ioOf, RF.to, RF.io, Sl.mut, Sl.put, Sl.data, Sl.dat, D.bool, D.addE, D.add, D.sub, D.mul, D.div, D.mod, D.pow, D.lt, D.ltE, D.le, D.gt, D.ge, D.neg, opLen, opInt, opAbs, opTuple, opList, opStr, opRepr, opAny, opAll, opSum, cFn, cFnIO, cMeth, cNew, cFld, l_law_0, r, cIs, t, w1, w2, cFnK, L2.pick, dt, cc]
theorem days_ok {x : D} {c : Mcal} (o : CalOf x c) (s0 s1 s2 s5 s6 : Sl) : ∀ (ds : List Int) (s4 : Sl), ∃ t4, goFor (gNm 4) l_law_0 (ds.map D.int) [s0, s1, s2, .val x, s4, s5, s6] = .ok .next [s0, s1, s2, .val x, t4, s5, s6]
  | [], s4 => ⟨s4, rfl⟩
  | d :: ds, s4 => by
    obtain ⟨t4, h⟩ := days_ok o s0 s1 s2 s5 s6 ds (.val (.int d))
    refine ⟨t4, ?_⟩
    have g : gNm 4 (.int d) [s0, s1, s2, .val x, s4, s5, s6] = some [s0, s1, s2, .val x, .val (.int d), s5, s6] := rfl
    simp only [List.map_cons, goFor, g, day_ok o d s0 s1 s2 s5 s6, R.bind_ok, h]
/-! ### one turn -/
noncomputable def tn_cal : M Fl := (sSet 3 (cFnIO 1 m_u_law_drawn_calendar aNil))
noncomputable def tn_its : M (List D) := (cItems (frz (cFnIO 1 m_u_law_ends_and_far (aCons (cVar 3) aNil))))
noncomputable def tn_led : M Fl := (sIf (tNot (asB (frz (cFnIO 1 m_u_law_led_along (aCons (cVar 3) aNil))))) (sRet (thaw (cC (.bl false)))) sNext)
theorem tn_eq : l_law_1 = sSeq tn_cal (sSeq (sFor tn_its (gNm 4) l_law_0) tn_led) := rfl
theorem turn_ok {ns : List Int} {n : Int} {es : List D} (s : Sd ns n es) (hn : n < 2 ^ 33) (s0 s2 s3 s4 s5 s6 : Sl) : ∃ (es' : List D) (t3 t4 : Sl), Sd ns (n + 75) es' ∧ l_law_1 [s0, .own es, s2, s3, s4, s5, s6] = .ok .next [s0, .own es', s2, t3, t4, s5, s6] := by
  obtain ⟨x, c, e1, o, i1, h1⟩ := drawn_cal_ok n es s (by omega)
  obtain ⟨ds, e2, i2, h2⟩ := ends_ok o _ e1 i1 (by omega)
  obtain ⟨t4, h3⟩ := days_ok o s0 (.own e2) s2 s5 s6 ds s4
  obtain ⟨e3, i3, h4⟩ := led_ok o _ e2 i2 (by omega)
  refine ⟨e3, .val x, t4, i3.le (by omega), ?_⟩
  have g1 : tn_cal [s0, .own es, s2, s3, s4, s5, s6] = .ok .next [s0, .own e1, s2, .val x, s4, s5, s6] := by simp [runV, runIO2, runIO, sRet, sSeq, sAsg, sSet, sPar, sIf, sNext, sDrop, thaw, frz, cOp, cVar, cMove, cC, cUn, cCall, cCallL, cTup, cLst, aNil, aCons, cIxV, slotD, gNm, gTp, gMore, gNone, gSb, cLenV, cChain, cAnd, cOr, cNot, asB, tAnd, tOr, tNot, cIf, DL.ret, finF, ioOf, RF.to, RF.io, Sl.mut, Sl.put, Sl.data, Sl.dat, D.bool, D.addE, D.add, D.sub, D.mul, D.div, D.mod, D.pow, D.lt, D.ltE, D.le, D.gt, D.ge, D.neg, opLen, opInt, opAbs, opTuple, opList, opStr, opRepr, opAny, opAll, opSum, cFn, cFnIO, cMeth, cNew, cFld, tn_cal, h1]
  have g2 : tn_its [s0, .own e1, s2, .val x, s4, s5, s6] = .ok (ds.map D.int) [s0, .own e2, s2, .val x, s4, s5, s6] := by simp [runV, runIO2, runIO, sRet, sSeq, sAsg, sSet, sPar, sIf, sNext, sDrop, thaw, frz, cOp, cVar, cMove, cC, cUn, cCall, cCallL, cTup, cLst, aNil, aCons, cIxV, slotD, gNm, gTp, gMore, gNone, gSb, cLenV, cChain, cAnd, cOr, cNot, asB, tAnd, tOr, tNot, cIf, DL.ret, finF, ioOf, RF.to, RF.io, Sl.mut, Sl.put, Sl.data, Sl.dat, D.bool, D.addE, D.add, D.sub, D.mul, D.div, D.mod, D.pow, D.lt, D.ltE, D.le, D.gt, D.ge, D.neg, opLen, opInt, opAbs, opTuple, opList, opStr, opRepr, opAny, opAll, opSum, cFn, cFnIO, cMeth, cNew, cFld, tn_its, cItems, h2, D.items]
  have g3 : tn_led [s0, .own e2, s2, .val x, t4, s5, s6] = .ok .next [s0, .own e3, s2, .val x, t4, s5, s6] := by simp [runV, runIO2, runIO, sRet, sSeq, sAsg, sSet, sPar, sIf, sNext, sDrop, thaw, frz, cOp, cVar, cMove, cC, cUn, cCall, cCallL, cTup, cLst, aNil, aCons, cIxV, slotD, gNm, gTp, gMore, gNone, gSb, cLenV, cChain, cAnd, cOr, cNot, asB, tAnd, tOr, tNot, cIf, DL.ret, finF, ioOf, RF.to, RF.io, Sl.mut, Sl.put, Sl.data, Sl.dat, D.bool, D.addE, D.add, D.sub, D.mul, D.div, D.mod, D.pow, D.lt, D.ltE, D.le, D.gt, D.ge, D.neg, opLen, opInt, opAbs, opTuple, opList, opStr, opRepr, opAny, opAll, opSum, cFn, cFnIO, cMeth, cNew, cFld, tn_led, h4]
  rw [tn_eq, seq_next g1, seq_next ((for_ok g2).trans h3), g3]
theorem turns_ok {ns : List Int} : ∀ (ks : List D) (n : Int) (es : List D), Sd ns n es → n + 75 * ks.length < 2 ^ 33 → ∀ (s0 s2 s3 s4 s5 s6 : Sl), ∃ (es' : List D) (t2 t3 t4 : Sl), Sd ns (n + 75 * ks.length) es' ∧ goFor (gNm 2) l_law_1 ks [s0, .own es, s2, s3, s4, s5, s6] = .ok .next [s0, .own es', t2, t3, t4, s5, s6]
  | [], n, es, s, hn, s0, s2, s3, s4, s5, s6 => ⟨es, s2, s3, s4, by simpa [runV, runIO2, runIO, sRet, sSeq, sAsg, sSet, sPar, sIf, sNext, sDrop, thaw, frz, cOp, cVar, cMove, cC, cUn, cCall, cCallL, cTup, cLst, aNil, aCons, cIxV, slotD, gNm, gTp, gMore, gNone, gSb, cLenV, cChain, cAnd, cOr, cNot, asB, tAnd, tOr, tNot, cIf, DL.ret, finF, ioOf, RF.to, RF.io, Sl.mut, Sl.put, Sl.data, Sl.dat, D.bool, D.addE, D.add, D.sub, D.mul, D.div, D.mod, D.pow, D.lt, D.ltE, D.le, D.gt, D.ge, D.neg, opLen, opInt, opAbs, opTuple, opList, opStr, opRepr, opAny, opAll, opSum, cFn, cFnIO, cMeth, cNew, cFld] using s, rfl⟩
  | k :: ks, n, es, s, hn, s0, s2, s3, s4, s5, s6 => by
    simp only [List.length_cons] at hn
    obtain ⟨e1, t3, t4, i, h⟩ := turn_ok s (by omega) s0 (.val k) s3 s4 s5 s6
    obtain ⟨e2, u2, u3, u4, j, h'⟩ := turns_ok ks (n + 75) e1 i (by omega) s0 (.val k) t3 t4 s5 s6
    refine ⟨e2, u2, u3, u4, j.le (by rw [List.length_cons]; omega), ?_⟩
    have g : gNm 2 k [s0, .own es, s2, s3, s4, s5, s6] = some [s0, .own es, .val k, s3, s4, s5, s6] := rfl
    simp only [goFor, g, h, R.bind_ok, h']
/-! ### leap days -/
theorem mir_leap_j (y : Int) : m_u_law_leap [.str "julian", .int y] = .ok (.val (.bl (decide (y % 4 = 0)))) none := by
  simp [runV, runIO2, runIO, sRet, sSeq, sAsg, sSet, sPar, sIf, sNext, sDrop, thaw, frz, cOp, cVar, cMove, cC, cUn, cCall, cCallL, cTup, cLst, aNil, aCons, cIxV, slotD, gNm, gTp, gMore, gNone, gSb, cLenV, cChain, cAnd, cOr, cNot, asB, tAnd, tOr, tNot, cIf, DL.ret, finF, ioOf, RF.to, RF.io, Sl.mut, Sl.put, Sl.data, Sl.dat, D.bool, D.addE, D.add, D.sub, D.mul, D.div, D.mod, D.pow, D.lt, D.ltE, D.le, D.gt, D.ge, D.neg, opLen, opInt, opAbs, opTuple, opList, opStr, opRepr, opAny, opAll, opSum, cFn, cFnIO, cMeth, cNew, cFld, m_u_law_leap, b_u_law_leap]
theorem mir_leap_g (y : Int) : m_u_law_leap [.str "gregorian", .int y] = .ok (.val (.bl (leap y))) none := by
  have z : (0 < y % 100) = ¬ (y % 100 = 0) := by
    have := Int.emod_nonneg y (show (100 : Int) ≠ 0 by decide)
    apply propext
    omega
  unfold leap
  by_cases h1 : y % 4 = 0 <;> by_cases h2 : y % 100 = 0 <;> by_cases h3 : y % 400 = 0 <;> simp [runV, runIO2, runIO, sRet, sSeq, sAsg, sSet, sPar, sIf, sNext, sDrop, thaw, frz, cOp, cVar, cMove, cC, cUn, cCall, cCallL, cTup, cLst, aNil, aCons, cIxV, slotD, gNm, gTp, gMore, gNone, gSb, cLenV, cChain, cAnd, cOr, cNot, asB, tAnd, tOr, tNot, cIf, DL.ret, finF, ioOf, RF.to, RF.io, Sl.mut, Sl.put, Sl.data, Sl.dat, D.bool, D.addE, D.add, D.sub, D.mul, D.div, D.mod, D.pow, D.lt, D.ltE, D.le, D.gt, D.ge, D.neg, opLen, opInt, opAbs, opTuple, opList, opStr, opRepr, opAny, opAll, opSum, cFn, cFnIO, cMeth, cNew, cFld, m_u_law_leap, b_u_law_leap, h1, h2, h3, z]
/-- the two days about a leap day -/
theorem leap_days {c : Mcal} (y : Int) (b : Bool) (hm : c.cal.mon y = if b then leapM else common) : IsD c.cal (c.cal.start y + (if b then 60 else 59)) y 2 1 ∧ IsD c.cal (c.cal.start y + 58) y 1 28 := by
  cases b
  · rw [if_neg (by decide)] at hm
    refine ⟨⟨by rw [hm]; decide, by decide, by rw [hm]; decide, ?_⟩, ⟨by rw [hm]; decide, by decide, by rw [hm]; decide, ?_⟩⟩
    · rw [hm, show (common.take 2).sum = 59 by decide]; simp [runV, runIO2, runIO, sRet, sSeq, sAsg, sSet, sPar, sIf, sNext, sDrop, thaw, frz, cOp, cVar, cMove, cC, cUn, cCall, cCallL, cTup, cLst, aNil, aCons, cIxV, slotD, gNm, gTp, gMore, gNone, gSb, cLenV, cChain, cAnd, cOr, cNot, asB, tAnd, tOr, tNot, cIf, DL.ret, finF, ioOf, RF.to, RF.io, Sl.mut, Sl.put, Sl.data, Sl.dat, D.bool, D.addE, D.add, D.sub, D.mul, D.div, D.mod, D.pow, D.lt, D.ltE, D.le, D.gt, D.ge, D.neg, opLen, opInt, opAbs, opTuple, opList, opStr, opRepr, opAny, opAll, opSum, cFn, cFnIO, cMeth, cNew, cFld]
    · rw [hm, show (common.take 1).sum = 31 by decide]; omega
  · rw [if_pos rfl] at hm
    refine ⟨⟨by rw [hm]; decide, by decide, by rw [hm]; decide, ?_⟩, ⟨by rw [hm]; decide, by decide, by rw [hm]; decide, ?_⟩⟩
    · rw [hm, show (leapM.take 2).sum = 60 by decide]; simp [runV, runIO2, runIO, sRet, sSeq, sAsg, sSet, sPar, sIf, sNext, sDrop, thaw, frz, cOp, cVar, cMove, cC, cUn, cCall, cCallL, cTup, cLst, aNil, aCons, cIxV, slotD, gNm, gTp, gMore, gNone, gSb, cLenV, cChain, cAnd, cOr, cNot, asB, tAnd, tOr, tNot, cIf, DL.ret, finF, ioOf, RF.to, RF.io, Sl.mut, Sl.put, Sl.data, Sl.dat, D.bool, D.addE, D.add, D.sub, D.mul, D.div, D.mod, D.pow, D.lt, D.ltE, D.le, D.gt, D.ge, D.neg, opLen, opInt, opAbs, opTuple, opList, opStr, opRepr, opAny, opAll, opSum, cFn, cFnIO, cMeth, cNew, cFld]
    · rw [hm, show (leapM.take 1).sum = 31 by decide]; omega
theorem name_ok {ns : List Int} {x : D} {c : Mcal} (o : CalOf x c) (f : Int → Bool) (hl : ∀ y, m_u_law_leap [x, .int y] = .ok (.val (.bl (f y))) none) (hm : ∀ y, c.cal.mon y = if f y then leapM else common) {n : Int} {es : List D} (s : Sd ns n es) (hn : n < 2 ^ 34) (s0 s2 s3 s4 s6 : Sl) :
    ∃ (es' : List D) (t6 : Sl), Sd ns (n + 1) es' ∧ l_law_2 [s0, .own es, s2, s3, s4, .val x, s6] = .ok .next [s0, .own es', s2, s3, s4, .val x, t6] := by
  obtain ⟨d, e1, m1, i1, h1⟩ := sd_one (ds := [.int 1900, .int 2000, .int 2100, .int 2400, .int (-4), .int (-100), .int 0, .int 1000000000000]) s (by simp [runV, runIO2, runIO, sRet, sSeq, sAsg, sSet, sPar, sIf, sNext, sDrop, thaw, frz, cOp, cVar, cMove, cC, cUn, cCall, cCallL, cTup, cLst, aNil, aCons, cIxV, slotD, gNm, gTp, gMore, gNone, gSb, cLenV, cChain, cAnd, cOr, cNot, asB, tAnd, tOr, tNot, cIf, DL.ret, finF, ioOf, RF.to, RF.io, Sl.mut, Sl.put, Sl.data, Sl.dat, D.bool, D.addE, D.add, D.sub, D.mul, D.div, D.mod, D.pow, D.lt, D.ltE, D.le, D.gt, D.ge, D.neg, opLen, opInt, opAbs, opTuple, opList, opStr, opRepr, opAny, opAll, opSum, cFn, cFnIO, cMeth, cNew, cFld]) (by simp [runV, runIO2, runIO, sRet, sSeq, sAsg, sSet, sPar, sIf, sNext, sDrop, thaw, frz, cOp, cVar, cMove, cC, cUn, cCall, cCallL, cTup, cLst, aNil, aCons, cIxV, slotD, gNm, gTp, gMore, gNone, gSb, cLenV, cChain, cAnd, cOr, cNot, asB, tAnd, tOr, tNot, cIf, DL.ret, finF, ioOf, RF.to, RF.io, Sl.mut, Sl.put, Sl.data, Sl.dat, D.bool, D.addE, D.add, D.sub, D.mul, D.div, D.mod, D.pow, D.lt, D.ltE, D.le, D.gt, D.ge, D.neg, opLen, opInt, opAbs, opTuple, opList, opStr, opRepr, opAny, opAll, opSum, cFn, cFnIO, cMeth, cNew, cFld]) (by omega)
  have q : ∃ y : Int, d = .int y := by
    simp only [List.mem_cons, List.not_mem_nil, or_false] at m1
    rcases m1 with rfl | rfl | rfl | rfl | rfl | rfl | rfl | rfl <;> exact ⟨_, rfl⟩
  obtain ⟨y, rfl⟩ := q
  obtain ⟨a, b⟩ := leap_days y (f y) (hm y)
  have d1 := ev_day_of o.ok o.hn a
  have d2 := ev_day_of o.ok o.hn b
  have y1 := ev_year_start o.ok o.hn y
  have y2 := ev_year_start o.ok o.hn (y + 1)
  have l := hl y
  have st := start_succ o.ok.cal y
  rw [hm y] at st
  have f1 : dateD y 2 1 = .tup [.int y, .int 3, .int 1] := rfl
  have f2 : dateD y 1 28 = .tup [.int y, .int 2, .int 28] := rfl
  rw [f1] at d1
  rw [f2] at d2
  refine ⟨e1, .val (.int y), i1, ?_⟩
  cases fy : f y
  · rw [fy] at st l d1
    rw [if_neg (by decide), show common.sum = 365 by decide] at st
    rw [if_neg (by decide)] at d1
    rw [st] at y2
    have z : ¬ (c.cal.start y + 59 - (c.cal.start y + 58) = 2) := by omega
    have z2 : c.cal.start y + 365 - c.cal.start y = 365 := by omega
    simp [runV, runIO2, runIO, sRet, sSeq, sAsg, sSet, sPar, sIf, sNext, sDrop, thaw, frz, cOp, cVar, cMove, cC, cUn, cCall, cCallL, cTup, cLst, aNil, aCons, cIxV, slotD, gNm, gTp, gMore, gNone, gSb, cLenV, cChain, cAnd, cOr, cNot, asB, tAnd, tOr, tNot, cIf, DL.ret, finF, ioOf, RF.to, RF.io, Sl.mut, Sl.put, Sl.data, Sl.dat, D.bool, D.addE, D.add, D.sub, D.mul, D.div, D.mod, D.pow, D.lt, D.ltE, D.le, D.gt, D.ge, D.neg, opLen, opInt, opAbs, opTuple, opList, opStr, opRepr, opAny, opAll, opSum, cFn, cFnIO, cMeth, cNew, cFld, l_law_2, h1, d1, d2, y1, y2, l, z, z2]
  · rw [fy] at st l d1
    rw [if_pos rfl, show leapM.sum = 366 by decide] at st
    rw [if_pos rfl] at d1
    rw [st] at y2
    have z : c.cal.start y + 60 - (c.cal.start y + 58) = 2 := by omega
    have z2 : c.cal.start y + 366 - c.cal.start y = 366 := by omega
    simp [runV, runIO2, runIO, sRet, sSeq, sAsg, sSet, sPar, sIf, sNext, sDrop, thaw, frz, cOp, cVar, cMove, cC, cUn, cCall, cCallL, cTup, cLst, aNil, aCons, cIxV, slotD, gNm, gTp, gMore, gNone, gSb, cLenV, cChain, cAnd, cOr, cNot, asB, tAnd, tOr, tNot, cIf, DL.ret, finF, ioOf, RF.to, RF.io, Sl.mut, Sl.put, Sl.data, Sl.dat, D.bool, D.addE, D.add, D.sub, D.mul, D.div, D.mod, D.pow, D.lt, D.ltE, D.le, D.gt, D.ge, D.neg, opLen, opInt, opAbs, opTuple, opList, opStr, opRepr, opAny, opAll, opSum, cFn, cFnIO, cMeth, cNew, cFld, l_law_2, h1, d1, d2, y1, y2, l, z, z2]
theorem names_ok {ns : List Int} {n : Int} {es : List D} (s : Sd ns n es) (hn : n < 2 ^ 33) (s0 s2 s3 s4 s5 s6 : Sl) : ∃ ρ : Rho, goFor (gNm 5) l_law_2 [.str "gregorian", .str "julian"] [s0, .own es, s2, s3, s4, s5, s6] = .ok .next ρ ∧ ρ[0]? = some s0 := by
  obtain ⟨e1, t6, i1, h1⟩ := name_ok of_greg leap mir_leap_g mon_greg s (by omega) s0 s2 s3 s4 s6
  obtain ⟨e2, u6, i2, h2⟩ := name_ok of_jul (fun y => decide (y % 4 = 0)) mir_leap_j (fun y => by rw [mon_jul]; by_cases q : y % 4 = 0 <;> simp [runV, runIO2, runIO, sRet, sSeq, sAsg, sSet, sPar, sIf, sNext, sDrop, thaw, frz, cOp, cVar, cMove, cC, cUn, cCall, cCallL, cTup, cLst, aNil, aCons, cIxV, slotD, gNm, gTp, gMore, gNone, gSb, cLenV, cChain, cAnd, cOr, cNot, asB, tAnd, tOr, tNot, cIf, DL.ret, finF, ioOf, RF.to, RF.io, Sl.mut, Sl.put, Sl.data, Sl.dat, D.bool, D.addE, D.add, D.sub, D.mul, D.div, D.mod, D.pow, D.lt, D.ltE, D.le, D.gt, D.ge, D.neg, opLen, opInt, opAbs, opTuple, opList, opStr, opRepr, opAny, opAll, opSum, cFn, cFnIO, cMeth, cNew, cFld, q]) i1 (by omega) s0 s2 s3 s4 t6
  have g1 : gNm 5 (.str "gregorian") [s0, .own es, s2, s3, s4, s5, s6] = some [s0, .own es, s2, s3, s4, .val (.str "gregorian"), s6] := rfl
  have g2 : gNm 5 (.str "julian") [s0, .own e1, s2, s3, s4, .val (.str "gregorian"), t6] = some [s0, .own e1, s2, s3, s4, .val (.str "julian"), t6] := rfl
  exact ⟨[s0, .own e2, s2, s3, s4, .val (.str "julian"), u6], by simp only [goFor, g1, h1, R.bind_ok, g2, h2], rfl⟩
end Wk29

end
section
namespace Wk29
open PySem DL CAL
noncomputable def a_end (Do : List D → RF) : M Fl := (sRet (thaw (cOp D.eq (frz (cLst (aCons (frz (cFn Do (aCons (cC (.str "gregorian")) (aCons (cC (.int 0)) aNil)))) (aCons (frz (cFn Do (aCons (cC (.str "julian")) (aCons (cC (.int 13)) aNil)))) (aCons (frz (cFn Do (aCons (cC (.str "islamic")) (aCons (cUn D.neg (cC (.int 503105))) aNil)))) (aCons (frz (cFn Do (aCons (cC (.str "coptic")) (aCons (cUn D.neg (cC (.int 626515))) aNil)))) aNil)))))) (frz (cLst (aCons (cTup (aCons (cC (.int 2000)) (aCons (cC (.int 1)) (aCons (cC (.int 1)) aNil)))) (aCons (cTup (aCons (cC (.int 2000)) (aCons (cC (.int 1)) (aCons (cC (.int 1)) aNil)))) (aCons (cTup (aCons (cC (.int 1)) (aCons (cC (.int 1)) (aCons (cC (.int 1)) aNil)))) (aCons (cTup (aCons (cC (.int 1)) (aCons (cC (.int 1)) (aCons (cC (.int 1)) aNil)))) aNil)))))))))
noncomputable def a_law (Se Do : List D → RF) (T N : M Fl) : M Fl := (sSeq (sSet 1 (cFn Se (aCons (cVar 0) aNil))) (sSeq (sFor (cSpan D.span1 (aCons (cC (.int 4)) aNil)) (gNm 2) T) (sSeq (sFor (cItems (cTup (aCons (cC (.str "gregorian")) (aCons (cC (.str "julian")) aNil)))) (gNm 5) N) (a_end Do))))
theorem law_body : b_law = a_law m_u_law_seed m_date_of l_law_1 l_law_2 := rfl
theorem date1 {c : Mcal} (h : c.Ok) {x : D} (hn : m_need_calendar [x] = .ok (.val c.d) none) (y d : Int) (hs : c.cal.start y = d) : m_date_of [x, .int d] = .ok (.val (.tup [.int y, .int 1, .int 1])) none := by
  obtain ⟨a, b⟩ := h.cal.mo _ (mon_mem h.cal y)
  have l : 0 < (c.cal.mon y).length := List.length_pos_iff.mpr a
  have i : IsD c.cal d y 0 1 := by
    refine ⟨l, by decide, ?_, ?_⟩
    · rw [getD_lt _ _ l]
      exact b _ (List.getElem_mem _)
    · simp [runV, runIO2, runIO, sRet, sSeq, sAsg, sSet, sPar, sIf, sNext, sDrop, thaw, frz, cOp, cVar, cMove, cC, cUn, cCall, cCallL, cTup, cLst, aNil, aCons, cIxV, slotD, gNm, gTp, gMore, gNone, gSb, cLenV, cChain, cAnd, cOr, cNot, asB, tAnd, tOr, tNot, cIf, DL.ret, finF, ioOf, RF.to, RF.io, Sl.mut, Sl.put, Sl.data, Sl.dat, D.bool, D.addE, D.add, D.sub, D.mul, D.div, D.mod, D.pow, D.lt, D.ltE, D.le, D.gt, D.ge, D.neg, opLen, opInt, opAbs, opTuple, opList, opStr, opRepr, opAny, opAll, opSum, cFn, cFnIO, cMeth, cNew, cFld, hs]
  have e := ev_date_of h hn i
  exact e
def dl4 : D := .lst [.tup [.int 2000, .int 1, .int 1], .tup [.int 2000, .int 1, .int 1], .tup [.int 1, .int 1, .int 1], .tup [.int 1, .int 1, .int 1]]
theorem dl4_eq : D.eq dl4 dl4 = some (.bl true) := by kernel_rfl
theorem au_end {Do : List D → RF} (h1 : Do [.str "gregorian", .int 0] = .ok (.val (.tup [.int 2000, .int 1, .int 1])) none) (h2 : Do [.str "julian", .int 13] = .ok (.val (.tup [.int 2000, .int 1, .int 1])) none) (h3 : Do [.str "islamic", .int (-503105)] = .ok (.val (.tup [.int 1, .int 1, .int 1])) none) (h4 : Do [.str "coptic", .int (-626515)] = .ok (.val (.tup [.int 1, .int 1, .int 1])) none) (ρ : Rho) :
    a_end Do ρ = .ok (.ret (.val (.bl true))) ρ := by
  have e := dl4_eq
  unfold dl4 at e
  simp [runV, runIO2, runIO, sRet, sSeq, sAsg, sSet, sPar, sIf, sNext, sDrop, thaw, frz, cOp, cVar, cMove, cC, cUn, cCall, cCallL, cTup, cLst, aNil, aCons, cIxV, slotD, gNm, gTp, gMore, gNone, gSb, cLenV, cChain, cAnd, cOr, cNot, asB, tAnd, tOr, tNot, cIf, DL.ret, finF, ioOf, RF.to, RF.io, Sl.mut, Sl.put, Sl.data, Sl.dat, D.bool, D.addE, D.add, D.sub, D.mul, D.div, D.mod, D.pow, D.lt, D.ltE, D.le, D.gt, D.ge, D.neg, opLen, opInt, opAbs, opTuple, opList, opStr, opRepr, opAny, opAll, opSum, cFn, cFnIO, cMeth, cNew, cFld, a_end, h1, h2, h3, h4, e]
theorem au_law {Se Do : List D → RF} {T N : M Fl} {ns : List Int} {es : List D} {ρ1 ρ : Rho} (h0 : ρ[0]? = some (.val (.scr ns))) (h1 : Se [.scr ns] = .ok (.own es) none) (h2 : goFor (gNm 2) T (span 0 4) [.val (.scr ns), .own es, .no, .no, .no, .no, .no] = .ok .next ρ1) (h3 : goFor (gNm 5) N [.str "gregorian", .str "julian"] ρ1 = .ok .next ρ) (h4 : a_end Do ρ = .ok (.ret (.val (.bl true))) ρ) : runV0 7 1 (a_law Se Do T N) [.scr ns] = .ok (.val (.bl true)) none := by
  simp [runV, runIO2, runIO, sRet, sSeq, sAsg, sSet, sPar, sIf, sNext, sDrop, thaw, frz, cOp, cVar, cMove, cC, cUn, cCall, cCallL, cTup, cLst, aNil, aCons, cIxV, slotD, gNm, gTp, gMore, gNone, gSb, cLenV, cChain, cAnd, cOr, cNot, asB, tAnd, tOr, tNot, cIf, DL.ret, finF, ioOf, RF.to, RF.io, Sl.mut, Sl.put, Sl.data, Sl.dat, D.bool, D.addE, D.add, D.sub, D.mul, D.div, D.mod, D.pow, D.lt, D.ltE, D.le, D.gt, D.ge, D.neg, opLen, opInt, opAbs, opTuple, opList, opStr, opRepr, opAny, opAll, opSum, cFn, cFnIO, cMeth, cNew, cFld, h0, runV0, runV, a_law, h1, cSpan, D.span1, sFor, h2, cItems, D.items, h3, h4, RF.calm]
theorem law_ok (ns : List Int) : m_law [.scr ns] = .ok (.val (.bl true)) none := by
  have s : Sd ns 0 (seedL ns 0 0) := ⟨0, 0, rfl, by omega, by omega⟩
  obtain ⟨e1, t2, t3, t4, i1, h2⟩ := turns_ok (span 0 4) 0 (seedL ns 0 0) s (by decide) (.val (.scr ns)) .no .no .no .no .no
  obtain ⟨ρ, h3, h0⟩ := names_ok i1 (by rw [span_length]; decide) (.val (.scr ns)) t2 t3 t4 .no .no
  have e : m_law = runV0 7 1 (a_law m_u_law_seed m_date_of l_law_1 l_law_2) := rfl
  rw [e]
  refine au_law h0 (ev_seed ns) h2 h3 (au_end ?_ ?_ ?_ ?_ ρ)
  · exact date1 greg_ok nd_greg 2000 0 (by rw [start_greg]; decide)
  · exact date1 jul_ok nd_jul 2000 13 (by rw [start_jul]; decide)
  · exact date1 isl_ok nd_isl 1 (-503105) (by rw [start_isl]; decide)
  · exact date1 cop_ok nd_cop 1 (-626515) (by rw [start_cop]; decide)
theorem k29 : PySem.Challenge.rw_alldue_k29_dates_by_the_civil_count.Holds := holds_of fun ns _ => law_ok ns
end Wk29

end
theorem PySem.Challenge.cw_alldue_k29_dates_by_the_civil_count_holds : PySem.Challenge.rw_alldue_k29_dates_by_the_civil_count.Holds :=
  Wk29.k29
