import PyProof.Rows.All
import Wide.All
import OpenK.AllK
import Wide.FinOn
import HandS.ForMost
import HandS.Wide
import HandS.WideMore
import HandS.SortInts
import HandS.SortKw
import HandS.NoneIn
import HandS.Style
import HandS.Flow
import HandS.Deep
import HandS.IsInst
import HandS.Rev
import HandS.Zip
import KE.Datum
import HandS.Star
import HandS.Conv
import HandS.SetFor
import HandS.RaiseMore
import KE.KSortedM
import HandS.Flt
import KE.GoesEnum
import HandS.Strs
import PySem.Challenge.RW_sortstretches_k07_results_without_runnin
set_option Elab.async false
set_option linter.all false
set_option maxRecDepth 100000
/-! The pure layer: heap-free readings over the hand layer. -/
namespace PL
open PySem L2

/-! ### 1. data that stands still: Fp F v d, by the sub-heap F of what never changes again -/
mutual
inductive Fp (F : Hp) : V → PyData → Prop
  | non : Fp F .non .none
  | bl (b : Bool) : Fp F (.bl b) (.bool b)
  | int (i : Int) : Fp F (.int i) (.int i)
  | str (x : Str) : Fp F (.str x) (.str x)
  | lst {a : Addr} {xs : List V} {ds : List PyData} : F a = some (.lst xs) → FpAll F xs ds → Fp F (.ref a) (.list ds)
  | tup {a : Addr} {xs : List V} {ds : List PyData} : F a = some (.tup xs) → FpAll F xs ds → Fp F (.ref a) (.tuple ds)
inductive FpAll (F : Hp) : List V → List PyData → Prop
  | nil : FpAll F [] []
  | cons {v : V} {vs : List V} {d : PyData} {ds : List PyData} : Fp F v d → FpAll F vs ds → FpAll F (v :: vs) (d :: ds)
end

theorem Fp.to {F F' : Hp} (s : Same F F') {v : V} {d : PyData} (h : Fp F v d) : Fp F' v d :=
  Fp.rec (motive_1 := fun v d _ => Fp F' v d) (motive_2 := fun vs ds _ => FpAll F' vs ds) .non .bl .int .str
    (fun e _ ih => .lst (s _ _ e) ih) (fun e _ ih => .tup (s _ _ e) ih) .nil (fun _ _ i1 i2 => .cons i1 i2) h
theorem FpAll.to {F F' : Hp} (s : Same F F') : ∀ {vs : List V} {ds : List PyData}, FpAll F vs ds → FpAll F' vs ds
  | _, _, .nil => .nil
  | _, _, .cons h r => .cons (h.to s) (FpAll.to s r)
theorem Fp.dp {K : PySem.W.Frag} {F H : Hp} (s : Same F H) {v : V} {d : PyData} (h : Fp F v d) : Dp K H v d :=
  Fp.rec (motive_1 := fun v d _ => Dp K H v d) (motive_2 := fun vs ds _ => DpAll K H vs ds) .non .bl .int .str
    (fun e _ ih => .lst (SqL.of (s _ _ e)) ih) (fun e _ ih => .tup (SqT.of (s _ _ e)) ih) .nil (fun _ _ i1 i2 => .cons i1 i2) h
theorem FpAll.length {F : Hp} : ∀ {vs : List V} {ds : List PyData}, FpAll F vs ds → vs.length = ds.length
  | _, _, .nil => rfl
  | _, _, .cons _ r => by rw [List.length_cons, List.length_cons, FpAll.length r]
theorem FpAll.get {F : Hp} : ∀ {vs : List V} {ds : List PyData} {i : Nat} {d : PyData}, FpAll F vs ds → ds[i]? = some d → ∃ v, vs[i]? = some v ∧ Fp F v d
  | _, _, 0, _, .cons h _, e => by
    rw [List.getElem?_cons_zero] at e
    cases e
    exact ⟨_, rfl, h⟩
  | _, _, i + 1, _, .cons _ r, e => by
    rw [List.getElem?_cons_succ] at e
    obtain ⟨v, h1, h2⟩ := FpAll.get r e
    exact ⟨v, by rw [List.getElem?_cons_succ]; exact h1, h2⟩
theorem FpAll.get' {F : Hp} : ∀ {vs : List V} {ds : List PyData} {i : Nat} {v : V}, FpAll F vs ds → vs[i]? = some v → ∃ d, ds[i]? = some d ∧ Fp F v d
  | _, _, 0, _, .cons h _, e => by
    rw [List.getElem?_cons_zero] at e
    cases e
    exact ⟨_, rfl, h⟩
  | _, _, i + 1, _, .cons _ r, e => by
    rw [List.getElem?_cons_succ] at e
    obtain ⟨v, h1, h2⟩ := FpAll.get' r e
    exact ⟨v, by rw [List.getElem?_cons_succ]; exact h1, h2⟩
theorem FpAll.app {F : Hp} : ∀ {vs us : List V} {ds es : List PyData}, FpAll F vs ds → FpAll F us es → FpAll F (vs ++ us) (ds ++ es)
  | _, _, _, _, .nil, h => h
  | _, _, _, _, .cons h r, k => .cons h (FpAll.app r k)
theorem FpAll.take {F : Hp} : ∀ {vs : List V} {ds : List PyData} (n : Nat), FpAll F vs ds → FpAll F (vs.take n) (ds.take n)
  | _, _, 0, _ => .nil
  | _, _, _ + 1, .nil => .nil
  | _, _, n + 1, .cons h r => .cons h (FpAll.take n r)
theorem FpAll.drop {F : Hp} : ∀ {vs : List V} {ds : List PyData} (n : Nat), FpAll F vs ds → FpAll F (vs.drop n) (ds.drop n)
  | _, _, 0, h => h
  | _, _, _ + 1, .nil => .nil
  | _, _, n + 1, .cons _ r => FpAll.drop n r
theorem FpAll.set {F : Hp} {v : V} {d : PyData} (h : Fp F v d) : ∀ {vs : List V} {ds : List PyData} (n : Nat), FpAll F vs ds → FpAll F (vs.set n v) (ds.set n d)
  | _, _, _, .nil => .nil
  | _, _, 0, .cons _ r => .cons h r
  | _, _, n + 1, .cons k r => .cons k (FpAll.set h n r)
theorem FpAll.eraseIdx {F : Hp} : ∀ {vs : List V} {ds : List PyData} (n : Nat), FpAll F vs ds → FpAll F (vs.eraseIdx n) (ds.eraseIdx n)
  | _, _, _, .nil => .nil
  | _, _, 0, .cons _ r => r
  | _, _, n + 1, .cons k r => .cons k (FpAll.eraseIdx n r)
theorem FpAll.reverse {F : Hp} : ∀ {vs : List V} {ds : List PyData}, FpAll F vs ds → FpAll F vs.reverse ds.reverse
  | _, _, .nil => .nil
  | _, _, .cons h r => by
    rw [List.reverse_cons, List.reverse_cons]
    exact (FpAll.reverse r).app (.cons h .nil)
theorem FpAll.ints {F : Hp} : ∀ (ns : List Int), FpAll F (ns.map V.int) (ns.map PyData.int)
  | [] => .nil
  | n :: ns => .cons (.int n) (FpAll.ints ns)
theorem FpAll.of_ints {F : Hp} : ∀ {vs : List V} {ns : List Int}, FpAll F vs (ns.map PyData.int) → vs = ns.map V.int
  | _, [], h => by cases h; rfl
  | _, n :: ns, h => by
    rw [List.map_cons] at h
    cases h with
    | cons h r =>
      cases h
      rw [FpAll.of_ints r]
      rfl

/-! ### 2. owned things -/
/-- what a slot may own: a list of still data; a list of things; a dict with plain keys; a dict with tuple keys; an instance; the script -/
inductive MO where
  | fz (d : PyData)
  | ol (ds : List PyData)
  | lst (cs : List MO)
  | dk (ms : List (Key × MO))
  | dt (lk : Bool) (ms : List (List Key × PyData))
  | ins (C : Addr) (fs : List (Str × MO))
  | scr (ns : List Int)
  | st (ns : List Int)
  | ob (C : Addr) (nm : List Str) (ds : List PyData)
  | obL (C : Addr) (nm : List Str) (ds : List PyData)
def kPD : Key → PyData
  | .inl i => .int i
  | .inr s => .str s
/-- a still dict's entries -/
inductive FpK (F : Hp) : List (Key × V) → List (PyData × PyData) → Prop
  | nil : FpK F [] []
  | cons {k : Key} {v : V} {d : PyData} {vs : List (Key × V)} {ds : List (PyData × PyData)} : Fp F v d → FpK F vs ds → FpK F ((k, v) :: vs) ((kPD k, d) :: ds)
/-- what an attribute holds: still data, or a still dict -/
inductive Fx (F : Hp) : V → PyData → Prop
  | fp {v : V} {d : PyData} : Fp F v d → Fx F v d
  | fd {a : Addr} {o : Obj} {kvs : List (Key × V)} {ms : List (PyData × PyData)} : F a = some (.frz o (.dK kvs)) → FpK F kvs ms → Fx F (.ref a) (.dict ms)
inductive FxAll (F : Hp) : List V → List PyData → Prop
  | nil : FxAll F [] []
  | cons {v : V} {vs : List V} {d : PyData} {ds : List PyData} : Fx F v d → FxAll F vs ds → FxAll F (v :: vs) (d :: ds)
theorem FpK.to {F F' : Hp} (s : Same F F') : ∀ {vs : List (Key × V)} {ds : List (PyData × PyData)}, FpK F vs ds → FpK F' vs ds
  | _, _, .nil => .nil
  | _, _, .cons h r => .cons (h.to s) (FpK.to s r)
theorem Fx.to {F F' : Hp} (s : Same F F') {v : V} {d : PyData} (h : Fx F v d) : Fx F' v d := by
  cases h with
  | fp h => exact .fp (h.to s)
  | fd e h => exact .fd (s _ _ e) (h.to s)
theorem FxAll.to {F F' : Hp} (s : Same F F') : ∀ {vs : List V} {ds : List PyData}, FxAll F vs ds → FxAll F' vs ds
  | _, _, .nil => .nil
  | _, _, .cons h r => .cons (h.to s) (FxAll.to s r)
inductive FpT (F : Hp) : List (List Key × V) → List (List Key × PyData) → Prop
  | nil : FpT F [] []
  | cons {k : List Key} {v : V} {d : PyData} {vs : List (List Key × V)} {ds : List (List Key × PyData)} : Fp F v d → FpT F vs ds → FpT F ((k, v) :: vs) ((k, d) :: ds)
mutual
inductive Mp (K : PySem.W.Frag) (F H : Hp) : V → MO → List Addr → Prop
  | fz {v : V} {d : PyData} : Fp F v d → Mp K F H v (.fz d) []
  | ol {a : Addr} {vs : List V} {ds : List PyData} : H a = some (.lst vs) → FpAll F vs ds → Mp K F H (.ref a) (.ol ds) [a]
  | lst {a : Addr} {vs : List V} {cs : List MO} {as : List Addr} : H a = some (.lst vs) → MpAll K F H vs cs as → Mp K F H (.ref a) (.lst cs) (a :: as)
  | dk {a : Addr} {kvs : List (Key × V)} {ms : List (Key × MO)} {as : List Addr} : H a = some (.dK kvs) → MpKV K F H kvs ms as → Mp K F H (.ref a) (.dk ms) (a :: as)
  | dt {a : Addr} {kvs : List (List Key × V)} {ms : List (List Key × PyData)} : H a = some (.dT kvs) → FpT F kvs ms → Mp K F H (.ref a) (.dt false ms) [a]
  | dl {a : Addr} {o : Obj} {kvs : List (List Key × V)} {ms : List (List Key × PyData)} : F a = some (.frz o (.dT kvs)) → FpT F kvs ms → Mp K F H (.ref a) (.dt true ms) []
  | ins {a C dx : Addr} {fs : List (Str × V)} {ms : List (Str × MO)} {as : List Addr} : H a = some (.ins C dx fs) → MpFs K F H fs ms as → Mp K F H (.ref a) (.ins C ms) (a :: as)
  | scr {a : Addr} {ns : List Int} : SqL K F a (ns.map V.int) → Mp K F H (.ref a) (.scr ns) []
  | st {a : Addr} {ns : List Int} {S : Int → Bool} {c : Nat} : H a = some (.set S c) → (∀ k, S k = decide (k ∈ ns)) → Mp K F H (.ref a) (.st ns) [a]
  | ob {a C dx : Addr} {nm : List Str} {vs : List V} {ds : List PyData} : H a = some (.ins C dx (nm.zip vs)) → FxAll F vs ds → Mp K F H (.ref a) (.ob C nm ds) [a]
  | obL {a C dx : Addr} {nm : List Str} {vs : List V} {ds : List PyData} : F a = some (.ins C dx (nm.zip vs)) → FxAll F vs ds → Mp K F H (.ref a) (.obL C nm ds) []
inductive MpAll (K : PySem.W.Frag) (F H : Hp) : List V → List MO → List Addr → Prop
  | nil : MpAll K F H [] [] []
  | cons {v : V} {vs : List V} {c : MO} {cs : List MO} {as bs : List Addr} : Mp K F H v c as → MpAll K F H vs cs bs → MpAll K F H (v :: vs) (c :: cs) (as ++ bs)
inductive MpKV (K : PySem.W.Frag) (F H : Hp) : List (Key × V) → List (Key × MO) → List Addr → Prop
  | nil : MpKV K F H [] [] []
  | cons {k : Key} {v : V} {vs : List (Key × V)} {c : MO} {cs : List (Key × MO)} {as bs : List Addr} : Mp K F H v c as → MpKV K F H vs cs bs → MpKV K F H ((k, v) :: vs) ((k, c) :: cs) (as ++ bs)
inductive MpFs (K : PySem.W.Frag) (F H : Hp) : List (Str × V) → List (Str × MO) → List Addr → Prop
  | nil : MpFs K F H [] [] []
  | cons {k : Str} {v : V} {vs : List (Str × V)} {c : MO} {cs : List (Str × MO)} {as bs : List Addr} : Mp K F H v c as → MpFs K F H vs cs bs → MpFs K F H ((k, v) :: vs) ((k, c) :: cs) (as ++ bs)
end
theorem FpT.to {F F' : Hp} (s : Same F F') : ∀ {vs : List (List Key × V)} {ds : List (List Key × PyData)}, FpT F vs ds → FpT F' vs ds
  | _, _, .nil => .nil
  | _, _, .cons h r => .cons (h.to s) (FpT.to s r)

section
variable {K : PySem.W.Frag} {F F' H H' : Hp}
theorem Mp.to (s : Same F F') {v : V} {c : MO} {as : List Addr} (h : Mp K F H v c as) (k : ∀ a ∈ as, H' a = H a) : Mp K F' H' v c as := by
  refine Mp.rec (K := K) (F := F) (H := H) (motive_1 := fun v c as _ => (∀ a ∈ as, H' a = H a) → Mp K F' H' v c as) (motive_2 := fun vs cs as _ => (∀ a ∈ as, H' a = H a) → MpAll K F' H' vs cs as)
    (motive_3 := fun vs cs as _ => (∀ a ∈ as, H' a = H a) → MpKV K F' H' vs cs as) (motive_4 := fun vs cs as _ => (∀ a ∈ as, H' a = H a) → MpFs K F' H' vs cs as)
    ?_ ?_ ?_ ?_ ?_ ?_ ?_ ?_ ?_ ?_ ?_ ?_ ?_ ?_ ?_ ?_ ?_ h k
  · exact fun h _ => .fz (h.to s)
  · exact fun e h k => .ol ((k _ List.mem_cons_self).trans e) (h.to s)
  · exact fun e _ ih k => .lst ((k _ List.mem_cons_self).trans e) (ih fun a ha => k a (List.mem_cons_of_mem _ ha))
  · exact fun e _ ih k => .dk ((k _ List.mem_cons_self).trans e) (ih fun a ha => k a (List.mem_cons_of_mem _ ha))
  · exact fun e h k => .dt ((k _ List.mem_cons_self).trans e) (h.to s)
  · exact fun e h _ => .dl (s _ _ e) (h.to s)
  · exact fun e _ ih k => .ins ((k _ List.mem_cons_self).trans e) (ih fun a ha => k a (List.mem_cons_of_mem _ ha))
  · exact fun h _ => .scr (s.seq h)
  · exact fun e h k => .st ((k _ List.mem_cons_self).trans e) h
  · exact fun e h k => .ob ((k _ List.mem_cons_self).trans e) (h.to s)
  · exact fun e h _ => .obL (s _ _ e) (h.to s)
  · exact fun _ => .nil
  · exact fun _ _ i1 i2 k => .cons (i1 fun a ha => k a (List.mem_append_left _ ha)) (i2 fun a ha => k a (List.mem_append_right _ ha))
  · exact fun _ => .nil
  · exact fun _ _ i1 i2 k => .cons (i1 fun a ha => k a (List.mem_append_left _ ha)) (i2 fun a ha => k a (List.mem_append_right _ ha))
  · exact fun _ => .nil
  · exact fun _ _ i1 i2 k => .cons (i1 fun a ha => k a (List.mem_append_left _ ha)) (i2 fun a ha => k a (List.mem_append_right _ ha))
theorem some_ne {α : Type} {x : Option α} {y : α} (h : x = some y) : x ≠ none := fun e => by rw [e] at h; cases h
theorem Mp.live {v : V} {c : MO} {as : List Addr} (h : Mp K F H v c as) : ∀ a ∈ as, H a ≠ none := by
  have c1 : ∀ {a : Addr} {as : List Addr} {o : HO}, H a = some o → (∀ b ∈ as, H b ≠ none) → ∀ b ∈ a :: as, H b ≠ none := fun e k b hb => by
    rcases List.mem_cons.mp hb with z | z
    · rw [z]; exact some_ne e
    · exact k b z
  have c2 : ∀ {as bs : List Addr}, (∀ b ∈ as, H b ≠ none) → (∀ b ∈ bs, H b ≠ none) → ∀ b ∈ as ++ bs, H b ≠ none := fun k1 k2 b hb => (List.mem_append.mp hb).elim (k1 b) (k2 b)
  have c0 : ∀ b ∈ ([] : List Addr), H b ≠ none := fun b hb => absurd hb (by simp)
  exact Mp.rec (K := K) (F := F) (H := H) (motive_1 := fun v c as _ => ∀ a ∈ as, H a ≠ none) (motive_2 := fun vs cs as _ => ∀ a ∈ as, H a ≠ none)
    (motive_3 := fun vs cs as _ => ∀ a ∈ as, H a ≠ none) (motive_4 := fun vs cs as _ => ∀ a ∈ as, H a ≠ none)
    (fun _ => c0) (fun e _ => c1 e c0) (fun e _ ih => c1 e ih) (fun e _ ih => c1 e ih) (fun e _ => c1 e c0) (fun _ _ => c0) (fun e _ ih => c1 e ih) (fun _ => c0) (fun e _ => c1 e c0) (fun e _ => c1 e c0) (fun _ _ => c0) c0 (fun _ _ => c2) c0 (fun _ _ => c2) c0 (fun _ _ => c2) h
/-- a tuple stands there -/
def IsTp (H : Hp) (a : Addr) : Prop := ∃ xs, H a = some (.tup xs)
theorem ntp_of {a : Addr} {o : HO} (h : H a = some o) (n : ∀ xs, o ≠ .tup xs) : ¬ IsTp H a := fun ⟨xs, e⟩ => by
  rw [h] at e
  exact n xs (Option.some.inj e)
theorem Mp.ntp {v : V} {c : MO} {as : List Addr} (h : Mp K F H v c as) : ∀ a ∈ as, ¬ IsTp H a := by
  have c1 : ∀ {a : Addr} {as : List Addr} {o : HO}, H a = some o → (∀ xs, o ≠ .tup xs) → (∀ b ∈ as, ¬ IsTp H b) → ∀ b ∈ a :: as, ¬ IsTp H b := fun e n k b hb => by
    rcases List.mem_cons.mp hb with z | z
    · rw [z]; exact ntp_of e n
    · exact k b z
  have c2 : ∀ {as bs : List Addr}, (∀ b ∈ as, ¬ IsTp H b) → (∀ b ∈ bs, ¬ IsTp H b) → ∀ b ∈ as ++ bs, ¬ IsTp H b := fun k1 k2 b hb => (List.mem_append.mp hb).elim (k1 b) (k2 b)
  have c0 : ∀ b ∈ ([] : List Addr), ¬ IsTp H b := fun b hb => absurd hb (by simp)
  exact Mp.rec (K := K) (F := F) (H := H) (motive_1 := fun v c as _ => ∀ a ∈ as, ¬ IsTp H a) (motive_2 := fun vs cs as _ => ∀ a ∈ as, ¬ IsTp H a)
    (motive_3 := fun vs cs as _ => ∀ a ∈ as, ¬ IsTp H a) (motive_4 := fun vs cs as _ => ∀ a ∈ as, ¬ IsTp H a)
    (fun _ => c0) (fun e _ => c1 e (fun _ z => nomatch z) c0) (fun e _ ih => c1 e (fun _ z => nomatch z) ih) (fun e _ ih => c1 e (fun _ z => nomatch z) ih) (fun e _ => c1 e (fun _ z => nomatch z) c0) (fun _ _ => c0) (fun e _ ih => c1 e (fun _ z => nomatch z) ih) (fun _ => c0) (fun e _ => c1 e (fun _ z => nomatch z) c0) (fun e _ => c1 e (fun _ z => nomatch z) c0) (fun _ _ => c0) c0 (fun _ _ => c2) c0 (fun _ _ => c2) c0 (fun _ _ => c2) h
theorem MpAll.to (s : Same F F') : ∀ {vs : List V} {cs : List MO} {as : List Addr}, MpAll K F H vs cs as → (∀ a ∈ as, H' a = H a) → MpAll K F' H' vs cs as
  | _, _, _, .nil, _ => .nil
  | _, _, _, .cons h r, k => .cons (h.to s fun a ha => k a (List.mem_append_left _ ha)) (MpAll.to s r fun a ha => k a (List.mem_append_right _ ha))
theorem MpKV.to (s : Same F F') : ∀ {vs : List (Key × V)} {cs : List (Key × MO)} {as : List Addr}, MpKV K F H vs cs as → (∀ a ∈ as, H' a = H a) → MpKV K F' H' vs cs as
  | _, _, _, .nil, _ => .nil
  | _, _, _, .cons h r, k => .cons (h.to s fun a ha => k a (List.mem_append_left _ ha)) (MpKV.to s r fun a ha => k a (List.mem_append_right _ ha))
theorem MpFs.to (s : Same F F') : ∀ {vs : List (Str × V)} {cs : List (Str × MO)} {as : List Addr}, MpFs K F H vs cs as → (∀ a ∈ as, H' a = H a) → MpFs K F' H' vs cs as
  | _, _, _, .nil, _ => .nil
  | _, _, _, .cons h r, k => .cons (h.to s fun a ha => k a (List.mem_append_left _ ha)) (MpFs.to s r fun a ha => k a (List.mem_append_right _ ha))
end
end PL

namespace PL
open PySem L2

/-! ### 3. slots, and how they are held -/
inductive Sl where
  | un
  | v (d : PyData)
  | m (c : MO)
abbrev PEnv := List Sl
/-- the entry: what was still, the heap, what was lent (may change), the slots that stay bound -/
structure Ent where
  F0 : Hp
  H0 : Hp
  B : Addr → Prop
  fix : Nat → Option V
def SlOk (K : PySem.W.Frag) (F H : Hp) (x : Option V) (s : Sl) (as : List Addr) : Prop := match s with
  | .un => as = []
  | .v d => ∃ v, x = some v ∧ Fp F v d ∧ as = []
  | .m c => ∃ v, x = some v ∧ Mp K F H v c as
structure SR (K : PySem.W.Frag) (E : Ent) (F H : Hp) (σ : St) (env : PEnv) (As : Nat → List Addr) : Prop where
  sub : Same F H
  f0 : Same E.F0 F
  grow : ∀ a, F a ≠ none → E.F0 a ≠ none ∨ E.H0 a = none ∨ E.B a ∨ IsTp E.H0 a
  keep : ∀ b o, E.H0 b = some o → ¬ E.B b → H b = some o
  len : σ.length = env.length
  slot : ∀ i s, env[i]? = some s → ∃ x, σ[i]? = some x ∧ SlOk K F H x s (As i)
  out : ∀ i, env.length ≤ i → As i = []
  own : ∀ i a, a ∈ As i → F a = none ∧ (E.B a ∨ E.H0 a = none)
  nd : ∀ i, (As i).Nodup
  disj : ∀ i j a, i ≠ j → a ∈ As i → a ∉ As j
  fix : ∀ i v, E.fix i = some v → σ[i]? = some (some v)
/-- a result: still, or owned and new to all slots -/
def RsOk (K : PySem.W.Frag) (E : Ent) (F H : Hp) (As : Nat → List Addr) (v : V) (r : Sl) (ar : List Addr) : Prop :=
  SlOk K F H (some v) r ar ∧ ar.Nodup ∧ (∀ a ∈ ar, F a = none ∧ (E.B a ∨ E.H0 a = none)) ∧ ∀ i, ∀ a ∈ ar, a ∉ As i

section
variable {K : PySem.W.Frag} {E : Ent} {F H F' H' : Hp} {σ : St} {env : PEnv} {As : Nat → List Addr}
theorem SlOk.to {x : Option V} {s : Sl} {as : List Addr} (h : SlOk K F H x s as) (f : Same F F') (k : ∀ a ∈ as, H' a = H a) : SlOk K F' H' x s as := by
  cases s with
  | un => exact h
  | v d =>
    obtain ⟨v, e, h, z⟩ := h
    exact ⟨v, e, h.to f, z⟩
  | m c =>
    obtain ⟨v, e, h⟩ := h
    exact ⟨v, e, h.to f k⟩
theorem SlOk.live {x : Option V} {s : Sl} {as : List Addr} (h : SlOk K F H x s as) : ∀ a ∈ as, H a ≠ none := by
  cases s with
  | un =>
    have z : as = [] := h
    rw [z]
    exact fun a ha => absurd ha (by simp)
  | v d =>
    obtain ⟨v, e, h, z⟩ := h
    rw [z]
    exact fun a ha => absurd ha (by simp)
  | m c =>
    obtain ⟨v, e, h⟩ := h
    exact h.live
theorem SR.live (S : SR K E F H σ env As) (i : Nat) : ∀ a ∈ As i, H a ≠ none := fun a ha => by
  by_cases hi : i < env.length
  · obtain ⟨x, _, h⟩ := S.slot i env[i] (List.getElem?_eq_getElem hi)
    exact h.live a ha
  · rw [S.out i (by omega)] at ha
    cases ha
/-- what is free now was free at the entry, or lent -/
theorem SR.free (S : SR K E F H σ env As) {a : Addr} (h : H a = none) : E.H0 a = none ∨ E.B a := by
  cases q : E.H0 a with
  | none => exact .inl rfl
  | some o =>
    refine .inr (Classical.byContradiction fun nb => ?_)
    rw [S.keep a o q nb] at h
    cases h
theorem SlOk.ntp {x : Option V} {s : Sl} {as : List Addr} (h : SlOk K F H x s as) : ∀ a ∈ as, ¬ IsTp H a := by
  cases s with
  | un =>
    have z : as = [] := h
    rw [z]
    exact fun a ha => absurd ha (by simp)
  | v d =>
    obtain ⟨v, e, h, z⟩ := h
    rw [z]
    exact fun a ha => absurd ha (by simp)
  | m c =>
    obtain ⟨v, e, h⟩ := h
    exact h.ntp
theorem SR.ntp (S : SR K E F H σ env As) (i : Nat) : ∀ a ∈ As i, ¬ IsTp H a := fun a ha => by
  by_cases hi : i < env.length
  · obtain ⟨x, _, h⟩ := S.slot i env[i] (List.getElem?_eq_getElem hi)
    exact h.ntp a ha
  · rw [S.out i (by omega)] at ha
    cases ha
/-- a tuple of now was one at the entry, or new, or lent -/
theorem SR.tp (S : SR K E F H σ env As) {a : Addr} (h : IsTp H a) : E.H0 a = none ∨ E.B a ∨ IsTp E.H0 a := by
  cases q : E.H0 a with
  | none => exact .inl rfl
  | some o =>
    by_cases nb : E.B a
    · exact .inr (.inl nb)
    · obtain ⟨xs, e⟩ := h
      have z := S.keep a o q nb
      rw [e] at z
      cases z
      exact .inr (.inr ⟨xs, q⟩)
theorem SR.free' (S : SR K E F H σ env As) {a : Addr} (h : H a = none) : E.H0 a = none ∨ E.B a ∨ IsTp E.H0 a := (S.free h).elim .inl fun z => .inr (.inl z)
/-- the heap grows, what is still grows by new things only -/
structure Gr (F H F' H' : Hp) : Prop where
  ff : Same F F'
  fh : Same F' H'
  hh : Same H H'
  new : ∀ a, F' a ≠ none → F a ≠ none ∨ H a = none ∨ IsTp H a
theorem Gr.refl (h : Same F H) : Gr F H F H := ⟨Same.refl F, h, Same.refl H, fun _ z => .inl z⟩
theorem Gr.trans {F2 H2 : Hp} (g : Gr F H F' H') (k : Gr F' H' F2 H2) : Gr F H F2 H2 := ⟨g.ff.trans k.ff, k.fh, g.hh.trans k.hh, fun a z => by
  rcases k.new a z with e | e | ⟨xs, e⟩
  · exact g.new a e
  · exact .inr (.inl (g.hh.free e))
  · cases q : H a with
    | none => exact .inr (.inl rfl)
    | some o =>
      have y := g.hh a o q
      rw [e] at y
      cases y
      exact .inr (.inr ⟨xs, q⟩)⟩
theorem Gr.off (g : Gr F H F' H') {a : Addr} (h1 : F a = none) (h2 : H a ≠ none) (h3 : ¬ IsTp H a) : F' a = none := by
  cases q : F' a with
  | none => rfl
  | some o =>
    rcases g.new a (some_ne q) with z | z | z
    · exact absurd h1 z
    · exact absurd z h2
    · exact absurd z h3
theorem SR.gr (S : SR K E F H σ env As) (g : Gr F H F' H') : SR K E F' H' σ env As where
  sub := g.fh
  f0 := S.f0.trans g.ff
  grow := fun a h => by
    rcases g.new a h with z | z | z
    · exact S.grow a z
    · exact .inr (S.free' z)
    · exact .inr (S.tp z)
  keep := fun b o e n => g.hh b o (S.keep b o e n)
  len := S.len
  slot := fun i s e => by
    obtain ⟨x, h1, h2⟩ := S.slot i s e
    refine ⟨x, h1, h2.to g.ff fun a ha => ?_⟩
    cases q : H a with
    | none => exact absurd q (S.live i a ha)
    | some o => exact g.hh a o q
  out := S.out
  own := fun i a h => ⟨g.off (S.own i a h).1 (S.live i a h) (S.ntp i a h), (S.own i a h).2⟩
  nd := S.nd
  disj := S.disj
  fix := S.fix
theorem RsOk.gr {v : V} {r : Sl} {ar : List Addr} (R : RsOk K E F H As v r ar) (g : Gr F H F' H') : RsOk K E F' H' As v r ar := by
  obtain ⟨h, n, o, d⟩ := R
  refine ⟨h.to g.ff fun a ha => ?_, n, fun a ha => ⟨g.off (o a ha).1 (h.live a ha) (h.ntp a ha), (o a ha).2⟩, d⟩
  cases q : H a with
  | none => exact absurd q (h.live a ha)
  | some o => exact g.hh a o q
/-- a new thing p = o, still -/
theorem Gr.laid (h : Same F H) {p : Addr} {o : HO} (hp : H p = none) : Gr F H (upd F p o) (upd H p o) := by
  have fp : F p = none := h.free hp
  refine ⟨fun b u e => ?_, fun b u e => ?_, fun b u e => ?_, fun a e => ?_⟩
  · rw [upd_ne (ne_of_none e fp)]
    exact e
  · by_cases q : b = p
    · rw [q, upd_same] at e ⊢
      exact e
    · rw [upd_ne q] at e ⊢
      exact h b u e
  · rw [upd_ne (ne_of_none e hp)]
    exact e
  · by_cases q : a = p
    · rw [q]
      exact .inr (.inl hp)
    · rw [upd_ne q] at e
      exact .inl e
/-- a new thing p = o, owned -/
theorem Gr.made (h : Same F H) {p : Addr} {o : HO} (hp : H p = none) : Gr F H F (upd H p o) :=
  ⟨Same.refl F, fun b u e => by rw [upd_ne (ne_of_none e (h.free hp))]; exact h b u e, fun b u e => by rw [upd_ne (ne_of_none e hp)]; exact e, fun a e => .inl e⟩

/-! what is owned becomes still -/
/-- the still form of an owned thing -/
def MO.ds? : List (Option PyData) → Option (List PyData)
  | [] => some []
  | some d :: r => (MO.ds? r).map (d :: ·)
  | none :: _ => none
mutual
def MO.d? : MO → Option PyData
  | .fz d => some d
  | .ol ds => some (.list ds)
  | .lst cs => (MO.dAll? cs).map .list
  | _ => none
def MO.dAll? : List MO → Option (List PyData)
  | [] => some []
  | c :: cs => match MO.d? c, MO.dAll? cs with
    | some d, some ds => some (d :: ds)
    | _, _ => none
end
/-- F with the things of H at as -/
def frz (F H : Hp) (as : List Addr) : Hp := fun a => if a ∈ as then H a else F a
theorem frz_of {as : List Addr} {a : Addr} (h : a ∈ as) : frz F H as a = H a := if_pos h
theorem frz_not {as : List Addr} {a : Addr} (h : a ∉ as) : frz F H as a = F a := if_neg h
theorem frz_sub (s : Same F H) (as : List Addr) : Same F (frz F H as) := fun b o e => by
  by_cases h : b ∈ as
  · rw [frz_of h]; exact s b o e
  · rw [frz_not h]; exact e
theorem frz_le (s : Same F H) (as : List Addr) : Same (frz F H as) H := fun b o e => by
  by_cases h : b ∈ as
  · rw [frz_of h] at e; exact e
  · rw [frz_not h] at e; exact s b o e
mutual
theorem Mp.still {F2 : Hp} (f : Same F F2) : ∀ {c : MO} {v : V} {as : List Addr} {d : PyData}, Mp K F H v c as → c.d? = some d → (∀ a ∈ as, F2 a = H a) → Fp F2 v d
  | .fz _, _, _, _, .fz h, e, _ => by
    rw [MO.d?] at e
    cases e
    exact h.to f
  | .ol _, _, _, _, .ol h1 h2, e, k => by
    rw [MO.d?] at e
    cases e
    exact .lst ((k _ List.mem_cons_self).trans h1) (h2.to f)
  | .lst cs, _, _, _, .lst h1 h2, e, k => by
    rw [MO.d?] at e
    obtain ⟨ds, e1, e2⟩ := Option.map_eq_some_iff.mp e
    rw [← e2]
    exact .lst ((k _ List.mem_cons_self).trans h1) (MpAll.still f h2 e1 fun a ha => k a (List.mem_cons_of_mem _ ha))
  | .dk _, _, _, _, _, e, _ => by rw [MO.d?] at e; cases e; all_goals (intros; first | contradiction | (intro h; cases h))
  | .dt _ _, _, _, _, _, e, _ => by rw [MO.d?] at e; cases e; all_goals (intros; first | contradiction | (intro h; cases h))
  | .ins _ _, _, _, _, _, e, _ => by rw [MO.d?] at e; cases e; all_goals (intros; first | contradiction | (intro h; cases h))
  | .scr _, _, _, _, _, e, _ => by rw [MO.d?] at e; cases e; all_goals (intros; first | contradiction | (intro h; cases h))
  | .st _, _, _, _, _, e, _ => by rw [MO.d?] at e; cases e; all_goals (intros; first | contradiction | (intro h; cases h))
  | .ob _ _ _, _, _, _, _, e, _ => by rw [MO.d?] at e; cases e; all_goals (intros; first | contradiction | (intro h; cases h))
  | .obL _ _ _, _, _, _, _, e, _ => by rw [MO.d?] at e; cases e; all_goals (intros; first | contradiction | (intro h; cases h))
theorem MpAll.still {F2 : Hp} (f : Same F F2) : ∀ {cs : List MO} {vs : List V} {as : List Addr} {ds : List PyData}, MpAll K F H vs cs as → MO.dAll? cs = some ds → (∀ a ∈ as, F2 a = H a) → FpAll F2 vs ds
  | [], _, _, _, .nil, e, _ => by
    rw [MO.dAll?] at e
    cases e
    exact .nil
  | c :: cs, _, _, _, .cons h r, e, k => by
    rw [MO.dAll?] at e
    cases e1 : c.d? with
    | none => rw [e1] at e; cases e
    | some d =>
      cases e2 : MO.dAll? cs with
      | none => rw [e1, e2] at e; cases e
      | some ds =>
        rw [e1, e2] at e
        cases e
        exact .cons (Mp.still f h e1 fun a ha => k a (List.mem_append_left _ ha)) (MpAll.still f r e2 fun a ha => k a (List.mem_append_right _ ha))
end
def Sl.d? : Sl → Option PyData
  | .un => none
  | .v d => some d
  | .m c => c.d?
theorem RsOk.still {v : V} {r : Sl} {ar : List Addr} {d : PyData} (S : SR K E F H σ env As) (R : RsOk K E F H As v r ar) (e : r.d? = some d) :
    SR K E (frz F H ar) H σ env As ∧ Same F (frz F H ar) ∧ Fp (frz F H ar) v d := by
  obtain ⟨h, n, o, dj⟩ := R
  have f := frz_sub (F := F) S.sub ar
  refine ⟨⟨frz_le S.sub ar, S.f0.trans f, fun a z => ?_, S.keep, S.len, fun i s q => ?_, S.out, fun i a q => ⟨?_, (S.own i a q).2⟩, S.nd, S.disj, S.fix⟩, f, ?_⟩
  · by_cases q : a ∈ ar
    · exact .inr ((o a q).2.elim (fun z => .inr (.inl z)) .inl)
    · rw [frz_not q] at z
      exact S.grow a z
  · obtain ⟨x, h1, h2⟩ := S.slot i s q
    exact ⟨x, h1, h2.to f fun _ _ => rfl⟩
  · rw [frz_not fun z => dj i a z q]
    exact (S.own i a q).1
  · cases r with
    | un => cases e
    | v d' =>
      obtain ⟨v', e1, h1, _⟩ := h
      cases e1
      cases e
      exact h1.to f
    | m c =>
      obtain ⟨v', e1, h1⟩ := h
      cases e1
      exact Mp.still f h1 e fun a ha => frz_of ha

/-! slots set -/
theorem getElem?_set_of {α : Type} {l : List α} {i j : Nat} {x y : α} (h : (l.set i x)[j]? = some y) : (i = j ∧ y = x ∧ i < l.length) ∨ (i ≠ j ∧ l[j]? = some y) := by
  by_cases e : i = j
  · subst e
    by_cases hl : i < l.length
    · rw [List.getElem?_set_self hl] at h
      cases h
      exact .inl ⟨rfl, rfl, hl⟩
    · rw [List.getElem?_eq_none (by simpa using hl)] at h
      cases h
  · rw [List.getElem?_set_ne e] at h
    exact .inr ⟨e, h⟩
def setA (As : Nat → List Addr) (i : Nat) (as : List Addr) : Nat → List Addr := fun j => if j = i then as else As j
theorem setA_same {i : Nat} {as : List Addr} : setA As i as i = as := if_pos rfl
theorem setA_ne {i j : Nat} {as : List Addr} (h : j ≠ i) : setA As i as j = As j := if_neg h
theorem setA_mem {i j : Nat} {as : List Addr} {a : Addr} (h : a ∈ setA As i as j) : (j = i ∧ a ∈ as) ∨ (j ≠ i ∧ a ∈ As j) := by
  by_cases e : j = i
  · subst e
    rw [setA_same] at h
    exact .inl ⟨rfl, h⟩
  · rw [setA_ne e] at h
    exact .inr ⟨e, h⟩
/-- a result goes into a slot -/
theorem SR.set {v : V} {r : Sl} {ar : List Addr} (S : SR K E F H σ env As) (R : RsOk K E F H As v r ar) {i : Nat} (hi : i < env.length) (hf : E.fix i = none) : SR K E F H (σ.set i (some v)) (env.set i r) (setA As i ar) where
  sub := S.sub
  f0 := S.f0
  grow := S.grow
  keep := S.keep
  len := by rw [List.length_set, List.length_set]; exact S.len
  slot := fun j s e => by
    rcases getElem?_set_of e with ⟨rfl, rfl, _⟩ | ⟨ne, e⟩
    · exact ⟨some v, List.getElem?_set_self (by rw [S.len]; exact hi), by rw [setA_same]; exact R.1⟩
    · obtain ⟨x, h1, h2⟩ := S.slot j s e
      exact ⟨x, by rw [List.getElem?_set_ne ne]; exact h1, by rw [setA_ne (Ne.symm ne)]; exact h2⟩
  out := fun j h => by
    rw [List.length_set] at h
    rw [setA_ne (by omega)]
    exact S.out j h
  own := fun j a h => by
    rcases setA_mem h with ⟨_, h⟩ | ⟨_, h⟩
    · exact R.2.2.1 a h
    · exact S.own j a h
  nd := fun j => by
    by_cases e : j = i
    · rw [e, setA_same]; exact R.2.1
    · rw [setA_ne e]; exact S.nd j
  disj := fun j k a ne h1 h2 => by
    rcases setA_mem h1 with ⟨e1, h1⟩ | ⟨n1, h1⟩
    · rcases setA_mem h2 with ⟨e2, h2⟩ | ⟨n2, h2⟩
      · exact ne (e1.trans e2.symm)
      · exact R.2.2.2 k a h1 h2
    · rcases setA_mem h2 with ⟨e2, h2⟩ | ⟨n2, h2⟩
      · exact R.2.2.2 j a h2 h1
      · exact S.disj j k a ne h1 h2
  fix := fun j w e => by
    have ne : i ≠ j := fun z => by
      rw [← z, hf] at e
      cases e
    rw [List.getElem?_set_ne ne]
    exact S.fix j w e
/-- a still value is a result -/
theorem RsOk.v {v : V} {d : PyData} (h : Fp F v d) : RsOk K E F H As v (.v d) [] := ⟨⟨v, rfl, h, rfl⟩, List.nodup_nil, fun a ha => absurd ha (by simp), fun i a ha => absurd ha (by simp)⟩
/-- a new owned thing -/
theorem RsOk.new {p : Addr} {o : HO} {c : MO} (S : SR K E F H σ env As) (hp : H p = none) (h : Mp K F (upd H p o) (.ref p) c [p]) : RsOk K E F (upd H p o) As (.ref p) (.m c) [p] := by
  refine ⟨⟨_, rfl, h⟩, by simp, fun a ha => ?_, fun i a ha q => ?_⟩
  · rw [List.mem_singleton.mp ha]
    exact ⟨S.sub.free hp, (S.free hp).symm⟩
  · rw [List.mem_singleton.mp ha] at q
    exact S.live i p q hp
/-- the content of an owned slot changes in place: the heap at its addresses alone -/
theorem SR.write (S : SR K E F H σ env As) {i : Nat} {v : V} {c' : MO} {as' : List Addr} (hi : i < env.length) (hσ : σ[i]? = some (some v)) (m : Mp K F H' v c' as') (nd : as'.Nodup) (sub : ∀ a ∈ as', a ∈ As i ∨ H a = none)
    (k : ∀ b, b ∉ As i → H b ≠ none → H' b = H b) : SR K E F H' σ (env.set i (.m c')) (setA As i as') where
  sub := fun b o e => by
    have z := S.sub b o e
    rw [k b (fun q => by rw [(S.own i b q).1] at e; cases e) (some_ne z)]
    exact z
  f0 := S.f0
  grow := S.grow
  keep := fun b o e n => by
    have z := S.keep b o e n
    rw [k b (fun q => (S.own i b q).2.elim n fun w => by rw [w] at e; cases e) (some_ne z)]
    exact z
  len := by rw [List.length_set]; exact S.len
  slot := fun j s e => by
    rcases getElem?_set_of e with ⟨rfl, rfl, _⟩ | ⟨ne, e⟩
    · exact ⟨some v, hσ, by rw [setA_same]; exact ⟨v, rfl, m⟩⟩
    · obtain ⟨x, h1, h2⟩ := S.slot j s e
      refine ⟨x, h1, ?_⟩
      rw [setA_ne (Ne.symm ne)]
      exact h2.to (Same.refl F) fun a ha => k a (fun q => S.disj j i a (Ne.symm ne) ha q) (S.live j a ha)
  out := fun j h => by
    rw [List.length_set] at h
    rw [setA_ne (by omega)]
    exact S.out j h
  own := fun j a h => by
    rcases setA_mem h with ⟨_, h⟩ | ⟨_, h⟩
    · rcases sub a h with z | z
      · exact S.own i a z
      · exact ⟨S.sub.free z, (S.free z).symm⟩
    · exact S.own j a h
  nd := fun j => by
    by_cases e : j = i
    · rw [e, setA_same]; exact nd
    · rw [setA_ne e]; exact S.nd j
  disj := fun j l a ne h1 h2 => by
    have no : ∀ j', j' ≠ i → a ∈ As j' → a ∈ as' → False := fun j' n q z => by
      rcases sub a z with y | y
      · exact S.disj j' i a n q y
      · exact S.live j' a q y
    rcases setA_mem h1 with ⟨e1, h1⟩ | ⟨n1, h1⟩
    · rcases setA_mem h2 with ⟨e2, h2⟩ | ⟨n2, h2⟩
      · exact ne (e1.trans e2.symm)
      · exact no l n2 h2 h1
    · rcases setA_mem h2 with ⟨e2, h2⟩ | ⟨n2, h2⟩
      · exact no j n1 h1 h2
      · exact S.disj j l a ne h1 h2
  fix := S.fix
end

/-! ghost slots behind the def's own: things held while more is evaluated -/
section
variable {K : PySem.W.Frag} {E : Ent} {F H F' H' : Hp} {σ : St} {env : PEnv} {As : Nat → List Addr}
theorem SR.push {v : V} {r : Sl} {ar : List Addr} (S : SR K E F H σ env As) (R : RsOk K E F H As v r ar) : SR K E F H (σ ++ [some v]) (env ++ [r]) (setA As env.length ar) where
  sub := S.sub
  f0 := S.f0
  grow := S.grow
  keep := S.keep
  len := by rw [List.length_append, List.length_append, S.len]; rfl
  slot := fun i s e => by
    by_cases hi : i < env.length
    · rw [List.getElem?_append_left hi] at e
      obtain ⟨x, h1, h2⟩ := S.slot i s e
      exact ⟨x, by rw [List.getElem?_append_left (by rw [S.len]; exact hi)]; exact h1, by rw [setA_ne (by omega)]; exact h2⟩
    · have hi' : i = env.length := by
        have := (List.getElem?_eq_some_iff.mp e).1
        rw [List.length_append, List.length_singleton] at this
        omega
      subst hi'
      rw [List.getElem?_append_right (Nat.le_refl _), Nat.sub_self] at e
      cases e
      refine ⟨some v, ?_, by rw [setA_same]; exact R.1⟩
      rw [List.getElem?_append_right (by rw [S.len]; exact Nat.le_refl _), S.len, Nat.sub_self]
      rfl
  out := fun i h => by
    rw [List.length_append, List.length_singleton] at h
    rw [setA_ne (by omega)]
    exact S.out i (by omega)
  own := fun j a h => by
    rcases setA_mem h with ⟨_, h⟩ | ⟨_, h⟩
    · exact R.2.2.1 a h
    · exact S.own j a h
  nd := fun j => by
    by_cases e : j = env.length
    · rw [e, setA_same]; exact R.2.1
    · rw [setA_ne e]; exact S.nd j
  disj := fun j k a ne h1 h2 => by
    rcases setA_mem h1 with ⟨e1, h1⟩ | ⟨n1, h1⟩
    · rcases setA_mem h2 with ⟨e2, h2⟩ | ⟨n2, h2⟩
      · exact ne (e1.trans e2.symm)
      · exact R.2.2.2 k a h1 h2
    · rcases setA_mem h2 with ⟨e2, h2⟩ | ⟨n2, h2⟩
      · exact R.2.2.2 j a h2 h1
      · exact S.disj j k a ne h1 h2
  fix := fun i w e => by
    have z := S.fix i w e
    rw [List.getElem?_append_left (List.getElem?_eq_some_iff.mp z).1]
    exact z
/-- the last ghost slot is taken out again -/
theorem SR.pop {v : V} {r : Sl} (S : SR K E F H (σ ++ [some v]) (env ++ [r]) As) (hf : ∀ i w, E.fix i = some w → i < env.length) : SR K E F H σ env (setA As env.length []) ∧ RsOk K E F H (setA As env.length []) v r (As env.length) := by
  have hl : σ.length = env.length := by
    have := S.len
    rw [List.length_append, List.length_append, List.length_singleton, List.length_singleton] at this
    omega
  obtain ⟨x, h1, h2⟩ := S.slot env.length r (by rw [List.getElem?_append_right (Nat.le_refl _), Nat.sub_self]; rfl)
  have ex : x = some v := by
    rw [List.getElem?_append_right (by rw [hl]; exact Nat.le_refl _), hl, Nat.sub_self] at h1
    exact (Option.some.inj h1).symm
  subst ex
  refine ⟨⟨S.sub, S.f0, S.grow, S.keep, hl, fun i s e => ?_, fun i h => ?_, fun j a h => ?_, fun j => ?_, fun j k a ne h1 h2 => ?_, fun i w e => ?_⟩, h2, S.nd _, fun a ha => S.own _ a ha, fun i a ha q => ?_⟩
  · have hi := (List.getElem?_eq_some_iff.mp e).1
    obtain ⟨x, q1, q2⟩ := S.slot i s (by rw [List.getElem?_append_left hi]; exact e)
    rw [List.getElem?_append_left (by rw [hl]; exact hi)] at q1
    exact ⟨x, q1, by rw [setA_ne (by omega)]; exact q2⟩
  · by_cases e : i = env.length
    · rw [e, setA_same]
    · rw [setA_ne e]
      exact S.out i (by rw [List.length_append, List.length_singleton]; omega)
  · rcases setA_mem h with ⟨_, h⟩ | ⟨_, h⟩
    · cases h
    · exact S.own j a h
  · by_cases e : j = env.length
    · rw [e, setA_same]; exact List.nodup_nil
    · rw [setA_ne e]; exact S.nd j
  · rcases setA_mem h1 with ⟨_, h1⟩ | ⟨_, h1⟩
    · cases h1
    · rcases setA_mem h2 with ⟨_, h2⟩ | ⟨_, h2⟩
      · cases h2
      · exact S.disj j k a ne h1 h2
  · have z := S.fix i w e
    rw [List.getElem?_append_left (by rw [hl]; exact hf i w e)] at z
    exact z
  · rcases setA_mem q with ⟨_, q⟩ | ⟨n, q⟩
    · cases q
    · exact S.disj _ _ a (Ne.symm n) ha q
/-- an owned slot is taken out (moved) -/
theorem SR.move (S : SR K E F H σ env As) {i : Nat} {r : Sl} {v : V} (hi : env[i]? = some r) (hσ : σ[i]? = some (some v)) : SR K E F H σ (env.set i .un) (setA As i []) ∧ RsOk K E F H (setA As i []) v r (As i) := by
  have hl := (List.getElem?_eq_some_iff.mp hi).1
  obtain ⟨x, h1, h2⟩ := S.slot i r hi
  have ex : x = some v := by
    rw [hσ] at h1
    exact (Option.some.inj h1).symm
  subst ex
  refine ⟨⟨S.sub, S.f0, S.grow, S.keep, by rw [List.length_set]; exact S.len, fun j s e => ?_, fun j h => ?_, fun j a h => ?_, fun j => ?_, fun j k a ne h1 h2 => ?_, S.fix⟩, h2, S.nd _, fun a ha => S.own _ a ha, fun j a ha q => ?_⟩
  · rcases getElem?_set_of e with ⟨rfl, rfl, _⟩ | ⟨ne, e⟩
    · exact ⟨some v, hσ, by rw [setA_same]; exact (rfl : ([] : List Addr) = [])⟩
    · obtain ⟨x, q1, q2⟩ := S.slot j s e
      exact ⟨x, q1, by rw [setA_ne (Ne.symm ne)]; exact q2⟩
  · by_cases e : j = i
    · rw [e, setA_same]
    · rw [setA_ne e]
      exact S.out j (by rw [List.length_set] at h; exact h)
  · rcases setA_mem h with ⟨_, h⟩ | ⟨_, h⟩
    · cases h
    · exact S.own j a h
  · by_cases e : j = i
    · rw [e, setA_same]; exact List.nodup_nil
    · rw [setA_ne e]; exact S.nd j
  · rcases setA_mem h1 with ⟨_, h1⟩ | ⟨_, h1⟩
    · cases h1
    · rcases setA_mem h2 with ⟨_, h2⟩ | ⟨_, h2⟩
      · cases h2
      · exact S.disj j k a ne h1 h2
  · rcases setA_mem q with ⟨_, q⟩ | ⟨n, q⟩
    · cases q
    · exact S.disj _ _ a (Ne.symm n) ha q
/-- a slot's owned thing becomes still -/
theorem SR.still (S : SR K E F H σ env As) {i : Nat} {r : Sl} {d : PyData} (hi : env[i]? = some r) (e : r.d? = some d) :
    ∃ v, σ[i]? = some (some v) ∧ SR K E (frz F H (As i)) H σ (env.set i (.v d)) (setA As i []) ∧ Same F (frz F H (As i)) ∧ Fp (frz F H (As i)) v d := by
  obtain ⟨x, h1, h2⟩ := S.slot i r hi
  obtain ⟨v, ev⟩ : ∃ v, x = some v := by
    cases r with
    | un => cases e
    | v d' => obtain ⟨v, e1, _⟩ := h2; exact ⟨v, e1⟩
    | m c => obtain ⟨v, e1, _⟩ := h2; exact ⟨v, e1⟩
  subst ev
  obtain ⟨S1, R1⟩ := S.move hi h1
  obtain ⟨S2, f, h⟩ := R1.still S1 e
  refine ⟨v, h1, ?_, f, h⟩
  have hl := (List.getElem?_eq_some_iff.mp hi).1
  refine ⟨S2.sub, S2.f0, S2.grow, S2.keep, by rw [List.length_set]; exact S.len, fun j s q => ?_, fun j q => S2.out j (by rw [List.length_set] at q ⊢; exact q), S2.own, S2.nd, S2.disj, S2.fix⟩
  rcases getElem?_set_of q with ⟨rfl, rfl, _⟩ | ⟨ne, q⟩
  · exact ⟨some v, h1, by rw [setA_same]; exact ⟨v, rfl, h, rfl⟩⟩
  · exact S2.slot j s (by rw [List.getElem?_set_ne ne]; exact q)
end
end PL

namespace PL
open PySem L2

/-! ### 4. readings without a heap, and their lifting -/
abbrev PX := PEnv → (PyData → PEnv → Prop) → Prop
abbrev PO := PEnv → (Sl → PEnv → Prop) → Prop
abbrev PTt := PEnv → (Bool → PEnv → Prop) → Prop
/-- an argument: a still datum, or a slot that is lent -/
inductive Ag where
  | d (x : PyData)
  | s (i : Nat)
abbrev PAs := PEnv → (List Ag → PEnv → Prop) → Prop
structure PEnds where
  nx : PEnv → Prop
  rt : Sl → PEnv → Prop
  bk : PEnv → Prop := fun _ => False
  ct : PEnv → Prop := fun _ => False
abbrev PSt := PEnds → PEnv → Prop
def FixIn (E : Ent) (σ : St) : Prop := ∀ i w, E.fix i = some w → i < σ.length

section
variable (K : PySem.W.Frag) (E : Ent)
def KE (σ ts : St) (F : Hp) (Q : VK) (Q' : PyData → PEnv → Prop) : Prop := ∀ v d F' H' env' As', SR K E F' H' (σ ++ ts) env' As' → Same F F' → Fp F' v d → Q' d env' → Q v H'
def KO (σ ts : St) (F : Hp) (Q : VK) (Q' : Sl → PEnv → Prop) : Prop := ∀ v r ar F' H' env' As', SR K E F' H' (σ ++ ts) env' As' → Same F F' → RsOk K E F' H' As' v r ar → Q' r env' → Q v H'
def KT (σ ts : St) (F : Hp) (Q : Bool → Hp → Prop) (Q' : Bool → PEnv → Prop) : Prop := ∀ b F' H' env' As', SR K E F' H' (σ ++ ts) env' As' → Same F F' → Q' b env' → Q b H'
def AgOk (F : Hp) (σ : St) : V → Ag → Prop
  | v, .d x => Fp F v x
  | v, .s i => σ[i]? = some (some v)
def KA (σ ts : St) (F : Hp) (Q : List V → Hp → Prop) (Q' : List Ag → PEnv → Prop) : Prop := ∀ vs gs F' H' env' As', SR K E F' H' (σ ++ ts) env' As' → Same F F' → Paired (AgOk F' σ) vs gs → Q' gs env' → Q vs H'
structure KS (σ : St) (F : Hp) (D : Ends) (D' : PEnds) : Prop where
  nx : ∀ σ' F' H' env' As', σ'.length = σ.length → SR K E F' H' σ' env' As' → Same F F' → D'.nx env' → D.nx σ' H'
  bk : ∀ σ' F' H' env' As', σ'.length = σ.length → SR K E F' H' σ' env' As' → Same F F' → D'.bk env' → D.bk σ' H'
  ct : ∀ σ' F' H' env' As', σ'.length = σ.length → SR K E F' H' σ' env' As' → Same F F' → D'.ct env' → D.ct σ' H'
  rt : ∀ σ' F' H' env' As', σ'.length = σ.length → SR K E F' H' σ' env' As' → Same F F' → ∀ v r ar, RsOk K E F' H' As' v r ar → D'.rt r env' → D.rt v H'
def liftE (p : PX) : TE := fun σ H Q => ∃ ts F env As Q', SR K E F H (σ ++ ts) env As ∧ FixIn E σ ∧ p env Q' ∧ KE K E σ ts F Q Q'
def liftO (p : PO) : TE := fun σ H Q => ∃ ts F env As Q', SR K E F H (σ ++ ts) env As ∧ FixIn E σ ∧ p env Q' ∧ KO K E σ ts F Q Q'
def liftT (p : PTt) : TT := fun σ H Q => ∃ ts F env As Q', SR K E F H (σ ++ ts) env As ∧ FixIn E σ ∧ p env Q' ∧ KT K E σ ts F Q Q'
def liftA (p : PAs) : TA := fun σ H Q => ∃ ts F env As Q', SR K E F H (σ ++ ts) env As ∧ FixIn E σ ∧ p env Q' ∧ KA K E σ ts F Q Q'
def liftS (p : PSt) : TS := fun D σ H => ∃ F env As D', SR K E F H σ env As ∧ FixIn E σ ∧ p D' env ∧ KS K E σ F D D'
end

theorem pe_w {X : Cx} {e : Expr} {t t' : TE} (h : PE X e t) (w : ∀ σ H Q, t' σ H Q → t σ H Q) : PE X e t' := ⟨fun pins s σ H Q I q => h.run pins s σ H Q I (w _ _ _ q)⟩
theorem pt_w {X : Cx} {e : Expr} {t t' : TT} (h : PT X e t) (w : ∀ σ H Q, t' σ H Q → t σ H Q) : PT X e t' := ⟨fun pins s σ H Q I q => h.run pins s σ H Q I (w _ _ _ q)⟩
theorem pw_w {X : Cx} {e : Expr} {t t' : TT} (h : PW X e t) (w : ∀ σ H Q, t' σ H Q → t σ H Q) : PW X e t' := ⟨fun wh pins s σ H Q I q => h.run wh pins s σ H Q I (w _ _ _ q)⟩
theorem pa_w {X : Cx} {es : List Expr} {t t' : TA} (h : PA X es t) (w : ∀ σ H Q, t' σ H Q → t σ H Q) : PA X es t' := ⟨fun pos pins s σ H Q I q => h.run pos pins s σ H Q I (w _ _ _ q)⟩
theorem ps_w {X : Cx} {st : Stmt} {t t' : TS} (h : PS X st t) (w : ∀ D σ H, t' D σ H → t D σ H) : PS X st t' := ⟨fun pins s σ H D I q => h.run pins s σ H D I (w _ _ _ q)⟩
theorem pss_w {X : Cx} {st : List Stmt} {t t' : TS} (h : PSs X st t) (w : ∀ D σ H, t' D σ H → t D σ H) : PSs X st t' := ⟨fun pins s σ H D I q => h.run pins s σ H D I (w _ _ _ q)⟩

/-- item by item with its place -/
def mapI (f : Nat → Sl → Sl) : Nat → PEnv → PEnv
  | _, [] => []
  | n, s :: r => f n s :: mapI f (n + 1) r
def allI (f : Nat → Sl → Bool) : Nat → PEnv → Bool
  | _, [] => true
  | n, s :: r => f n s && allI f (n + 1) r
theorem mapI_gen (f : Nat → Sl → Sl) : ∀ (l : PEnv) (n : Nat), mapI f n l = l.mapIdx fun i s => f (n + i) s
  | [], _ => rfl
  | s :: r, n => by
    rw [mapI, mapI_gen f r (n + 1), List.mapIdx_cons, Nat.add_zero]
    congr 1
    refine congrArg (fun g => List.mapIdx g r) (funext fun i => funext fun s => ?_)
    rw [show n + 1 + i = n + (i + 1) by omega]
theorem mapI_eq (f : Nat → Sl → Sl) (l : PEnv) : mapI f 0 l = l.mapIdx f := by
  rw [mapI_gen]
  refine congrArg (fun g => List.mapIdx g l) (funext fun i => funext fun s => ?_)
  rw [Nat.zero_add]
theorem allI_gen (f : Nat → Sl → Bool) : ∀ (l : PEnv) (n : Nat), allI f n l = (l.mapIdx fun i s => f (n + i) s).all id
  | [], _ => rfl
  | s :: r, n => by
    rw [allI, allI_gen f r (n + 1), List.mapIdx_cons, Nat.add_zero, List.all_cons]
    congr 1
    refine congrArg (fun g => List.all (List.mapIdx g r) id) (funext fun i => funext fun s => ?_)
    rw [show n + 1 + i = n + (i + 1) by omega]
theorem allI_eq (f : Nat → Sl → Bool) (l : PEnv) : allI f 0 l = (l.mapIdx f).all id := by
  rw [allI_gen]
  refine congrArg (fun g => List.all (List.mapIdx g l) id) (funext fun i => funext fun s => ?_)
  rw [Nat.zero_add]

/-- a choice by a truth value -/
@[irreducible] def sel (c : Bool) (a b : Prop) : Prop := match c with
  | true => a
  | false => b
theorem sel_tt {a b : Prop} : sel true a b = a := by unfold sel; rfl
theorem sel_ff {a b : Prop} : sel false a b = b := by unfold sel; rfl
theorem sel_t {c : Bool} {a b : Prop} (e : c = true) (h : a) : sel c a b := by subst e; rw [sel_tt]; exact h
theorem sel_f {c : Bool} {a b : Prop} (e : c = false) (h : b) : sel c a b := by subst e; rw [sel_ff]; exact h
theorem sel_by {c : Bool} {a b : Prop} (h : c = true → a) (h' : c = false → b) : sel c a b := by
  cases c
  · exact sel_f rfl (h' rfl)
  · exact sel_t rfl (h rfl)

/-! ### 5. names, constants, coercions -/
def pC (d : PyData) : PX := fun env Q => Q d env
def pName (i : Nat) : PX := fun env Q => match env[i]? with
  | some (.v d) => Q d env
  | some (.m c) => match c.d? with
    | some d => Q d (env.set i (.v d))
    | none => False
  | _ => False
/-- what is owned becomes still -/
def pE (p : PO) : PX := fun env Q => p env fun r env' => match r.d? with
  | some d => Q d env'
  | none => False
def pV (p : PX) : PO := fun env Q => p env fun d env' => Q (.v d) env'
section
variable {X : Cx} {E : Ent}
theorem l_const {e : Expr} {v : V} {d : PyData} (h : PE X e (tC v)) (r : ∀ F, Fp F v d) : PE X e (liftE X.K E (pC d)) :=
  pe_w h fun σ H Q ⟨ts, F, env, As, Q', S, _, p, k⟩ => k v d F H env As S (Same.refl F) (r F) p
theorem l_int {i j pos} : PE X (.Constant (.int i) j pos) (liftE X.K E (pC (.int i))) := l_const pe_int fun _ => .int i
theorem l_bl {b j pos} : PE X (.Constant (.bool b) j pos) (liftE X.K E (pC (.bool b))) := l_const pe_bl fun _ => .bl b
theorem l_non {j pos} : PE X (.Constant .none j pos) (liftE X.K E (pC .none)) := l_const pe_non fun _ => .non
theorem l_str {x j pos} : PE X (.Constant (.str x) j pos) (liftE X.K E (pC (.str x))) := l_const pe_str fun _ => .str x
theorem app_get {σ ts : St} {i : Nat} {x : Option V} (hi : i < σ.length) (h : (σ ++ ts)[i]? = some x) : σ[i]? = some x := by
  rw [List.getElem?_append_left hi] at h
  exact h
/-- the slot of a name, read -/
theorem l_name (i : Nat) {x : Str} {pos : Pos} (h : PE X (.Name x pos) (tVar i)) (hN : i < X.N.length) : PE X (.Name x pos) (liftE X.K E (pName i)) := by
  refine ⟨fun pins s σ H Q I q => h.run pins s σ H Q I ?_⟩
  obtain ⟨ts, F, env, As, Q', S, _, p, k⟩ := q
  have hi : i < σ.length := by rw [I.len]; exact hN
  unfold pName at p
  split at p
  · rename_i d e
    obtain ⟨x', h1, v, e1, h2, _⟩ := S.slot i _ e
    subst e1
    exact ⟨v, app_get hi h1, k v d F H env As S (Same.refl F) h2 p⟩
  · rename_i c e
    split at p
    · rename_i d ed
      obtain ⟨v, h1, S', f, h2⟩ := S.still e ed
      exact ⟨v, app_get hi h1, k v d _ H _ _ S' f h2 p⟩
    · exact p.elim
  · exact p.elim
theorem l_e {e : Expr} {p : PO} (h : PE X e (liftO X.K E p)) : PE X e (liftE X.K E (pE p)) := by
  refine pe_w h fun σ H Q ⟨ts, F, env, As, Q', S, fx, p, k⟩ => ⟨ts, F, env, As, _, S, fx, p, ?_⟩
  intro v r ar F' H' env' As' S' f R q
  split at q
  · rename_i d ed
    obtain ⟨S2, f2, h2⟩ := R.still S' ed
    exact k v d _ H' env' As' S2 (f.trans f2) h2 q
  · exact q.elim
theorem l_v {e : Expr} {p : PX} (h : PE X e (liftE X.K E p)) : PE X e (liftO X.K E (pV p)) := by
  refine pe_w h fun σ H Q ⟨ts, F, env, As, Q', S, fx, p, k⟩ => ⟨ts, F, env, As, _, S, fx, p, ?_⟩
  intro v d F' H' env' As' S' f R q
  exact k v (.v d) [] F' H' env' As' S' f (.v R) q
end

/-! ### 6. operations on values -/
def RsNew (K : PySem.W.Frag) (H F' H' : Hp) (z : V) (r : Sl) (ar : List Addr) : Prop := SlOk K F' H' (some z) r ar ∧ ar.Nodup ∧ ∀ a ∈ ar, F' a = none ∧ H a = none
theorem RsNew.v {K : PySem.W.Frag} {H F' H' : Hp} {z : V} {d : PyData} (h : Fp F' z d) : RsNew K H F' H' z (.v d) [] := ⟨⟨z, rfl, h, rfl⟩, List.nodup_nil, fun a ha => absurd ha (by simp)⟩
theorem RsNew.ok {K : PySem.W.Frag} {E : Ent} {F H F' H' : Hp} {σ : St} {env : PEnv} {As : Nat → List Addr} {z : V} {r : Sl} {ar : List Addr} (S : SR K E F H σ env As) (n : RsNew K H F' H' z r ar) : RsOk K E F' H' As z r ar :=
  ⟨n.1, n.2.1, fun a ha => ⟨(n.2.2 a ha).1, (S.free (n.2.2 a ha).2).symm⟩, fun i a ha q => S.live i a q (n.2.2 a ha).2⟩
/-- a new owned list of still data -/
theorem RsNew.ol {K : PySem.W.Frag} {F H : Hp} (s : Same F H) {p : Addr} {vs : List V} {ds : List PyData} (hp : H p = none) (h : FpAll F vs ds) : RsNew K H F (upd H p (.lst vs)) (.ref p) (.m (.ol ds)) [p] :=
  ⟨⟨_, rfl, .ol upd_same h⟩, by simp, fun a ha => by
    rw [List.mem_singleton.mp ha]
    exact ⟨s.free hp, hp⟩⟩
/-- what follows a value operation -/
abbrev KN (K : PySem.W.Frag) (F H : Hp) (Q : VK) (P : Sl → Prop) : Prop := ∀ z r ar F' H', Gr F H F' H' → RsNew K H F' H' z r ar → P r → Q z H'
/-- the operation r on values is rp on data -/
def Op1 (K : PySem.W.Frag) (r : V → Hp → VK → Prop) (rp : PyData → (Sl → Prop) → Prop) : Prop := ∀ F H x d Q P, Same F H → Fp F x d → rp d P → KN K F H Q P → r x H Q
def Op2 (K : PySem.W.Frag) (r : V → V → Hp → VK → Prop) (rp : PyData → PyData → (Sl → Prop) → Prop) : Prop := ∀ F H x y d e Q P, Same F H → Fp F x d → Fp F y e → rp d e P → KN K F H Q P → r x y H Q
def OpL (K : PySem.W.Frag) (r : List V → Hp → VK → Prop) (rp : List PyData → (Sl → Prop) → Prop) : Prop := ∀ F H xs ds Q P, Same F H → FpAll F xs ds → rp ds P → KN K F H Q P → r xs H Q
theorem KN.flat {K : PySem.W.Frag} {F H : Hp} {Q : VK} {P : Sl → Prop} (k : KN K F H Q P) (s : Same F H) {z : V} {d : PyData} (h : Fp F z d) (p : P (.v d)) : Q z H := k z (.v d) [] F H (Gr.refl s) (.v h) p
theorem KN.list {K : PySem.W.Frag} {F H : Hp} {Q : VK} {P : Sl → Prop} (k : KN K F H Q P) (s : Same F H) {vs : List V} {ds : List PyData} (h : FpAll F vs ds) (p : P (.m (.ol ds))) : ∀ a, H a = none → Q (.ref a) (upd H a (.lst vs)) :=
  fun a ha => k _ _ _ F _ (Gr.made s ha) (RsNew.ol s ha h) p
theorem KN.tup {K : PySem.W.Frag} {F H : Hp} {Q : VK} {P : Sl → Prop} (k : KN K F H Q P) (s : Same F H) {vs : List V} {ds : List PyData} (h : FpAll F vs ds) (p : P (.v (.tuple ds))) : ∀ a, H a = none → Q (.ref a) (upd H a (.tup vs)) := fun a ha => by
  have g := Gr.laid (o := HO.tup vs) s ha
  exact k _ _ _ _ _ g (.v (.tup upd_same (h.to g.ff))) p

def pOp1 (rp : PyData → (Sl → Prop) → Prop) (pa : PX) : PO := fun env Q => pa env fun d env1 => rp d fun r => Q r env1
def pOp2 (rp : PyData → PyData → (Sl → Prop) → Prop) (pa pb : PX) : PO := fun env Q => pa env fun d env1 => pb env1 fun e env2 => rp d e fun r => Q r env2
section
variable {X : Cx} {E : Ent}
/-- one after the other -/
theorem l_two {pa pb : PX} {a b : Expr} (ha : PE X a (liftE X.K E pa)) (hb : PE X b (liftE X.K E pb)) {σ : St} {H : Hp} {R : V → V → Hp → Prop} {ts : St} {F : Hp} {env : PEnv} {As : Nat → List Addr} {Q' : PyData → PyData → PEnv → Prop}
    (S : SR X.K E F H (σ ++ ts) env As) (fx : FixIn E σ) (p : pa env fun d env1 => pb env1 fun e env2 => Q' d e env2)
    (k : ∀ x y d e F' H' env' As', SR X.K E F' H' (σ ++ ts) env' As' → Same F F' → Fp F' x d → Fp F' y e → Q' d e env' → R x y H') :
    liftE X.K E pa σ H fun x H1 => liftE X.K E pb σ H1 fun y H2 => R x y H2 :=
  ⟨ts, F, env, As, _, S, fx, p, fun x d F1 H1 env1 As1 S1 f1 h1 q1 => ⟨ts, F1, env1, As1, _, S1, fx, q1, fun y e F2 H2 env2 As2 S2 f2 h2 q2 => k x y d e F2 H2 env2 As2 S2 (f1.trans f2) (h1.to f2) h2 q2⟩⟩
theorem KN.ko {σ ts : St} {F F' H' : Hp} {Q : VK} {Q' : Sl → PEnv → Prop} {env' : PEnv} {As' : Nat → List Addr} (k : KO X.K E σ ts F Q Q') (S : SR X.K E F' H' (σ ++ ts) env' As') (f : Same F F') : KN X.K F' H' Q fun r => Q' r env' :=
  fun z r ar F2 H2 g n q => k z r ar F2 H2 env' As' (S.gr g) (f.trans g.ff) (n.ok S) q
theorem l_op2 {e a b : Expr} {r : V → V → Hp → VK → Prop} {rp : PyData → PyData → (Sl → Prop) → Prop} {pa pb : PX} (hr : Op2 X.K r rp) (h : ∀ ta tb, PE X a ta → PE X b tb → PE X e (tOp r ta tb)) (ha : PE X a (liftE X.K E pa)) (hb : PE X b (liftE X.K E pb)) :
    PE X e (liftO X.K E (pOp2 rp pa pb)) := by
  refine pe_w (h _ _ ha hb) fun σ H Q ⟨ts, F, env, As, Q', S, fx, p, k⟩ => ?_
  refine l_two ha hb S fx p fun x y d e F' H' env' As' S' f h1 h2 q => ?_
  exact hr F' H' x y d e Q _ S'.sub h1 h2 q (KN.ko k S' f)
end
end PL

namespace PL
open PySem L2

/-! ### 7. operators on data -/
def addD : PyData → PyData → (Sl → Prop) → Prop
  | .int i, .int j, P => P (.v (.int (i + j)))
  | .str a, .str b, P => a.length + b.length ≤ sizeLine ∧ P (.v (.str (a ++ b)))
  | .list a, .list b, P => a.length + b.length ≤ sizeLine ∧ P (.m (.ol (a ++ b)))
  | _, _, _ => False
def subD : PyData → PyData → (Sl → Prop) → Prop
  | .int i, .int j, P => P (.v (.int (i - j)))
  | _, _, _ => False
def mulD : PyData → PyData → (Sl → Prop) → Prop
  | .int i, .int j, P => i.natAbs.log2 + j.natAbs.log2 < 1000000 ∧ P (.v (.int (i * j)))
  | .list a, .int k, P => (-(2 ^ 63) ≤ k ∧ k < 2 ^ 63 ∧ a.length * k.toNat ≤ sizeLine) ∧ P (.m (.ol (List.replicate k.toNat a).flatten))
  | _, _, _ => False
def fdivD : PyData → PyData → (Sl → Prop) → Prop
  | .int i, .int j, P => (0 < j ∧ j.natAbs.log2 < 9000) ∧ P (.v (.int (i / j)))
  | _, _, _ => False
def modD : PyData → PyData → (Sl → Prop) → Prop
  | .int i, .int j, P => 0 < j ∧ P (.v (.int (i % j)))
  | _, _, _ => False
def powD : PyData → PyData → (Sl → Prop) → Prop
  | .int i, .int j, P => (0 ≤ j ∧ (i.natAbs.log2 + 1) * j.toNat ≤ 2 ^ 27) ∧ P (.v (.int (i ^ j.toNat)))
  | _, _, _ => False
def negD : PyData → (Sl → Prop) → Prop
  | .int i, P => P (.v (.int (-i)))
  | _, _ => False
def ltD : PyData → PyData → (Sl → Prop) → Prop
  | .int i, .int j, P => P (.v (.bool (decide (i < j))))
  | _, _, _ => False
def leD : PyData → PyData → (Sl → Prop) → Prop
  | .int i, .int j, P => P (.v (.bool (decide (i ≤ j))))
  | _, _, _ => False
def gtD : PyData → PyData → (Sl → Prop) → Prop
  | .int i, .int j, P => P (.v (.bool (decide (j < i))))
  | _, _, _ => False
def geD : PyData → PyData → (Sl → Prop) → Prop
  | .int i, .int j, P => P (.v (.bool (decide (j ≤ i))))
  | _, _, _ => False
def okd (d : PyData) : Bool := d.plain && decide (d.depth ≤ 60)
def eqD (d e : PyData) (P : Sl → Prop) : Prop := (okd d = true ∧ okd e = true) ∧ P (.v (.bool (PyData.eqv d e)))
def neD (d e : PyData) (P : Sl → Prop) : Prop := (okd d = true ∧ okd e = true) ∧ P (.v (.bool (!PyData.eqv d e)))
def inD : PyData → PyData → (Sl → Prop) → Prop
  | d, .list ds, P => (okd d = true ∧ okd (.list ds) = true) ∧ P (.v (.bool (ds.any fun z => PyData.eqv z d)))
  | d, .tuple ds, P => (okd d = true ∧ okd (.tuple ds) = true) ∧ P (.v (.bool (ds.any fun z => PyData.eqv z d)))
  | _, _, _ => False
def notInD : PyData → PyData → (Sl → Prop) → Prop
  | d, .list ds, P => (okd d = true ∧ okd (.list ds) = true) ∧ P (.v (.bool (!ds.any fun z => PyData.eqv z d)))
  | d, .tuple ds, P => (okd d = true ∧ okd (.tuple ds) = true) ∧ P (.v (.bool (!ds.any fun z => PyData.eqv z d)))
  | _, _, _ => False
def isNone : PyData → Bool
  | .none => true
  | _ => false
def isD : PyData → PyData → (Sl → Prop) → Prop
  | d, .none, P => P (.v (.bool (isNone d)))
  | .bool a, .bool b, P => P (.v (.bool (decide (a = b))))
  | _, _, _ => False
def isNotD : PyData → PyData → (Sl → Prop) → Prop
  | d, .none, P => P (.v (.bool (!isNone d)))
  | .bool a, .bool b, P => P (.v (.bool (!decide (a = b))))
  | _, _, _ => False
def ixD : PyData → PyData → (Sl → Prop) → Prop
  | .list ds, .int i, P => ∃ x, atI ds i = some x ∧ P (.v x)
  | .tuple ds, .int i, P => ∃ x, atI ds i = some x ∧ P (.v x)
  | .str z, .int i, P => z.length ≤ sizeLine ∧ ∃ c, atI z.cps.toList i = some c ∧ P (.v (.str ⟨#[c]⟩))
  | _, _, _ => False

section
variable {X : Cx} {E : Ent} {K : PySem.W.Frag}
theorem Fp.int_inv {F : Hp} {x : V} {i : Int} (h : Fp F x (.int i)) : x = .int i := by cases h; rfl
theorem Fp.str_inv {F : Hp} {x : V} {i : Str} (h : Fp F x (.str i)) : x = .str i := by cases h; rfl
theorem Fp.bl_inv {F : Hp} {x : V} {i : Bool} (h : Fp F x (.bool i)) : x = .bl i := by cases h; rfl
theorem Fp.non_inv {F : Hp} {x : V} (h : Fp F x .none) : x = .non := by cases h; rfl
theorem Fp.lst_inv {F : Hp} {x : V} {ds : List PyData} (h : Fp F x (.list ds)) : ∃ a vs, x = .ref a ∧ F a = some (.lst vs) ∧ FpAll F vs ds := by
  cases h with
  | lst h1 h2 => exact ⟨_, _, rfl, h1, h2⟩
theorem Fp.tup_inv {F : Hp} {x : V} {ds : List PyData} (h : Fp F x (.tuple ds)) : ∃ a vs, x = .ref a ∧ F a = some (.tup vs) ∧ FpAll F vs ds := by
  cases h with
  | tup h1 h2 => exact ⟨_, _, rfl, h1, h2⟩
/-- two ints in, something flat out -/
theorem op2_I {C : Int → Int → Prop} {g : Int → Int → V} {gd : Int → Int → PyData} {rp : PyData → PyData → (Sl → Prop) → Prop} (hg : ∀ F i j, Fp F (g i j) (gd i j)) (h : ∀ d e P, rp d e P → ∃ i j, d = .int i ∧ e = .int j ∧ C i j ∧ P (.v (gd i j))) : Op2 K (rI C g) rp := by
  intro F H x y d e Q P s h1 h2 p k
  obtain ⟨i, j, rfl, rfl, c, q⟩ := h _ _ _ p
  exact ⟨i, j, h1.int_inv, h2.int_inv, c, k.flat s (hg F i j) q⟩
theorem op2_I0 {g : Int → Int → V} {gd : Int → Int → PyData} {rp : PyData → PyData → (Sl → Prop) → Prop} (hg : ∀ F i j, Fp F (g i j) (gd i j)) (h : ∀ d e P, rp d e P → ∃ i j, d = .int i ∧ e = .int j ∧ P (.v (gd i j))) : Op2 K (rI0 g) rp := by
  intro F H x y d e Q P s h1 h2 p k
  obtain ⟨i, j, rfl, rfl, q⟩ := h _ _ _ p
  exact ⟨i, j, h1.int_inv, h2.int_inv, k.flat s (hg F i j) q⟩
def rAddD : R2 := fun x y H Q => rI0 (fun i j => .int (i + j)) x y H Q ∨ ((∃ i j, x = .str i ∧ y = .str j ∧ i.length + j.length ≤ sizeLine ∧ Q (.str (i ++ j)) H) ∨ rCat x y H Q)
theorem or_add : OpR X (binaryOp .Add) rAddD := op_add.or (op_add_str.or op_cat)
theorem o_add : Op2 K rAddD addD := by
  intro F H x y d e Q P s h1 h2 p k
  unfold addD at p
  split at p
  · exact .inl ⟨_, _, h1.int_inv, h2.int_inv, k.flat s (.int _) p⟩
  · exact .inr (.inl ⟨_, _, h1.str_inv, h2.str_inv, p.1, k.flat s (.str _) p.2⟩)
  · obtain ⟨a, vs, rfl, ha, ra⟩ := h1.lst_inv
    obtain ⟨b, us, rfl, hb, rb⟩ := h2.lst_inv
    exact .inr (.inr ⟨a, b, vs, us, rfl, rfl, s _ _ ha, s _ _ hb, by rw [ra.length, rb.length]; exact p.1, k.list s (ra.app rb) p.2⟩)
  · exact p.elim
theorem o_sub : Op2 K (rI0 fun i j => .int (i - j)) subD := op2_I0 (gd := fun i j => .int (i - j)) (fun _ _ _ => .int _) fun d e P p => by
  unfold subD at p
  split at p
  · exact ⟨_, _, rfl, rfl, p⟩
  · exact p.elim
theorem FpAll.rep {F : Hp} {vs : List V} {ds : List PyData} (h : FpAll F vs ds) : ∀ n : Nat, FpAll F (List.replicate n vs).flatten (List.replicate n ds).flatten
  | 0 => .nil
  | n + 1 => by
    rw [List.replicate_succ, List.replicate_succ, List.flatten_cons, List.flatten_cons]
    exact h.app (FpAll.rep h n)
def rMulD : R2 := fun x y H Q => rI CMulW (fun i j => .int (i * j)) x y H Q ∨ rRep x y H Q
theorem or_mul : OpR X (binaryOp .Mult) rMulD := op_mulW.or op_rep
theorem o_mul : Op2 K rMulD mulD := by
  intro F H x y d e Q P s h1 h2 p k
  unfold mulD at p
  split at p
  · exact .inl ⟨_, _, h1.int_inv, h2.int_inv, p.1, k.flat s (.int _) p.2⟩
  · obtain ⟨a, vs, rfl, ha, ra⟩ := h1.lst_inv
    exact .inr ⟨a, _, vs, rfl, h2.int_inv, s _ _ ha, p.1.1, p.1.2.1, by rw [ra.length]; exact p.1.2.2, k.list s (ra.rep _) p.2⟩
  · exact p.elim
theorem o_fdiv : Op2 K (rI CDivW fun i j => .int (i / j)) fdivD := op2_I (gd := fun i j => .int (i / j)) (fun _ _ _ => .int _) fun d e P p => by
  unfold fdivD at p
  split at p
  · exact ⟨_, _, rfl, rfl, p.1, p.2⟩
  · exact p.elim
theorem o_mod : Op2 K (rI (fun _ j => 0 < j) fun i j => .int (i % j)) modD := op2_I (gd := fun i j => .int (i % j)) (fun _ _ _ => .int _) fun d e P p => by
  unfold modD at p
  split at p
  · exact ⟨_, _, rfl, rfl, p.1, p.2⟩
  · exact p.elim
def CPowW (i j : Int) : Prop := 0 ≤ j ∧ (i.natAbs.log2 + 1) * j.toNat ≤ 2 ^ 27
theorem or_pow : OpR X (binaryOp .Pow) (rI CPowW fun i j => .int (i ^ j.toNat)) := opI fun i j _ _ _ _ _ hc q => by
  refine PyProof.Rows.pow_int hc.1 ?_ q
  have b : Builtin.Int.intBits i ≤ i.natAbs.log2 + 1 := by
    unfold Builtin.Int.intBits
    split <;> omega
  have h2 : Builtin.Int.intBits i * j.toNat ≤ 2 ^ 27 := Nat.le_trans (Nat.mul_le_mul_right _ b) hc.2
  obtain ⟨n, rfl⟩ := Int.eq_ofNat_of_zero_le hc.1
  have h3 : Builtin.Int.intBits i * n ≤ 2 ^ 27 := h2
  have h4 : ((Builtin.Int.intBits i * n : Nat) : Int) ≤ ((2 ^ 27 : Nat) : Int) := Int.ofNat_le.mpr h3
  rw [Int.natCast_mul] at h4
  exact h4
theorem o_pow : Op2 K (rI CPowW fun i j => .int (i ^ j.toNat)) powD := op2_I (gd := fun i j => .int (i ^ j.toNat)) (fun _ _ _ => .int _) fun d e P p => by
  unfold powD at p
  split at p
  · exact ⟨_, _, rfl, rfl, p.1, p.2⟩
  · exact p.elim
theorem o_lt : Op2 K (rI0 fun i j => .bl (decide (i < j))) ltD := op2_I0 (gd := fun i j => .bool (decide (i < j))) (fun _ _ _ => .bl _) fun d e P p => by
  unfold ltD at p
  split at p
  · exact ⟨_, _, rfl, rfl, p⟩
  · exact p.elim
theorem o_le : Op2 K (rI0 fun i j => .bl (decide (i ≤ j))) leD := op2_I0 (gd := fun i j => .bool (decide (i ≤ j))) (fun _ _ _ => .bl _) fun d e P p => by
  unfold leD at p
  split at p
  · exact ⟨_, _, rfl, rfl, p⟩
  · exact p.elim
theorem o_gt : Op2 K (rI0 fun i j => .bl (decide (j < i))) gtD := op2_I0 (gd := fun i j => .bool (decide (j < i))) (fun _ _ _ => .bl _) fun d e P p => by
  unfold gtD at p
  split at p
  · exact ⟨_, _, rfl, rfl, p⟩
  · exact p.elim
theorem o_ge : Op2 K (rI0 fun i j => .bl (decide (j ≤ i))) geD := op2_I0 (gd := fun i j => .bool (decide (j ≤ i))) (fun _ _ _ => .bl _) fun d e P p => by
  unfold geD at p
  split at p
  · exact ⟨_, _, rfl, rfl, p⟩
  · exact p.elim
theorem okd_plain {d : PyData} (h : okd d = true) : d.plain = true := (Bool.and_eq_true_iff.mp h).1
theorem okd_depth {d : PyData} (h : okd d = true) : d.depth ≤ 60 := of_decide_eq_true (Bool.and_eq_true_iff.mp h).2
def rEqP (K : PySem.W.Frag) : R2 := fun x y H Q => ∃ d e, Dp K H x d ∧ Dp K H y e ∧ okd d = true ∧ okd e = true ∧ Q (.bl (PyData.eqv d e)) H
def rNeP (K : PySem.W.Frag) : R2 := fun x y H Q => ∃ d e, Dp K H x d ∧ Dp K H y e ∧ okd d = true ∧ okd e = true ∧ Q (.bl (!PyData.eqv d e)) H
def rInP (K : PySem.W.Frag) : R2 := fun x y H Q => ∃ d ds, Dp K H x d ∧ (Dp K H y (.list ds) ∨ Dp K H y (.tuple ds)) ∧ okd d = true ∧ okd (.list ds) = true ∧ Q (.bl (ds.any fun z => PyData.eqv z d)) H
def rNotInP (K : PySem.W.Frag) : R2 := fun x y H Q => ∃ d ds, Dp K H x d ∧ (Dp K H y (.list ds) ∨ Dp K H y (.tuple ds)) ∧ okd d = true ∧ okd (.list ds) = true ∧ Q (.bl (!ds.any fun z => PyData.eqv z d)) H
theorem okd_room {d e : PyData} {u : Nat} (h : okd d = true) (hu : u + 64 < cLine) : u + min d.depth e.depth < cLine := by
  have := okd_depth h
  omega
theorem okd_room2 {d : PyData} {ds : List PyData} {u : Nat} (h : okd d = true) (hu : u + 65 < cLine) : u + 1 + min (PyData.depthAll ds) d.depth < cLine := by
  have := okd_depth h
  omega
theorem okd_all {ds : List PyData} (h : okd (.list ds) = true) : PyData.plainAll ds = true := okd_plain h
theorem op_eqP (hu : X.A.units + 64 < cLine) : OpR X (compareOp .Eq) (rEqP X.K) := by
  intro pins s σ H x y v u Q I rx ry h
  obtain ⟨d, e, hd, he, sd, se, q⟩ := h
  obtain ⟨as, r1⟩ := Dp.reads I d x v hd rx
  obtain ⟨bs, r2⟩ := Dp.reads I e y u he ry
  exact SeqAt.eq_plain r1 r2 (okd_plain sd) (okd_plain se) (okd_room sd hu) ⟨.bl _, H, I, rfl, q⟩
theorem op_neP (hu : X.A.units + 64 < cLine) : OpR X (compareOp .NotEq) (rNeP X.K) := by
  intro pins s σ H x y v u Q I rx ry h
  obtain ⟨d, e, hd, he, sd, se, q⟩ := h
  obtain ⟨as, r1⟩ := Dp.reads I d x v hd rx
  obtain ⟨bs, r2⟩ := Dp.reads I e y u he ry
  exact SeqAt.ne_plain r1 r2 (okd_plain sd) (okd_plain se) (okd_room sd hu) ⟨.bl _, H, I, rfl, q⟩
theorem op_inP (hu : X.A.units + 65 < cLine) : OpR X (compareOp .In) (rInP X.K) := by
  intro pins s σ H x y v u Q I rx ry h
  obtain ⟨d, ds, hd, he, sd, se, q⟩ := h
  obtain ⟨as, r1⟩ := Dp.reads I d x v hd rx
  rcases he with he | he
  · obtain ⟨bs, r2⟩ := Dp.reads I (.list ds) y u he ry
    exact SeqAt.in_list_data r2 r1 (okd_all se) (okd_plain sd) (okd_room2 sd hu) ⟨.bl _, H, I, rfl, q⟩
  · obtain ⟨bs, r2⟩ := Dp.reads I (.tuple ds) y u he ry
    exact SeqAt.in_tuple_data r2 r1 (okd_all se) (okd_plain sd) (okd_room2 sd hu) ⟨.bl _, H, I, rfl, q⟩
theorem op_notInP (hu : X.A.units + 65 < cLine) : OpR X (compareOp .NotIn) (rNotInP X.K) := by
  intro pins s σ H x y v u Q I rx ry h
  obtain ⟨d, ds, hd, he, sd, se, q⟩ := h
  obtain ⟨as, r1⟩ := Dp.reads I d x v hd rx
  rcases he with he | he
  · obtain ⟨bs, r2⟩ := Dp.reads I (.list ds) y u he ry
    exact SeqAt.notIn_list_data r2 r1 (okd_all se) (okd_plain sd) (okd_room2 sd hu) ⟨.bl _, H, I, rfl, q⟩
  · obtain ⟨bs, r2⟩ := Dp.reads I (.tuple ds) y u he ry
    exact SeqAt.notIn_tuple_data r2 r1 (okd_all se) (okd_plain sd) (okd_room2 sd hu) ⟨.bl _, H, I, rfl, q⟩
theorem o_eq : Op2 K (rEqP K) eqD := fun F H x y d e Q P s h1 h2 p k => ⟨d, e, h1.dp s, h2.dp s, p.1.1, p.1.2, k.flat s (.bl _) p.2⟩
theorem o_ne : Op2 K (rNeP K) neD := fun F H x y d e Q P s h1 h2 p k => ⟨d, e, h1.dp s, h2.dp s, p.1.1, p.1.2, k.flat s (.bl _) p.2⟩
theorem o_in : Op2 K (rInP K) inD := by
  intro F H x y d e Q P s h1 h2 p k
  unfold inD at p
  split at p
  · exact ⟨_, _, h1.dp s, .inl (h2.dp s), p.1.1, p.1.2, k.flat s (.bl _) p.2⟩
  · exact ⟨_, _, h1.dp s, .inr (h2.dp s), p.1.1, p.1.2, k.flat s (.bl _) p.2⟩
  · exact p.elim
theorem o_notIn : Op2 K (rNotInP K) notInD := by
  intro F H x y d e Q P s h1 h2 p k
  unfold notInD at p
  split at p
  · exact ⟨_, _, h1.dp s, .inl (h2.dp s), p.1.1, p.1.2, k.flat s (.bl _) p.2⟩
  · exact ⟨_, _, h1.dp s, .inr (h2.dp s), p.1.1, p.1.2, k.flat s (.bl _) p.2⟩
  · exact p.elim
theorem isNone_v {F : Hp} {x : V} {d : PyData} (h : Fp F x d) : decide (x = .non) = isNone d := by cases h <;> rfl
def rIsDD : R2 := fun x y H Q => (y = .non ∧ Q (.bl (decide (x = .non))) H) ∨ rIsB x y H Q
def rNotDD : R2 := fun x y H Q => (y = .non ∧ Q (.bl (!decide (x = .non))) H) ∨ rNotB x y H Q
theorem or_is : OpR X (compareOp .Is) rIsDD := op_isN.or op_isBl
theorem or_isnot : OpR X (compareOp .IsNot) rNotDD := op_notN.or op_notBl
theorem o_is : Op2 K rIsDD isD := by
  intro F H x y d e Q P s h1 h2 p k
  unfold isD at p
  split at p
  · exact .inl ⟨h2.non_inv, by rw [isNone_v h1]; exact k.flat s (.bl _) p⟩
  · exact .inr ⟨_, _, h1.bl_inv, h2.bl_inv, k.flat s (.bl _) p⟩
  · exact p.elim
theorem o_isnot : Op2 K rNotDD isNotD := by
  intro F H x y d e Q P s h1 h2 p k
  unfold isNotD at p
  split at p
  · exact .inl ⟨h2.non_inv, by rw [isNone_v h1]; exact k.flat s (.bl _) p⟩
  · exact .inr ⟨_, _, h1.bl_inv, h2.bl_inv, k.flat s (.bl _) p⟩
  · exact p.elim
theorem atI_fp {F : Hp} {vs : List V} {ds : List PyData} (h : FpAll F vs ds) {i : Int} {d : PyData} (e : atI ds i = some d) : ∃ v, atI vs i = some v ∧ Fp F v d := by
  unfold atI at e ⊢
  rw [h.length]
  cases q : ixN ds.length i with
  | none => rw [q] at e; cases e
  | some j =>
    rw [q] at e
    exact h.get e
theorem o_ix : Op2 K (rIx K) ixD := by
  intro F H x y d e Q P s h1 h2 p k
  unfold ixD at p
  split at p
  · obtain ⟨a, vs, rfl, ha, ra⟩ := h1.lst_inv
    obtain ⟨z, q, p⟩ := p
    obtain ⟨v, hv, fv⟩ := atI_fp ra q
    exact .inl ⟨a, vs, _, v, rfl, h2.int_inv, SqL.of (s _ _ ha), hv, k.flat s fv p⟩
  · obtain ⟨a, vs, rfl, ha, ra⟩ := h1.tup_inv
    obtain ⟨z, q, p⟩ := p
    obtain ⟨v, hv, fv⟩ := atI_fp ra q
    exact .inr (.inl ⟨a, vs, _, v, rfl, h2.int_inv, SqT.of (s _ _ ha), hv, k.flat s fv p⟩)
  · obtain ⟨z, c, q, p⟩ := p
    exact .inr (.inr ⟨_, _, c, h1.str_inv, h2.int_inv, z, q, k.flat s (.str _) p⟩)
  · exact p.elim

/-! ### 8. operators, comparisons as expressions -/
theorem l_two' {pa pb : PX} {σ : St} {H : Hp} {R : V → V → Hp → Prop} {ts : St} {F : Hp} {env : PEnv} {As : Nat → List Addr} {Q' : PyData → PyData → PEnv → Prop}
    (S : SR K E F H (σ ++ ts) env As) (fx : FixIn E σ) (p : pa env fun d env1 => pb env1 fun e env2 => Q' d e env2)
    (k : ∀ x y d e F' H' env' As', SR K E F' H' (σ ++ ts) env' As' → Same F F' → Fp F' x d → Fp F' y e → Q' d e env' → R x y H') :
    liftE K E pa σ H fun x H1 => liftE K E pb σ H1 fun y H2 => R x y H2 :=
  ⟨ts, F, env, As, _, S, fx, p, fun x d F1 H1 env1 As1 S1 f1 h1 q1 => ⟨ts, F1, env1, As1, _, S1, fx, q1, fun y e F2 H2 env2 As2 S2 f2 h2 q2 => k x y d e F2 H2 env2 As2 S2 (f1.trans f2) (h1.to f2) h2 q2⟩⟩
theorem KN.ko' {σ ts : St} {F F' H' : Hp} {Q : VK} {Q' : Sl → PEnv → Prop} {env' : PEnv} {As' : Nat → List Addr} (k : KO K E σ ts F Q Q') (S : SR K E F' H' (σ ++ ts) env' As') (f : Same F F') : KN K F' H' Q fun r => Q' r env' :=
  fun z r ar F2 H2 g n q => k z r ar F2 H2 env' As' (S.gr g) (f.trans g.ff) (n.ok S) q
/-- t' is enough for t -/
abbrev Le (t' t : TE) : Prop := ∀ σ H Q, t' σ H Q → t σ H Q
theorem le_op2 {r : R2} {rp : PyData → PyData → (Sl → Prop) → Prop} {pa pb : PX} (hr : Op2 K r rp) : Le (liftO K E (pOp2 rp pa pb)) (tOp r (liftE K E pa) (liftE K E pb)) := fun σ H Q ⟨ts, F, env, As, Q', S, fx, p, k⟩ =>
  l_two' S fx p fun x y d e F' H' env' As' S' f h1 h2 q => hr F' H' x y d e Q _ S'.sub h1 h2 q (KN.ko' k S' f)
theorem le_op1 {r : V → Hp → VK → Prop} {rp : PyData → (Sl → Prop) → Prop} {pa : PX} (hr : Op1 K r rp) : Le (liftO K E (pOp1 rp pa)) (tUn r (liftE K E pa)) := fun σ H Q ⟨ts, F, env, As, Q', S, fx, p, k⟩ =>
  ⟨ts, F, env, As, _, S, fx, p, fun x d F' H' env' As' S' f h1 q => hr F' H' x d Q _ S'.sub h1 q (KN.ko' k S' f)⟩
def pTst (p : PO) : PTt := fun env Q => p env fun r env' => match r with
  | .v (.bool b) => Q b env'
  | _ => False
theorem le_tst {t : TE} {p : PO} (h : Le (liftO K E p) t) : ∀ σ H Q, liftT K E (pTst p) σ H Q → tTest t σ H Q := fun σ H Q ⟨ts, F, env, As, Q', S, fx, p, k⟩ => by
  refine h σ H _ ⟨ts, F, env, As, _, S, fx, p, fun v r ar F' H' env' As' S' f R q => ?_⟩
  split at q
  · obtain ⟨v', e, h1, _⟩ := R.1
    cases e
    cases h1
    exact ⟨_, rfl, k _ F' H' env' As' S' f q⟩
  · exact q.elim
variable {a b c : Expr} {pa pb pc : PX} {pos : Pos}
theorem l_bin {op : Operator} {r : R2} {rp : PyData → PyData → (Sl → Prop) → Prop} (ho : OpR X (binaryOp op) r) (hr : Op2 X.K r rp) (ha : PE X a (liftE X.K E pa)) (hb : PE X b (liftE X.K E pb)) : PE X (.BinOp a op b pos) (liftO X.K E (pOp2 rp pa pb)) := pe_w (pe_op ho ha hb) (le_op2 hr)
theorem l_cmp {op : CmpOp} {r : R2} {rp : PyData → PyData → (Sl → Prop) → Prop} (ho : OpR X (compareOp op) r) (hr : Op2 X.K r rp) (ha : PE X a (liftE X.K E pa)) (hb : PE X b (liftE X.K E pb)) (hm : behindInMarks op b = false) : PE X (.Compare a [op] [b] pos) (liftO X.K E (pOp2 rp pa pb)) := pe_w (pe_cmpR ho ha hb hm) (le_op2 hr)
theorem lt_cmp {op : CmpOp} {r : R2} {rp : PyData → PyData → (Sl → Prop) → Prop} (ho : OpR X (compareOp op) r) (hr : Op2 X.K r rp) (ha : PE X a (liftE X.K E pa)) (hb : PE X b (liftE X.K E pb)) (hm : behindInMarks op b = false) : PT X (.Compare a [op] [b] pos) (liftT X.K E (pTst (pOp2 rp pa pb))) := pt_w (pt_cmpR ho ha hb hm) (le_tst (le_op2 hr))
theorem o_neg : Op1 K (rU fun i => .int (-i)) negD := by
  intro F H x d Q P s h p k
  unfold negD at p
  split at p
  · exact ⟨_, h.int_inv, k.flat s (.int _) p⟩
  · exact p.elim
theorem l_neg (ha : PE X a (liftE X.K E pa)) : PE X (.UnaryOp .USub a pos) (liftO X.K E (pOp1 negD pa)) := pe_w (pe_un un_neg ha) (le_op1 o_neg)
theorem l_ix (hs : PlainIx b) (ha : PE X a (liftE X.K E pa)) (hb : PE X b (liftE X.K E pb)) : PE X (.Subscript a b pos) (liftO X.K E (pOp2 ixD pa pb)) := pe_w (pe_ix ix_seq ha hb hs) (le_op2 o_ix)
/-- a chain of two comparisons -/
def pChain (rp rp' : PyData → PyData → (Sl → Prop) → Prop) (pa pb pc : PX) : PO := fun env Q => pa env fun d env1 => pb env1 fun e env2 => rp d e fun r => match r with
  | .v (.bool true) => pc env2 fun g env3 => rp' e g fun r' => Q r' env3
  | .v (.bool false) => Q (.v (.bool false)) env2
  | _ => False
theorem bl_of {F' H' : Hp} {z : V} {b : Bool} {ar : List Addr} {H : Hp} (n : RsNew K H F' H' z (.v (.bool b)) ar) : z = .bl b := by
  obtain ⟨v, e, h, _⟩ := n.1
  cases e
  exact h.bl_inv
theorem le_chain {r r' : R2} {rp rp' : PyData → PyData → (Sl → Prop) → Prop} (hr : Op2 K r rp) (hr' : Op2 K r' rp') : Le (liftO K E (pChain rp rp' pa pb pc)) (tChain r r' (liftE K E pa) (liftE K E pb) (liftE K E pc)) := fun σ H Q ⟨ts, F, env, As, Q', S, fx, p, k⟩ => by
  refine l_two' S fx p fun x y d e F' H' env' As' S' f h1 h2 q => hr F' H' x y d e _ _ S'.sub h1 h2 q fun z rz ar F2 H2 g n q => ?_
  split at q
  · have S2 := S'.gr g
    refine ⟨true, bl_of n, ?_⟩
    rw [if_pos rfl]
    exact ⟨ts, F2, env', As', _, S2, fx, q, fun w' g' F3 H3 env3 As3 S3 f3 h3 q3 => hr' F3 H3 y w' e g' Q _ S3.sub ((h2.to g.ff).to f3) h3 q3 (KN.ko' k S3 ((f.trans g.ff).trans f3))⟩
  · refine ⟨false, bl_of n, ?_⟩
    rw [if_neg Bool.false_ne_true]
    exact k _ (.v (.bool false)) [] F2 H2 env' As' (S'.gr g) (f.trans g.ff) (.v (.bl false)) q
  · exact q.elim
theorem l_chain {op op' : CmpOp} {r r' : R2} {rp rp' : PyData → PyData → (Sl → Prop) → Prop} (ho : OpR X (compareOp op) r) (hr : Op2 X.K r rp) (ho' : OpR X (compareOp op') r') (hr' : Op2 X.K r' rp') (ha : PE X a (liftE X.K E pa)) (hb : PE X b (liftE X.K E pb)) (hc : PE X c (liftE X.K E pc))
    (hm : lastMarks [op, op'] [b, c] = false := by with_unfolding_all rfl) : PE X (.Compare a [op, op'] [b, c] pos) (liftO X.K E (pChain rp rp' pa pb pc)) := pe_w (pe_chain ho ho' ha hb hc hm) (le_chain hr hr')
theorem lt_chain {op op' : CmpOp} {r r' : R2} {rp rp' : PyData → PyData → (Sl → Prop) → Prop} (ho : OpR X (compareOp op) r) (hr : Op2 X.K r rp) (ho' : OpR X (compareOp op') r') (hr' : Op2 X.K r' rp') (ha : PE X a (liftE X.K E pa)) (hb : PE X b (liftE X.K E pb)) (hc : PE X c (liftE X.K E pc))
    (hm : lastMarks [op, op'] [b, c] = false := by with_unfolding_all rfl) : PT X (.Compare a [op, op'] [b, c] pos) (liftT X.K E (pTst (pChain rp rp' pa pb pc))) := pt_w (pt_chain ho ho' ha hb hc hm) (le_tst (le_chain hr hr'))
end

/-! ### 9. tests, and, or, not, if -/
def pAnd (t u : PTt) : PTt := fun env Q => t env fun c env1 => sel c (u env1 Q) (Q false env1)
def pOr (t u : PTt) : PTt := fun env Q => t env fun c env1 => sel c (Q true env1) (u env1 Q)
def pNot (t : PTt) : PTt := fun env Q => t env fun c env1 => Q (!c) env1
def pIf {α : Type} (t : PTt) (a b : PEnv → (α → PEnv → Prop) → Prop) : PEnv → (α → PEnv → Prop) → Prop := fun env Q => t env fun c env1 => sel c (a env1 Q) (b env1 Q)
/-- and, or, not as values -/
def pAndV (pa : PX) (pb : PX) : PX := fun env Q => pa env fun d env1 => match d with
  | .bool true => pb env1 Q
  | .bool false => Q (.bool false) env1
  | _ => False
def pOrV (pa : PX) (pb : PX) : PX := fun env Q => pa env fun d env1 => match d with
  | .bool false => pb env1 Q
  | .bool true => Q (.bool true) env1
  | _ => False
def pNotV (pa : PX) : PX := fun env Q => pa env fun d env1 => match d with
  | .bool b => Q (.bool (!b)) env1
  | _ => False
section
variable {X : Cx} {E : Ent} {a b c : Expr} {rest : List Expr} {pt pu : PTt} {pa pb : PX} {pos : Pos}
theorem lt_val {e : Expr} {p : PO} (h : PE X e (liftO X.K E p)) (he : ∀ whole, isTrue e X.env whole = (do let v ← whole; standAt e.pos; holding [v] (truthy v)) := by intro _; rfl) : PT X e (liftT X.K E (pTst p)) :=
  pt_w (pt_val h he) fun σ H Q q => le_tst (t := liftO X.K E p) (fun _ _ _ q => q) σ H Q q
theorem lw_and1 (ha : PT X a (liftT X.K E pt)) : PW X (.BoolOp .And [a] pos) (liftT X.K E pt) := pw_and1 ha
theorem lw_or1 (ha : PT X a (liftT X.K E pt)) : PW X (.BoolOp .Or [a] pos) (liftT X.K E pt) := pw_or1 ha
theorem lw_and (ha : PT X a (liftT X.K E pt)) (hb : PW X (.BoolOp .And (b :: rest) pos) (liftT X.K E pu)) : PW X (.BoolOp .And (a :: b :: rest) pos) (liftT X.K E (pAnd pt pu)) :=
  pw_w (pw_and ha hb) fun σ H Q ⟨ts, F, env, As, Q', S, fx, p, k⟩ => ⟨ts, F, env, As, _, S, fx, p, fun c F' H' env' As' S' f q => by
    cases c with
    | true =>
      rw [sel_tt] at q; rw [if_pos rfl]
      exact ⟨ts, F', env', As', _, S', fx, q, fun b2 F2 H2 env2 As2 S2 f2 q2 => k b2 F2 H2 env2 As2 S2 (f.trans f2) q2⟩
    | false =>
      rw [sel_ff] at q; rw [if_neg Bool.false_ne_true]
      exact k false F' H' env' As' S' f q⟩
theorem lw_or (ha : PT X a (liftT X.K E pt)) (hb : PW X (.BoolOp .Or (b :: rest) pos) (liftT X.K E pu)) : PW X (.BoolOp .Or (a :: b :: rest) pos) (liftT X.K E (pOr pt pu)) :=
  pw_w (pw_or ha hb) fun σ H Q ⟨ts, F, env, As, Q', S, fx, p, k⟩ => ⟨ts, F, env, As, _, S, fx, p, fun c F' H' env' As' S' f q => by
    cases c with
    | true =>
      rw [sel_tt] at q; rw [if_pos rfl]
      exact k true F' H' env' As' S' f q
    | false =>
      rw [sel_ff] at q; rw [if_neg Bool.false_ne_true]
      exact ⟨ts, F', env', As', _, S', fx, q, fun b2 F2 H2 env2 As2 S2 f2 q2 => k b2 F2 H2 env2 As2 S2 (f.trans f2) q2⟩⟩
theorem lt_not (ha : PT X a (liftT X.K E pt)) : PT X (.UnaryOp .Not a pos) (liftT X.K E (pNot pt)) :=
  pt_w (pt_not ha) fun σ H Q ⟨ts, F, env, As, Q', S, fx, p, k⟩ => ⟨ts, F, env, As, _, S, fx, p, fun c F' H' env' As' S' f q => k _ F' H' env' As' S' f q⟩
theorem l_ifE (hc : PT X c (liftT X.K E pt)) (ha : PE X a (liftE X.K E pa)) (hb : PE X b (liftE X.K E pb)) : PE X (.IfExp c a b pos) (liftE X.K E (pIf pt pa pb)) :=
  pe_w (pe_ifExp hc ha hb) fun σ H Q ⟨ts, F, env, As, Q', S, fx, p, k⟩ => ⟨ts, F, env, As, _, S, fx, p, fun c F' H' env' As' S' f q => by
    cases c with
    | true =>
      rw [sel_tt] at q; rw [if_pos rfl]
      exact ⟨ts, F', env', As', _, S', fx, q, fun v d F2 H2 env2 As2 S2 f2 h2 q2 => k v d F2 H2 env2 As2 S2 (f.trans f2) h2 q2⟩
    | false =>
      rw [sel_ff] at q; rw [if_neg Bool.false_ne_true]
      exact ⟨ts, F', env', As', _, S', fx, q, fun v d F2 H2 env2 As2 S2 f2 h2 q2 => k v d F2 H2 env2 As2 S2 (f.trans f2) h2 q2⟩⟩
theorem l_one {op : BoolOp} (h : PE X a (liftE X.K E pa)) : PE X (.BoolOp op [a] pos) (liftE X.K E pa) := pe_one h
theorem l_and (ha : PE X a (liftE X.K E pa)) (hb : PE X (.BoolOp .And (b :: rest) pos) (liftE X.K E pb)) : PE X (.BoolOp .And (a :: b :: rest) pos) (liftE X.K E (pAndV pa pb)) :=
  pe_w (pe_and ha hb) fun σ H Q ⟨ts, F, env, As, Q', S, fx, p, k⟩ => ⟨ts, F, env, As, _, S, fx, p, fun v d F' H' env' As' S' f h q => by
    split at q
    · refine ⟨true, h.bl_inv, ?_⟩
      rw [if_pos rfl]
      exact ⟨ts, F', env', As', _, S', fx, q, fun v d F2 H2 env2 As2 S2 f2 h2 q2 => k v d F2 H2 env2 As2 S2 (f.trans f2) h2 q2⟩
    · refine ⟨false, h.bl_inv, ?_⟩
      rw [if_neg Bool.false_ne_true]
      exact k _ _ F' H' env' As' S' f (.bl false) q
    · exact q.elim⟩
theorem l_or (ha : PE X a (liftE X.K E pa)) (hb : PE X (.BoolOp .Or (b :: rest) pos) (liftE X.K E pb)) : PE X (.BoolOp .Or (a :: b :: rest) pos) (liftE X.K E (pOrV pa pb)) :=
  pe_w (pe_or ha hb) fun σ H Q ⟨ts, F, env, As, Q', S, fx, p, k⟩ => ⟨ts, F, env, As, _, S, fx, p, fun v d F' H' env' As' S' f h q => by
    split at q
    · refine ⟨false, h.bl_inv, ?_⟩
      rw [if_neg Bool.false_ne_true]
      exact ⟨ts, F', env', As', _, S', fx, q, fun v d F2 H2 env2 As2 S2 f2 h2 q2 => k v d F2 H2 env2 As2 S2 (f.trans f2) h2 q2⟩
    · refine ⟨true, h.bl_inv, ?_⟩
      rw [if_pos rfl]
      exact k _ _ F' H' env' As' S' f (.bl true) q
    · exact q.elim⟩
theorem l_not (ha : PE X a (liftE X.K E pa)) : PE X (.UnaryOp .Not a pos) (liftE X.K E (pNotV pa)) :=
  pe_w (pe_not ha) fun σ H Q ⟨ts, F, env, As, Q', S, fx, p, k⟩ => ⟨ts, F, env, As, _, S, fx, p, fun v d F' H' env' As' S' f h q => by
    split at q
    · exact ⟨_, h.bl_inv, k _ _ F' H' env' As' S' f (.bl _) q⟩
    · exact q.elim⟩
end
end PL

namespace PL
open PySem PySem.Spec PyProof.Rows L2

/-! ### 10. arguments -/
def pANil : PAs := fun env Q => Q [] env
def pACons (pa : PX) (pr : PAs) : PAs := fun env Q => pa env fun d env1 => pr env1 fun gs env2 => Q (.d d :: gs) env2
/-- a lent slot -/
def pALend (i : Nat) (pr : PAs) : PAs := fun env Q => (∃ c, env[i]? = some (.m c)) ∧ pr env fun gs env2 => Q (.s i :: gs) env2
def dsAg (ds : List PyData) : List Ag := ds.map .d
def pAStar (pa : PX) (pr : PAs) : PAs := fun env Q => pa env fun d env1 => match d with
  | .list ds => pr env1 fun gs env2 => Q (dsAg ds ++ gs) env2
  | .tuple ds => pr env1 fun gs env2 => Q (dsAg ds ++ gs) env2
  | _ => False
/-- all arguments still -/
def agD? : List Ag → Option (List PyData)
  | [] => some []
  | .d x :: gs => (agD? gs).map (x :: ·)
  | .s _ :: _ => none
theorem agD?_cons (d : PyData) (gs : List Ag) : agD? (.d d :: gs) = (agD? gs).map (d :: ·) := rfl
section
variable {X : Cx} {E : Ent} {K : PySem.W.Frag} {e : Expr} {es : List Expr} {pa : PX} {pr : PAs} {pos : Pos}
theorem AgOk.to {F F' : Hp} {σ : L2.St} (s : Same F F') : ∀ {vs : List V} {gs : List Ag}, Paired (AgOk F σ) vs gs → Paired (AgOk F' σ) vs gs
  | _, _, .nil => .nil
  | _, _, .cons (b := .d x) h r => .cons (show Fp F' _ x from Fp.to s h) (AgOk.to s r)
  | _, _, .cons (b := .s i) h r => .cons h (AgOk.to s r)
theorem AgOk.ds {F : Hp} {σ : L2.St} : ∀ {vs : List V} {gs : List Ag} {ds : List PyData}, Paired (AgOk F σ) vs gs → agD? gs = some ds → FpAll F vs ds
  | _, _, _, .nil, e => by cases e; exact .nil
  | _, _, _, .cons (b := .d x) h r, e => by
    rw [agD?_cons] at e
    obtain ⟨ds, e1, e2⟩ := Option.map_eq_some_iff.mp e
    rw [← e2]
    exact .cons h (AgOk.ds r e1)
  | _, _, _, .cons (b := .s i) h r, e => by cases e
theorem AgOk.of_ds {F : Hp} {σ : L2.St} : ∀ {vs : List V} {ds : List PyData}, FpAll F vs ds → Paired (AgOk F σ) vs (dsAg ds)
  | _, _, .nil => .nil
  | _, _, .cons h r => .cons h (AgOk.of_ds r)
theorem paired_app {α β : Type} {R : α → β → Prop} : ∀ {xs us : List α} {ys ws : List β}, Paired R xs ys → Paired R us ws → Paired R (xs ++ us) (ys ++ ws)
  | _, _, _, _, .nil, h => h
  | _, _, _, _, .cons h r, k => .cons h (paired_app r k)
theorem l_anil : PA X [] (liftA X.K E pANil) := pa_w pa_nil fun σ H Q ⟨ts, F, env, As, Q', S, fx, p, k⟩ => k [] [] F H env As S (Same.refl F) .nil p
theorem l_acons (ha : PE X e (liftE X.K E pa)) (hr : PA X es (liftA X.K E pr)) (hs : starEach (e :: es) X.env = (false, eval e X.env) :: starEach es X.env := by rfl) : PA X (e :: es) (liftA X.K E (pACons pa pr)) :=
  pa_w (pa_cons ha hr hs) fun σ H Q ⟨ts, F, env, As, Q', S, fx, p, k⟩ => ⟨ts, F, env, As, _, S, fx, p, fun v d F1 H1 env1 As1 S1 f1 h1 q1 =>
    ⟨ts, F1, env1, As1, _, S1, fx, q1, fun vs gs F2 H2 env2 As2 S2 f2 h2 q2 => k (v :: vs) (.d d :: gs) F2 H2 env2 As2 S2 (f1.trans f2) (.cons (show Fp F2 v d from h1.to f2) h2) q2⟩⟩
theorem l_alend (i : Nat) {x : Str} {px : Pos} (h : PE X (.Name x px) (tVar i)) (hN : i < X.N.length) (hr : PA X es (liftA X.K E pr)) (hs : starEach (.Name x px :: es) X.env = (false, eval (.Name x px) X.env) :: starEach es X.env := by rfl) : PA X (.Name x px :: es) (liftA X.K E (pALend i pr)) := by
  refine ⟨fun ps pins s σ H Q I q => (pa_cons h hr hs).run ps pins s σ H Q I ?_⟩
  obtain ⟨ts, F, env, As, Q', S, fx, ⟨⟨c, ec⟩, p⟩, k⟩ := q
  have hi : i < σ.length := by rw [I.len]; exact hN
  obtain ⟨x', h1, v, e1, h2⟩ := S.slot i _ ec
  subst e1
  have h1' := app_get hi h1
  exact ⟨v, h1', ts, F, env, As, _, S, fx, p, fun vs gs F2 H2 env2 As2 S2 f2 h2 q2 => k (v :: vs) (.s i :: gs) F2 H2 env2 As2 S2 f2 (.cons h1' h2) q2⟩
theorem l_astar {sp : Pos} (ha : PE X e (liftE X.K E pa)) (hr : PA X es (liftA X.K E pr)) (hs : starEach (.Starred e sp :: es) X.env = (true, eval e X.env) :: starEach es X.env := by rfl) : PA X (.Starred e sp :: es) (liftA X.K E (pAStar pa pr)) :=
  pa_w (StX.pa_star ha hr hs) fun σ H Q ⟨ts, F, env, As, Q', S, fx, p, k⟩ => ⟨ts, F, env, As, _, S, fx, p, fun v d F1 H1 env1 As1 S1 f1 h1 q1 => by
    split at q1
    · obtain ⟨a, vs, rfl, ha, ra⟩ := h1.lst_inv
      exact ⟨a, vs, rfl, .inr (SqL.of (S1.sub _ _ ha)), ts, F1, env1, As1, _, S1, fx, q1, fun us gs F2 H2 env2 As2 S2 f2 h2 q2 => k _ _ F2 H2 env2 As2 S2 (f1.trans f2) (paired_app (AgOk.of_ds (ra.to f2)) h2) q2⟩
    · obtain ⟨a, vs, rfl, ha, ra⟩ := h1.tup_inv
      exact ⟨a, vs, rfl, .inl (SqT.of (S1.sub _ _ ha)), ts, F1, env1, As1, _, S1, fx, q1, fun us gs F2 H2 env2 As2 S2 f2 h2 q2 => k _ _ F2 H2 env2 As2 S2 (f1.trans f2) (paired_app (AgOk.of_ds (ra.to f2)) h2) q2⟩
    · exact q1.elim⟩

/-! ### 11. what takes still arguments: displays, built-in functions -/
def pCallL (rp : List PyData → (Sl → Prop) → Prop) (pa : PAs) : PO := fun env Q => pa env fun gs env1 => match agD? gs with
  | some ds => rp ds fun r => Q r env1
  | none => False
theorem le_callL {r : List V → Hp → VK → Prop} {rp : List PyData → (Sl → Prop) → Prop} {pa : PAs} (hr : OpL K r rp) : Le (liftO K E (pCallL rp pa)) (tCB r (liftA K E pa)) := fun σ H Q ⟨ts, F, env, As, Q', S, fx, p, k⟩ =>
  ⟨ts, F, env, As, _, S, fx, p, fun vs gs F' H' env' As' S' f h q => by
    split at q
    · rename_i ds ed
      exact hr F' H' vs ds Q _ S'.sub (AgOk.ds h ed) q (KN.ko' k S' f)
    · exact q.elim⟩
/-- a display -/
def listD (ds : List PyData) (P : Sl → Prop) : Prop := ds.length ≤ sizeLine ∧ P (.m (.ol ds))
def tupD (ds : List PyData) (P : Sl → Prop) : Prop := ds.length ≤ sizeLine ∧ P (.v (.tuple ds))
theorem o_list : OpL K (fun xs H Q => xs.length ≤ sizeLine ∧ ∀ p, H p = none → Q (.ref p) (upd H p (.lst xs))) listD := fun F H xs ds Q P s h p k => ⟨by rw [h.length]; exact p.1, k.list s h p.2⟩
theorem o_tup : OpL K (fun xs H Q => xs.length ≤ sizeLine ∧ ∀ p, H p = none → Q (.ref p) (upd H p (.tup xs))) tupD := fun F H xs ds Q P s h p k => ⟨by rw [h.length]; exact p.1, k.tup s h p.2⟩
theorem l_lst {pa : PAs} (h : PA X es (liftA X.K E pa)) : PE X (.List es pos) (liftO X.K E (pCallL listD pa)) := pe_w (pe_lst h) (le_callL o_list)
theorem l_tup {x1} {pa : PAs} (h : PA X es (liftA X.K E pa)) : PE X (.Tuple es x1 pos) (liftO X.K E (pCallL tupD pa)) := pe_w (pe_tup h) (le_callL o_tup)
theorem l_callB {x : Str} {p : Pos} {id : String} {r : List V → Hp → VK → Prop} {rp : List PyData → (Sl → Prop) → Prop} {pa : PAs} (hc : CallR X (.builtin id) r) (hr : OpL X.K r rp) (hg : Gl X x) (hm : X.mg x = none) (hv : bootBuiltins x = some (.builtin id)) (ha : PA X (e :: es) (liftA X.K E pa)) (hn : x ≠ "__name__" := by decide) (hdb : (x == ("__debug__" : Str)) = false := by decide)
    (he : starEach (e :: es) X.env = (false, eval e X.env) :: starEach es X.env := by rfl) (hpl : (backTo pos (starEach es X.env)).any (·.1) = false := by rfl) : PE X (.Call (.Name x p) (e :: es) [] pos) (liftO X.K E (pCallL rp pa)) :=
  pe_w (pe_callB hc hg hm hv ha hn hdb he hpl) (le_callL hr)
theorem l_callTy {x : Str} {p : Pos} {T : String} {r : List V → Hp → VK → Prop} {rp : List PyData → (Sl → Prop) → Prop} {pa : PAs} (hc : CallR X (.type T) r) (hr : OpL X.K r rp) (hg : Gl X x) (hm : X.mg x = none) (hv : bootBuiltins x = some (.type T)) (ha : PA X (e :: es) (liftA X.K E pa)) (hn : x ≠ "__name__" := by decide) (hdb : (x == ("__debug__" : Str)) = false := by decide)
    (he : starEach (e :: es) X.env = (false, eval e X.env) :: starEach es X.env := by rfl) (hpl : (backTo pos (starEach es X.env)).any (·.1) = false := by rfl) : PE X (.Call (.Name x p) (e :: es) [] pos) (liftO X.K E (pCallL rp pa)) :=
  pe_w (pe_callTy hc hg hm hv ha hn hdb he hpl) (le_callL hr)
end

/-! ### 12. defs -/
abbrev SpP := List Sl → (Sl → List Sl → Prop) → Prop
def outs (fx : List Nat) (args : List Sl) (env : PEnv) : List Sl := mapI (fun i a => match fx.contains i with
  | true => env.getD i .un
  | false => a) 0 args
theorem pick_eq (l : List Nat) (i : Nat) (a b : Sl) : (match l.contains i with
  | true => a
  | false => b) = if i ∈ l then a else b := by
  by_cases h : i ∈ l
  · rw [if_pos h, List.contains_iff_mem.mpr h]
  · rw [if_neg h]
    cases e : l.contains i with
    | true => exact absurd (List.contains_iff_mem.mp e) h
    | false => rfl
theorem outs_eq (fx : List Nat) (args : List Sl) (env : PEnv) : outs fx args env = args.mapIdx fun i a => if i ∈ fx then env.getD i .un else a := by
  unfold outs
  rw [mapI_eq]
  exact congrArg (fun g => List.mapIdx g args) (funext fun i => funext fun a => pick_eq fx i _ a)
def entOf (fx : List Nat) (F H : Hp) (vs : List V) (As : Nat → List Addr) : Ent := ⟨F, H, fun a => ∃ i, a ∈ As i, fun i => if i ∈ fx then vs[i]? else none⟩
/-- the promise of a def, lifted -/
def liftSp (K : PySem.W.Frag) (n : Nat) (fx : List Nat) (sp : SpP) : Sp := fun vs H Q _ => vs.length = n ∧ ∃ F args As Q', (∀ i c, args[i]? = some (.m c) → i ∈ fx) ∧ SR K (entOf fx F H vs As) F H (vs.map some) args As ∧ sp args Q' ∧
  ∀ v r ar F' H' args' As', SR K (entOf fx F H vs As) F' H' (vs.map some) args' As' → RsOk K (entOf fx F H vs As) F' H' As' v r ar → Q' r args' → Q v H'
/-- a def's heap-free meaning from its body's -/
def spOf (fx : List Nat) (nl : Nat) (body : PSt) : SpP := fun args Q => body { nx := fun env => Q (.v .none) (outs fx args env), rt := fun r env => Q r (outs fx args env) } (args ++ List.replicate nl .un)
section
variable {K : PySem.W.Frag} {F H : Hp}
theorem SR.begin0 {fx : List Nat} {vs : List V} {args : List Sl} {As : Nat → List Addr} {N : List Str} (S : SR K (entOf fx F H vs As) F H (vs.map some) args As) (nl : Nat) (hn : N.length = vs.length + nl) :
    SR K (entOf fx F H vs As) F H (L2.start N vs) (args ++ List.replicate nl .un) As ∧ FixIn (entOf fx F H vs As) (L2.start N vs) := by
  have el : vs.length = args.length := by
    have := S.len
    rw [List.length_map] at this
    exact this
  have sl : (L2.start N vs).length = N.length := by
    unfold L2.start
    rw [List.length_append, List.length_map, List.length_replicate]
    omega
  refine ⟨⟨S.sub, S.f0, S.grow, S.keep, ?_, fun i s e => ?_, fun i h => S.out i ?_, S.own, S.nd, S.disj, fun i v e => ?_⟩, fun i w e => ?_⟩
  · rw [sl, List.length_append, List.length_replicate]
    omega
  · by_cases hi : i < args.length
    · rw [List.getElem?_append_left hi] at e
      obtain ⟨x, h1, h2⟩ := S.slot i s e
      exact ⟨x, by unfold L2.start; rw [List.getElem?_append_left (by rw [List.length_map]; omega)]; exact h1, h2⟩
    · rw [List.getElem?_append_right (by omega), List.getElem?_replicate] at e
      split at e
      · cases e
        refine ⟨none, ?_, S.out i (by omega)⟩
        unfold L2.start
        rw [List.getElem?_append_right (by rw [List.length_map]; omega), List.getElem?_replicate, List.length_map, if_pos (by omega)]
      · cases e
  · rw [List.length_append] at h
    omega
  · have z := S.fix i v e
    unfold L2.start
    rw [List.getElem?_append_left (List.getElem?_eq_some_iff.mp z).1]
    exact z
  · have z := (List.getElem?_eq_some_iff.mp (S.fix i w e)).1
    rw [List.length_map] at z
    rw [sl]
    omega
theorem SR.finish {fx : List Nat} {vs : List V} {args : List Sl} {As As' : Nat → List Addr} {F' H' : Hp} {σ' : L2.St} {env' : PEnv} (hm : ∀ i c, args[i]? = some (.m c) → i ∈ fx) (S : SR K (entOf fx F H vs As) F H (vs.map some) args As) (S' : SR K (entOf fx F H vs As) F' H' σ' env' As') :
    SR K (entOf fx F H vs As) F' H' (vs.map some) (outs fx args env') (fun i => if i ∈ fx ∧ i < args.length then As' i else []) := by
  have el : vs.length = args.length := by
    have := S.len
    rw [List.length_map] at this
    exact this
  have inA : ∀ {i : Nat} {a : Addr}, a ∈ (if i ∈ fx ∧ i < args.length then As' i else []) → (i ∈ fx ∧ i < args.length) ∧ a ∈ As' i := fun {i a} h => by
    by_cases c : i ∈ fx ∧ i < args.length
    · rw [if_pos c] at h
      exact ⟨c, h⟩
    · rw [if_neg c] at h
      cases h
  refine ⟨S'.sub, S'.f0, S'.grow, S'.keep, ?_, fun i s e => ?_, fun i h => ?_, fun i a h => S'.own i a (inA h).2, fun i => ?_, fun i j a ne h1 h2 => S'.disj i j a ne (inA h1).2 (inA h2).2, S.fix⟩
  · rw [outs_eq]
    rw [List.length_map, List.length_mapIdx]
    exact el
  · rw [outs_eq] at e
    rw [List.getElem?_mapIdx] at e
    obtain ⟨s0, e0, e1⟩ := Option.map_eq_some_iff.mp e
    have hi := (List.getElem?_eq_some_iff.mp e0).1
    have hv : (vs.map some)[i]? = some (some vs[i]) := by
      rw [List.getElem?_map, List.getElem?_eq_getElem (by omega)]
      rfl
    refine ⟨some vs[i], hv, ?_⟩
    by_cases c : i ∈ fx
    · rw [if_pos c] at e1
      rw [if_pos ⟨c, hi⟩]
      have z : (entOf fx F H vs As).fix i = some vs[i] := by
        show (if i ∈ fx then vs[i]? else none) = _
        rw [if_pos c, List.getElem?_eq_getElem (by omega)]
      have z2 := S'.fix i _ z
      have hl : i < env'.length := by rw [← S'.len]; exact (List.getElem?_eq_some_iff.mp z2).1
      obtain ⟨x, h1, h2⟩ := S'.slot i env'[i] (List.getElem?_eq_getElem hl)
      rw [z2] at h1
      cases h1
      rw [← e1, List.getD_eq_getElem?_getD, List.getElem?_eq_getElem hl]
      exact h2
    · rw [if_neg c] at e1
      rw [if_neg fun z => c z.1]
      subst e1
      obtain ⟨x, h1, h2⟩ := S.slot i _ e0
      rw [hv] at h1
      cases h1
      cases s0 with
      | un => rfl
      | v d =>
        obtain ⟨v, q1, q2, _⟩ := h2
        exact ⟨v, q1, q2.to S'.f0, rfl⟩
      | m c' => exact absurd (hm i c' e0) c
  · by_cases c : i ∈ fx ∧ i < args.length
    · rw [outs_eq] at h
      rw [List.length_mapIdx] at h
      omega
    · exact if_neg c
  · by_cases c : i ∈ fx ∧ i < args.length
    · rw [if_pos c]; exact S'.nd i
    · rw [if_neg c]; exact List.nodup_nil
end

/-- as L2.FnOk, called where nothing is being shown -/
structure FnG (P : Program) (w : World) (K : PySem.W.Frag) (mg : Str → Option Value) (base : Heap) (CX : CXT) (k : Nat) (f : Addr) (fd : FuncData) (ps : List Str) (sp : Sp) : Prop where
  len : ∀ vs H Q E, sp vs H Q E → vs.length = ps.length
  run : ∀ (A : Around) (outer : List Env) (s : Shared) (H : Hp) (args : Args) (us : List Value) (vs : List V) (Q : VK) (E : XK), Room k A → A.guards = some [] → Env0 P w K mg base A outer s H → BindsTo s fd args (ps.zip us) → Vals vs us → sp vs H Q E →
    codeAny (model P w) A (.call (.ref f) args) (CR CX outer P w H s Q E) s
section
variable {P : Program} {w : World} {K : PySem.W.Frag} {mg : Str → Option Value} {base : Heap}
theorem FnG.up {CX : CXT} {j k : Nat} {f : Addr} {fd : FuncData} {ps : List Str} {sp : Sp} (G : FnG P w K mg base CX j f fd ps sp) (h : j ≤ k) : FnG P w K mg base CX k f fd ps sp :=
  ⟨G.len, fun A outer s H args us vs Q E hr => G.run A outer s H args us vs Q E (hr.mono h)⟩
theorem fng_of {CX : CXT} {x qual : Str} {st : Stmt} {f : Addr} {fd : FuncData} {N ps : List Str} {k : Nat} {sp : Sp} (Fn : Fun K x qual st f fd) (S : FnScope N ps (defScope st)) (len : ∀ vs H Q E, sp vs H Q E → vs.length = ps.length)
    (hbody : ∀ (cdv : Value) (A : Around) (outer : List Env) (s : Shared) (H : Hp) (vs : List V) (Q : VK) (E : XK), Room k (A.deeper (envOfC qual (defScope st) s.heap.objs.size f cdv)) → (A.deeper (envOfC qual (defScope st) s.heap.objs.size f cdv)).guards = some [] → sp vs H Q E →
      ∃ t, PSs (cxOf CX P w K mg base N qual (defScope st) f cdv A outer s H E) (defBody st) t ∧ t { nx := fun _ H' => Q .non H', rt := Q } (L2.start N vs) H) : FnG P w K mg base CX (k + 1) f fd ps sp := by
  obtain ⟨oc, od, kV, doc, pm, an, cdv, ct, osl, rfl, lk, hcd⟩ := Fn.ex
  refine ⟨len, fun A outer s H args us vs Q E hr hg e0 hb r hsp => ?_⟩
  have hl := len _ _ _ _ hsp
  have kin : K.In s.heap := e0.mod.kin.keeps fun b o e => (e0.bs b o e).1
  have lim : s.heap.NoLimit := e0.mod.nolimit.keeps fun b o e => (e0.bs b o e).1
  refine codeAny_call_function hr.depth (kin _ _ lk) rfl S.co S.gen rfl (PySem.W.codeRec_of kin hcd) (hb _ _ _ _ ?_)
  refine wpAny_newFunctionEnv_cells S.kind (fun y hy => ?_) fun env he s1 x1 => ?_
  · rcases S.par y.1 (List.of_mem_zip hy).1 with q | q
    · exact .inl q
    · exact .inr ⟨q, PySem.W.cellsFrom_some _ _ _ (.inl q)⟩
  subst he
  refine ⟨lim.keeps x1.toInCall.keep, codeAny_func ?_⟩
  obtain ⟨t, ht, hq⟩ := hbody cdv A outer s H vs Q E (hr.deeper _) hg hsp
  have I := inv_start (CX := CX) (P := P) (w := w) (mg := mg) (base := base) (E := E) S hr.hd e0 hl r x1
  refine wpAny_mono (ht.run [] s1 (L2.start N vs) H _ I hq) (fun fl s' hs => ?_) fun _ _ hs => hs
  cases fl with
  | ret u =>
    obtain ⟨v, σ', H', J, rv, q⟩ := hs
    exact ⟨v, H', J.os, J.bare, J.base, J.hok, rv, q⟩
  | next =>
    obtain ⟨σ', H', J, q⟩ := hs
    exact ⟨V.non, H', J.os, J.bare, J.base, J.hok, rfl, q⟩
  | brk =>
    obtain ⟨_, _, _, q⟩ := hs
    exact q.elim
  | cont =>
    obtain ⟨_, _, _, q⟩ := hs
    exact q.elim
/-- a def that lets no exception out, by its lifted body -/
theorem fng_lift {x qual : Str} {st : Stmt} {f : Addr} {fd : FuncData} {N ps : List Str} {k n nl : Nat} {fx : List Nat} {body : PSt} (Fn : Fun K x qual st f fd) (S : FnScope N ps (defScope st)) (hps : ps.length = n) (hN : N.length = n + nl)
    (hbody : ∀ (cdv : Value) (A : Around) (outer : List Env) (s : Shared) (H : Hp) (E0 : XK) (E : Ent), (∀ i, i ∉ fx → E.fix i = none) → Room k (A.deeper (envOfC qual (defScope st) s.heap.objs.size f cdv)) → (A.deeper (envOfC qual (defScope st) s.heap.objs.size f cdv)).guards = some [] →
      PSs (cxOf CX0 P w K mg base N qual (defScope st) f cdv A outer s H E0).nox (defBody st) (liftS K E body)) : FnG P w K mg base CX0 (k + 1) f fd ps (liftSp K n fx (spOf fx nl body)) := by
  refine fng_of Fn S (fun vs H Q E h => by rw [hps]; exact h.1) fun cdv A outer s H vs Q E0 hr hg hsp => ?_
  obtain ⟨hl, F, args, As, Q', hm, SS, p, k⟩ := hsp
  refine ⟨_, (hbody cdv A outer s H E0 (entOf fx F H vs As) (fun i hi => if_neg hi) hr hg).nox, ?_⟩
  obtain ⟨S1, fx1⟩ := SR.begin0 (N := N) SS nl (by omega)
  refine ⟨F, _, As, _, S1, fx1, p, ?_, ?_, ?_, ?_⟩
  · intro σ' F' H' env' As' _ S' f q
    exact k .non (.v .none) [] F' H' _ _ (SR.finish hm SS S') (RsOk.v Fp.non) q
  · exact fun _ _ _ _ _ _ _ _ q => q.elim
  · exact fun _ _ _ _ _ _ _ _ q => q.elim
  · intro σ' F' H' env' As' _ S' f v r ar R q
    refine k v r ar F' H' _ _ (SR.finish hm SS S') ⟨R.1, R.2.1, R.2.2.1, fun i a ha z => ?_⟩ q
    have z' : a ∈ (if i ∈ fx ∧ i < args.length then As' i else []) := z
    by_cases c : i ∈ fx ∧ i < args.length
    · rw [if_pos c] at z'
      exact R.2.2.2 i a ha z'
    · rw [if_neg c] at z'
      cases z'
end
end PL

namespace PL
open PySem PySem.Spec PyProof.Rows L2

/-! ### 13. calls of defs -/
def argsOf (env : PEnv) (gs : List Ag) : List Sl := gs.map fun g => match g with
  | .d x => .v x
  | .s i => env.getD i .un
/-- where a slot is lent -/
def posOf : List Ag → Nat → Option Nat
  | [], _ => none
  | .d _ :: gs, j => (posOf gs j).map (· + 1)
  | .s i :: gs, j => if i = j then some 0 else (posOf gs j).map (· + 1)
def backA : PEnv → List Ag → List Sl → PEnv
  | env, .d _ :: gs, _ :: as => backA env gs as
  | env, .s i :: gs, a :: as => (backA env gs as).set i a
  | env, _, _ => env
def lentIn (fx : List Nat) : Nat → List Ag → Bool
  | _, [] => true
  | n, .d _ :: gs => lentIn fx (n + 1) gs
  | n, .s _ :: gs => decide (n ∈ fx) && lentIn fx (n + 1) gs
def lents : List Ag → List Nat
  | [] => []
  | .d _ :: gs => lents gs
  | .s i :: gs => i :: lents gs
/-- a call: the lent slots stand apart -/
def pCall (n : Nat) (fx : List Nat) (sp : SpP) (pa : PAs) : PO := fun env Q => pa env fun gs env1 => gs.length = n ∧ (lentIn fx 0 gs = true ∧ (lents gs).Nodup) ∧ sp (argsOf env1 gs) fun r args' => Q r (backA env1 gs args')
section
theorem posOf_some : ∀ {gs : List Ag} {j i : Nat}, posOf gs j = some i → gs[i]? = some (.s j)
  | .d x :: gs, j, i, h => by
    obtain ⟨k, h1, rfl⟩ := Option.map_eq_some_iff.mp (show (posOf gs j).map (· + 1) = some i from h)
    rw [List.getElem?_cons_succ]
    exact posOf_some h1
  | .s n :: gs, j, i, h => by
    by_cases e : n = j
    · subst e
      have h' : some 0 = some i := (if_pos rfl).symm.trans h
      cases h'
      rfl
    · obtain ⟨k, h1, rfl⟩ := Option.map_eq_some_iff.mp (show (posOf gs j).map (· + 1) = some i from (if_neg e).symm.trans h)
      rw [List.getElem?_cons_succ]
      exact posOf_some h1
theorem posOf_lent : ∀ {gs : List Ag} {j : Nat}, posOf gs j = none → j ∉ lents gs
  | [], _, _ => by simp [lents]
  | .d x :: gs, j, h => by
    have h' : (posOf gs j).map (· + 1) = none := h
    show j ∉ lents gs
    exact posOf_lent (gs := gs) (Option.map_eq_none_iff.mp h')
  | .s n :: gs, j, h => by
    by_cases e : n = j
    · have h' : some 0 = none := (if_pos e).symm.trans h
      cases h'
    · have h' : (posOf gs j).map (· + 1) = none := (if_neg e).symm.trans h
      have q := posOf_lent (Option.map_eq_none_iff.mp h')
      simp only [lents, List.mem_cons, not_or]
      exact ⟨fun z => e z.symm, q⟩
theorem lents_of : ∀ {gs : List Ag} {i j : Nat}, gs[i]? = some (.s j) → j ∈ lents gs
  | .d x :: gs, 0, j, h => by cases h
  | .s n :: gs, 0, j, h => by cases h; simp [lents]
  | .d x :: gs, i + 1, j, h => by
    rw [List.getElem?_cons_succ] at h
    exact lents_of (gs := gs) h
  | .s n :: gs, i + 1, j, h => by
    rw [List.getElem?_cons_succ] at h
    exact List.mem_cons_of_mem _ (lents_of h)
theorem posOf_of : ∀ {gs : List Ag} {i j : Nat}, (lents gs).Nodup → gs[i]? = some (.s j) → posOf gs j = some i
  | .d x :: gs, 0, j, _, h => by cases h
  | .s n :: gs, 0, j, _, h => by cases h; exact if_pos rfl
  | .d x :: gs, i + 1, j, nd, h => by
    rw [List.getElem?_cons_succ] at h
    show (posOf gs j).map (· + 1) = _
    rw [posOf_of (gs := gs) nd h]
    rfl
  | .s n :: gs, i + 1, j, nd, h => by
    rw [List.getElem?_cons_succ] at h
    have e : n ≠ j := fun z => by
      subst z
      exact (List.nodup_cons.mp nd).1 (lents_of h)
    show (if n = j then some 0 else (posOf gs j).map (· + 1)) = _
    rw [if_neg e, posOf_of (List.nodup_cons.mp nd).2 h]
    rfl
theorem backA_length : ∀ (env : PEnv) (gs : List Ag) (as : List Sl), (backA env gs as).length = env.length
  | env, [], _ => by cases ‹List Sl› <;> rfl
  | env, .d x :: gs, [] => rfl
  | env, .s i :: gs, [] => rfl
  | env, .d x :: gs, a :: as => backA_length env gs as
  | env, .s i :: gs, a :: as => by
    show ((backA env gs as).set i a).length = _
    rw [List.length_set, backA_length env gs as]
theorem backA_get : ∀ {env : PEnv} {gs : List Ag} {as : List Sl} {j : Nat}, as.length = gs.length → (lents gs).Nodup → j < env.length → (backA env gs as)[j]? = (match posOf gs j with
    | some i => as[i]?
    | none => env[j]?)
  | env, [], as, j, _, _, _ => by cases as <;> rfl
  | env, .d x :: gs, [], j, h, _, _ => by cases h
  | env, .s i :: gs, [], j, h, _, _ => by cases h
  | env, .d x :: gs, a :: as, j, h, nd, hj => by
    show (backA env gs as)[j]? = _
    rw [backA_get (env := env) (gs := gs) (as := as) (j := j) (by simpa using h) nd hj]
    show _ = (match (posOf gs j).map (· + 1) with
      | some i => (a :: as)[i]?
      | none => env[j]?)
    cases posOf gs j with
    | none => rfl
    | some k => exact (List.getElem?_cons_succ).symm
  | env, .s n :: gs, a :: as, j, h, nd, hj => by
    show ((backA env gs as).set n a)[j]? = _
    by_cases e : n = j
    · subst e
      rw [List.getElem?_set_self (by rw [backA_length]; exact hj)]
      show _ = (match (if n = n then some 0 else (posOf gs n).map (· + 1)) with
        | some i => (a :: as)[i]?
        | none => env[n]?)
      rw [if_pos rfl]
      rfl
    · rw [List.getElem?_set_ne e, backA_get (env := env) (gs := gs) (as := as) (j := j) (by simpa using h) (List.nodup_cons.mp nd).2 hj]
      show _ = (match (if n = j then some 0 else (posOf gs j).map (· + 1)) with
        | some i => (a :: as)[i]?
        | none => env[j]?)
      rw [if_neg e]
      cases posOf gs j with
      | none => rfl
      | some k => exact (List.getElem?_cons_succ).symm
theorem lentIn_mem {fx : List Nat} : ∀ {gs : List Ag} {n i j : Nat}, lentIn fx n gs = true → gs[i]? = some (.s j) → n + i ∈ fx
  | .d x :: gs, n, 0, j, _, h => by cases h
  | .s k :: gs, n, 0, j, l, h => of_decide_eq_true (Bool.and_eq_true_iff.mp (show (decide (n ∈ fx) && lentIn fx (n + 1) gs) = true from l)).1
  | .d x :: gs, n, i + 1, j, l, h => by
    rw [List.getElem?_cons_succ] at h
    have := lentIn_mem (gs := gs) (n := n + 1) l h
    rwa [Nat.add_assoc, Nat.add_comm 1 i] at this
  | .s k :: gs, n, i + 1, j, l, h => by
    rw [List.getElem?_cons_succ] at h
    have := lentIn_mem (gs := gs) (n := n + 1) (Bool.and_eq_true_iff.mp (show (decide (n ∈ fx) && lentIn fx (n + 1) gs) = true from l)).2 h
    rwa [Nat.add_assoc, Nat.add_comm 1 i] at this
theorem paired_get {α β : Type} {R : α → β → Prop} : ∀ {xs : List α} {ys : List β} {i : Nat} {y : β}, Paired R xs ys → ys[i]? = some y → ∃ x, xs[i]? = some x ∧ R x y
  | _, _, 0, _, .cons h _, e => by cases e; exact ⟨_, rfl, h⟩
  | _, _, i + 1, _, .cons _ r, e => by
    rw [List.getElem?_cons_succ] at e
    obtain ⟨x, h1, h2⟩ := paired_get r e
    exact ⟨x, by rw [List.getElem?_cons_succ]; exact h1, h2⟩

variable {K : PySem.W.Frag} {E : Ent} {F H : Hp} {σ : L2.St} {env : PEnv} {As : Nat → List Addr} {vs : List V} {gs : List Ag}
/-- the addresses of the arguments -/
def asOf (As : Nat → List Addr) (gs : List Ag) : Nat → List Addr := fun i => match gs[i]? with
  | some (.s j) => As j
  | _ => []
theorem asOf_mem {i : Nat} {a : Addr} (h : a ∈ asOf As gs i) : ∃ j, gs[i]? = some (.s j) ∧ a ∈ As j := by
  unfold asOf at h
  split at h
  · exact ⟨_, by assumption, h⟩
  · cases h
theorem SR.lend {ts : L2.St} {fx : List Nat} (S : SR K E F H (σ ++ ts) env As) (P : Paired (AgOk F σ) vs gs) (nd : (lents gs).Nodup) (l : lentIn fx 0 gs = true) :
    (∀ i c, (argsOf env gs)[i]? = some (.m c) → i ∈ fx) ∧ SR K (entOf fx F H vs (asOf As gs)) F H (vs.map some) (argsOf env gs) (asOf As gs) := by
  have el : vs.length = gs.length := Paired.length P
  refine ⟨fun i c e => ?_, S.sub, Same.refl F, fun a h => .inl h, fun b o h _ => h, by rw [List.length_map]; unfold argsOf; rw [List.length_map, el], fun i s e => ?_, fun i h => ?_, fun i a h => ?_, fun i => ?_, fun i j a ne h1 h2 => ?_, fun i v e => ?_⟩
  · unfold argsOf at e
    rw [List.getElem?_map] at e
    obtain ⟨g, e1, e2⟩ := Option.map_eq_some_iff.mp e
    cases g with
    | d x => cases e2
    | s j =>
      have := lentIn_mem l e1
      rwa [Nat.zero_add] at this
  · unfold argsOf at e
    rw [List.getElem?_map] at e
    obtain ⟨g, e1, e2⟩ := Option.map_eq_some_iff.mp e
    obtain ⟨v, hv, r⟩ := paired_get P e1
    refine ⟨some v, by rw [List.getElem?_map, hv]; rfl, ?_⟩
    unfold asOf
    rw [e1]
    cases g with
    | d x =>
      subst e2
      exact ⟨v, rfl, r, rfl⟩
    | s j =>
      have hj : σ[j]? = some (some v) := r
      have hjl := (List.getElem?_eq_some_iff.mp hj).1
      have hje : j < env.length := by
        have := S.len
        rw [List.length_append] at this
        omega
      obtain ⟨x, h1, h2⟩ := S.slot j env[j] (List.getElem?_eq_getElem hje)
      rw [List.getElem?_append_left hjl, hj] at h1
      cases h1
      have e2' : env.getD j .un = s := e2
      rw [List.getD_eq_getElem?_getD, List.getElem?_eq_getElem hje] at e2'
      subst e2'
      exact h2
  · unfold asOf
    unfold argsOf at h
    rw [List.length_map] at h
    rw [List.getElem?_eq_none h]
  · obtain ⟨j, e, q⟩ := asOf_mem h
    exact ⟨(S.own j a q).1, .inl ⟨i, h⟩⟩
  · unfold asOf
    split
    · exact S.nd _
    · exact List.nodup_nil
  · obtain ⟨m, e1, q1⟩ := asOf_mem h1
    obtain ⟨n, e2, q2⟩ := asOf_mem h2
    by_cases z : m = n
    · subst z
      have p1 := posOf_of nd e1
      have p2 := posOf_of nd e2
      rw [p1] at p2
      exact ne (Option.some.inj p2)
    · exact S.disj m n a z q1 q2
  · have e' : (if i ∈ fx then vs[i]? else none) = some v := e
    split at e'
    · rw [List.getElem?_map, e']
      rfl
    · cases e'
/-- the lent slots come back -/
def asBack (As As' : Nat → List Addr) (gs : List Ag) : Nat → List Addr := fun j => match posOf gs j with
  | some i => As' i
  | none => As j
theorem asBack_mem {As' : Nat → List Addr} {j : Nat} {a : Addr} (h : a ∈ asBack As As' gs j) : (∃ i, posOf gs j = some i ∧ a ∈ As' i) ∨ (posOf gs j = none ∧ a ∈ As j) := by
  unfold asBack at h
  split at h
  · exact .inl ⟨_, by assumption, h⟩
  · exact .inr ⟨by assumption, h⟩
theorem SR.back {ts : L2.St} {fx : List Nat} {F' H' : Hp} {args' : List Sl} {As' : Nat → List Addr} {v : V} {r : Sl} {ar : List Addr} (S : SR K E F H (σ ++ ts) env As) (P : Paired (AgOk F σ) vs gs) (nd : (lents gs).Nodup)
    (S' : SR K (entOf fx F H vs (asOf As gs)) F' H' (vs.map some) args' As') (R : RsOk K (entOf fx F H vs (asOf As gs)) F' H' As' v r ar) :
    SR K E F' H' (σ ++ ts) (backA env gs args') (asBack As As' gs) ∧ RsOk K E F' H' (asBack As As' gs) v r ar := by
  have el : vs.length = gs.length := Paired.length P
  have al : args'.length = gs.length := by
    have := S'.len
    rw [List.length_map] at this
    omega
  have lentAt : ∀ {j i : Nat}, posOf gs j = some i → j < env.length := fun {j i} e => by
    obtain ⟨v, hv, q⟩ := paired_get P (posOf_some e)
    have q' : σ[j]? = some (some v) := q
    have := (List.getElem?_eq_some_iff.mp q').1
    have l := S.len
    rw [List.length_append] at l
    omega
  -- what the callee owned was lent here, or is new
  have owned : ∀ {a : Addr}, (∃ i, a ∈ asOf As gs i) ∨ H a = none → E.B a ∨ E.H0 a = none := fun {a} h => by
    rcases h with ⟨i, h⟩ | h
    · obtain ⟨j, _, q⟩ := asOf_mem h
      exact (S.own j a q).2
    · exact (S.free h).symm
  have ff : Same F F' := S'.f0
  -- a slot that was not lent stands as it stood
  have stands : ∀ {j : Nat} {a : Addr}, posOf gs j = none → a ∈ As j → ¬ (∃ i, a ∈ asOf As gs i) := fun {j a} e h ⟨i, q⟩ => by
    obtain ⟨k, e2, q2⟩ := asOf_mem q
    have ne : k ≠ j := fun z => by
      subst z
      rw [posOf_of nd e2] at e
      cases e
    exact S.disj k j a ne q2 h
  have apart : ∀ {a : Addr}, (∃ i, a ∈ asOf As gs i) ∨ H a = none → ∀ {j : Nat}, posOf gs j = none → a ∉ As j := fun {a} h {j} e q => by
    rcases h with h | h
    · exact stands e q h
    · exact S.live j a q h
  have off : ∀ {j : Nat} {a : Addr}, posOf gs j = none → a ∈ As j → F' a = none ∧ H' a = H a := fun {j a} e h => by
    have nb := stands e h
    refine ⟨?_, ?_⟩
    · cases q : F' a with
      | none => rfl
      | some o =>
        rcases S'.grow a (some_ne q) with z | z | z | z
        · exact absurd (S.own j a h).1 z
        · exact absurd z (S.live j a h)
        · exact absurd z nb
        · exact absurd z (S.ntp j a h)
    · cases q : H a with
      | none => exact absurd q (S.live j a h)
      | some o => exact S'.keep a o q nb
  refine ⟨⟨S'.sub, S.f0.trans ff, fun a h => ?_, fun b o e n => ?_, by rw [backA_length]; exact S.len, fun j s e => ?_, fun j h => ?_, fun j a h => ?_, fun j => ?_, fun i j a ne h1 h2 => ?_, S.fix⟩, R.1, R.2.1, fun a ha => ⟨(R.2.2.1 a ha).1, owned (R.2.2.1 a ha).2⟩, fun j a ha q => ?_⟩
  · rcases S'.grow a h with z | z | z | z
    · exact S.grow a z
    · exact .inr (S.free' z)
    · exact .inr ((owned (.inl z)).elim (fun y => .inr (.inl y)) .inl)
    · exact .inr (S.tp z)
  · have z := S.keep b o e n
    refine S'.keep b o z fun q => ?_
    rcases owned (.inl q) with y | y
    · exact n y
    · rw [y] at e
      cases e
  · have hj : j < env.length := by
      have := (List.getElem?_eq_some_iff.mp e).1
      rw [backA_length] at this
      exact this
    rw [backA_get al nd hj] at e
    show ∃ x, (σ ++ ts)[j]? = some x ∧ SlOk K F' H' x s (asBack As As' gs j)
    unfold asBack
    cases q : posOf gs j with
    | none =>
      rw [q] at e
      obtain ⟨x, h1, h2⟩ := S.slot j s e
      exact ⟨x, h1, h2.to ff fun a ha => (off q ha).2⟩
    | some i =>
      rw [q] at e
      obtain ⟨w, hw, rw'⟩ := paired_get P (posOf_some q)
      have hσ : σ[j]? = some (some w) := rw'
      obtain ⟨x, h1, h2⟩ := S'.slot i s e
      rw [List.getElem?_map, hw] at h1
      cases h1
      exact ⟨some w, by rw [List.getElem?_append_left (List.getElem?_eq_some_iff.mp hσ).1]; exact hσ, h2⟩
  · rw [backA_length] at h
    unfold asBack
    cases q : posOf gs j with
    | none => exact S.out j h
    | some i => exact absurd (lentAt q) (by omega)
  · rcases asBack_mem h with ⟨i, e, q⟩ | ⟨e, q⟩
    · exact ⟨(S'.own i a q).1, owned (S'.own i a q).2⟩
    · exact ⟨(off e q).1, (S.own j a q).2⟩
  · unfold asBack
    cases q : posOf gs j with
    | none => exact S.nd j
    | some i => exact S'.nd i
  · rcases asBack_mem h1 with ⟨m, e1, q1⟩ | ⟨e1, q1⟩
    · rcases asBack_mem h2 with ⟨n, e2, q2⟩ | ⟨e2, q2⟩
      · by_cases z : m = n
        · subst z
          have p1 := posOf_some e1
          rw [posOf_some e2] at p1
          cases p1
          exact ne rfl
        · exact S'.disj m n a z q1 q2
      · exact apart (S'.own m a q1).2 e2 q2
    · rcases asBack_mem h2 with ⟨n, e2, q2⟩ | ⟨e2, q2⟩
      · exact apart (S'.own n a q2).2 e1 q1
      · exact S.disj i j a ne q1 q2
  · rcases asBack_mem q with ⟨i, e, q⟩ | ⟨e, q⟩
    · exact R.2.2.2 i a ha q
    · exact apart (R.2.2.1 a ha).2 e q
end
/-- a promise of data is what a call wants -/
theorem le_call {K : PySem.W.Frag} {E : Ent} {n : Nat} {fx : List Nat} {sp : SpP} {pa : PAs} {E0 : XK} :
    Le (liftO K E (pCall n fx sp pa)) (fun σ H Q => liftA K E pa σ H fun vs H1 => liftSp K n fx sp vs H1 Q E0) :=
  fun σ H Q ⟨ts, F, env, As, Q', S, f, p, k⟩ => ⟨ts, F, env, As, _, S, f, p, fun vs gs F1 H1 env1 As1 S1 f1 P ⟨hl, ⟨l, nd⟩, q⟩ => by
    obtain ⟨hm, SL⟩ := S1.lend P nd l
    refine ⟨by rw [Paired.length P]; exact hl, F1, _, _, _, hm, SL, q, fun v r ar F' H' args' As' S' R q' => ?_⟩
    obtain ⟨SB, RB⟩ := S1.back P nd S' R
    exact k v r ar F' H' _ _ SB (f1.trans S'.f0) RB q'⟩
end PL

namespace PL
open PySem PySem.Spec PyProof.Rows L2

/-! ### 14. calls as expressions -/
def perm {α : Type} (ix : List Nat) (l : List α) : List α := ix.filterMap fun i => l[i]?
theorem paired_perm {α β : Type} {R : α → β → Prop} {xs : List α} {ys : List β} (P : Paired R xs ys) : ∀ ix : List Nat, Paired R (perm ix xs) (perm ix ys)
  | [] => .nil
  | i :: ix => by
    have l := Paired.length P
    have ih := paired_perm P ix
    unfold perm at ih ⊢
    rw [List.filterMap_cons, List.filterMap_cons]
    cases e : ys[i]? with
    | none =>
      rw [List.getElem?_eq_none (by rw [l]; exact List.getElem?_eq_none_iff.mp e)]
      exact ih
    | some y =>
      obtain ⟨x, h1, h2⟩ := paired_get P e
      rw [h1]
      exact .cons h2 ih
section
variable {X : Cx} {CX : CXT} {k : Nat} {f : Addr} {fd : FuncData} {ps ks : List Str} {sp : Sp} {E0 : XK} {x : Str} {p pos : Pos} {e : Expr} {es : List Expr} {kws : List Keyword} {t tk : TA}
theorem run_g {pins : List (Addr × Obj)} {σ : L2.St} {H : Hp} {s : Shared} {Q : VK} {args : Args} {us : List Value} {vs : List V} (G : FnG X.prog X.w X.K X.mg X.base CX k f fd ps sp) (hr : Room k X.A) (hg : X.A.guards = some []) (hx : Passes CX X E0)
    (I : Inv X pins σ H s) (r : Vals vs us) (hb : us.length = ps.length → BindsTo s fd args (ps.zip us)) (h : sp vs H Q E0) : wpAny (model X.prog X.w) X.A (call (.ref f) args.pos args.kw) (EP X pins σ Q) X.xe s := by
  have hl : us.length = ps.length := by rw [← r.length]; exact G.len _ _ _ _ h
  refine wpAny_call (codeAny_mono (G.run X.A X.stack s H args us vs Q E0 hr hg I.env0 (hb hl) r h) fun r s' hq => ?_)
  cases r with
  | error e => exact hx pins σ H s e s' I hq
  | ok fl =>
    cases fl with
    | ret u => exact I.after hq
    | next => exact False.elim hq
    | brk => exact False.elim hq
    | cont => exact False.elim hq
/-- f(e, ..) -/
theorem pe_callG (G : FnG X.prog X.w X.K X.mg X.base CX k f fd ps sp) (hr : Room k X.A) (hg : X.A.guards = some []) (hgl : Gl X x) (hm : X.mg x = some (.ref f)) (hk : PySem.W.keepIn X.K (.ref f) = true) (hb : Binds X.K fd ps []) (hx : Passes CX X E0)
    (ha : PA X (e :: es) t) (hdb : (x == ("__debug__" : Str)) = false := by decide) (he : starEach (e :: es) X.env = (false, eval e X.env) :: starEach es X.env := by rfl) (hpl : (backTo pos (starEach es X.env)).any (·.1) = false := by rfl) :
    PE X (.Call (.Name x p) (e :: es) [] pos) (fun σ H Q => t σ H fun vs H1 => sp vs H1 Q E0) := by
  refine ⟨fun pins s σ H Q I h => ?_⟩
  refine wpAny_Call_Name_kw (ld_glob I hgl hm ?_ hdb)
  refine PySem.W.callWith_K (h₀ := X.base) I.ok.mod.kin hk (thn (ha.run pos pins s σ H _ I h) fun us s1 ⟨vs, H1, I1, r, q⟩ => ⟨I1.kIn, ?_⟩) he hpl
  exact run_g (args := ⟨us, []⟩) G hr hg hx I1 r (fun hl => by
    have z := hb s1 us I1.kIn (by rw [List.append_nil]; exact hl)
    rw [List.append_nil] at z
    exact z) q
/-- f() -/
theorem pe_callG0 (G : FnG X.prog X.w X.K X.mg X.base CX k f fd ps sp) (hr : Room k X.A) (hg : X.A.guards = some []) (hgl : Gl X x) (hm : X.mg x = some (.ref f)) (hk : PySem.W.keepIn X.K (.ref f) = true) (hb : Binds X.K fd ps []) (hx : Passes CX X E0)
    (hdb : (x == ("__debug__" : Str)) = false := by decide) : PE X (.Call (.Name x p) [] [] pos) (fun σ H Q => sp [] H Q E0) := by
  refine ⟨fun pins s σ H Q I h => ?_⟩
  refine wpAny_Call_Name_kw (ld_glob I hgl hm ?_ hdb)
  exact PySem.W.callWith_K0 I.kIn hk (run_g (args := ⟨[], []⟩) (us := []) G hr hg hx I .nil (fun hl => by
    have z := hb s [] I.kIn (by rw [List.append_nil]; exact hl)
    rw [List.append_nil] at z
    exact z) h)
/-- how keywords bind: the values in the parameters' order by their places -/
def KBi (K : PySem.W.Frag) (fd : FuncData) (ps ks : List Str) (np : Nat) (ix : List Nat) : Prop := ∀ (s : Shared) (us ws : List Value), K.In s.heap → us.length = np → ws.length = ks.length → BindsTo s fd ⟨us, ks.zip ws⟩ (ps.zip (perm ix (us ++ ws)))
variable {ix : List Nat} {np : Nat}
/-- f(k = e, ..) -/
theorem pe_callGK (G : FnG X.prog X.w X.K X.mg X.base CX k f fd ps sp) (hr : Room k X.A) (hg : X.A.guards = some []) (hgl : Gl X x) (hm : X.mg x = some (.ref f)) (hk : PySem.W.keepIn X.K (.ref f) = true) (hb : KBi X.K fd ps ks 0 ix) (hx : Passes CX X E0)
    (hkw : PK X kws tk) (hall : (backToKw pos (keywordEach kws X.env)).all (·.1.isSome) = true := by rfl) (hks : (backToKw pos (keywordEach kws X.env)).filterMap (·.1) = ks := by rfl)
    (hdb : (x == ("__debug__" : Str)) = false := by decide) (hpl : ((backTo pos (starEach [] X.env)).any (·.1) || (backToKw pos (keywordEach kws X.env)).any (·.1.isNone)) = false := by rfl) :
    PE X (.Call (.Name x p) [] kws pos) (fun σ H Q => tk σ H fun zs H2 => zs.length = ks.length ∧ sp (perm ix zs) H2 Q E0) := by
  refine ⟨fun pins s σ H Q I h => ?_⟩
  refine wpAny_Call_Name_kw (ld_glob I hgl hm ?_ hdb)
  refine PySem.W.callWith_KW0 (h₀ := X.base) I.ok.mod.kin hk hall ?_ hpl
  refine thn (hkw.run pos pins s σ H _ I h) fun ws s2 ⟨zs, H2, I2, rz, lz, q2⟩ => ⟨I2.kIn, ?_⟩
  rw [hks]
  exact run_g (args := ⟨[], ks.zip ws⟩) (us := perm ix ws) G hr hg hx I2 (paired_perm rz ix) (fun hl => hb s2 [] ws I2.kIn rfl (by rw [← rz.length]; exact lz)) q2
/-- f(e, .., k = e, ..) -/
theorem pe_callGM (G : FnG X.prog X.w X.K X.mg X.base CX k f fd ps sp) (hr : Room k X.A) (hg : X.A.guards = some []) (hgl : Gl X x) (hm : X.mg x = some (.ref f)) (hk : PySem.W.keepIn X.K (.ref f) = true) (hb : KBi X.K fd ps ks np ix) (hx : Passes CX X E0)
    (ha : PA X (e :: es) t) (hkw : PK X kws tk) (hall : (backToKw pos (keywordEach kws X.env)).all (·.1.isSome) = true := by rfl) (hks : (backToKw pos (keywordEach kws X.env)).filterMap (·.1) = ks := by rfl)
    (hdb : (x == ("__debug__" : Str)) = false := by decide) (he : starEach (e :: es) X.env = (false, eval e X.env) :: starEach es X.env := by rfl)
    (hpl : ((backTo pos (starEach (e :: es) X.env)).any (·.1) || (backToKw pos (keywordEach kws X.env)).any (·.1.isNone)) = false := by rfl) :
    PE X (.Call (.Name x p) (e :: es) kws pos) (fun σ H Q => t σ H fun vs H1 => tk σ H1 fun zs H2 => (vs.length = np ∧ zs.length = ks.length) ∧ sp (perm ix (vs ++ zs)) H2 Q E0) := by
  refine ⟨fun pins s σ H Q I h => ?_⟩
  refine wpAny_Call_Name_kw (ld_glob I hgl hm ?_ hdb)
  refine PySem.W.callWith_KW (h₀ := X.base) I.ok.mod.kin hk hall (thn (ha.run pos pins s σ H _ I h) fun us s1 ⟨vs, H1, I1, r, q⟩ => ?_) hpl he
  refine thn (hkw.run pos pins s1 σ H1 _ I1 q) fun ws s2 ⟨zs, H2, I2, rz, lz, q2⟩ => ⟨I2.kIn, ?_⟩
  rw [hks]
  exact run_g (args := ⟨us, ks.zip ws⟩) (us := perm ix (us ++ ws)) G hr hg hx I2 (paired_perm (r.append rz) ix) (fun hl => hb s2 us ws I2.kIn (by rw [← r.length]; exact lz.1) (by rw [← rz.length]; exact lz.2)) q2
end
section
variable {X : Cx} {E : Ent} {k n : Nat} {f : Addr} {fd : FuncData} {ps ks : List Str} {fx : List Nat} {sp : SpP} {x : Str} {p pos : Pos} {e : Expr} {es : List Expr} {kws : List Keyword} {pa pk : PAs} {ix : List Nat} {np m : Nat}
theorem l_call (G : FnG X.prog X.w X.K X.mg X.base CX0 k f fd ps (liftSp X.K n fx sp)) (hr : Room k X.A) (hg : X.A.guards = some []) (hgl : Gl X x) (hm : X.mg x = some (.ref f)) (hk : PySem.W.keepIn X.K (.ref f) = true) (hb : Binds X.K fd ps [])
    (ha : PA X (e :: es) (liftA X.K E pa)) (hdb : (x == ("__debug__" : Str)) = false := by decide) (he : starEach (e :: es) X.env = (false, eval e X.env) :: starEach es X.env := by rfl) (hpl : (backTo pos (starEach es X.env)).any (·.1) = false := by rfl) :
    PE X (.Call (.Name x p) (e :: es) [] pos) (liftO X.K E (pCall n fx sp pa)) := pe_w (pe_callG (E0 := E0) G hr hg hgl hm hk hb pass0 ha hdb he hpl) le_call
theorem l_call0 (G : FnG X.prog X.w X.K X.mg X.base CX0 k f fd ps (liftSp X.K n fx sp)) (hr : Room k X.A) (hg : X.A.guards = some []) (hgl : Gl X x) (hm : X.mg x = some (.ref f)) (hk : PySem.W.keepIn X.K (.ref f) = true) (hb : Binds X.K fd ps [])
    (hdb : (x == ("__debug__" : Str)) = false := by decide) : PE X (.Call (.Name x p) [] [] pos) (liftO X.K E (pCall n fx sp pANil)) := by
  refine pe_w (pe_callG0 (E0 := E0) G hr hg hgl hm hk hb pass0 hdb) fun σ H Q q => ?_
  obtain ⟨ts, F, env, As, Q', S, fix, q, k⟩ := le_call (E0 := E0) σ H Q q
  exact k [] [] F H env As S (Same.refl F) .nil q
/-- arguments one list behind the other, then put in order -/
def pPerm (ix : List Nat) (pa pk : PAs) : PAs := fun env Q => pa env fun gs env1 => pk env1 fun hs env2 => Q (perm ix (gs ++ hs)) env2
def pKeep (m : Nat) (pa : PAs) : PAs := fun env Q => pa env fun gs env1 => gs.length = m ∧ Q gs env1
theorem lk_nil : PK X [] (liftA X.K E pANil) := ⟨fun ps pins s σ H Q I h => pk_nil.run ps pins s σ H Q I (by
  obtain ⟨ts, F, env, As, Q', S, fx, p, k⟩ := h
  exact k [] [] F H env As S (Same.refl F) .nil p)⟩
theorem lk_cons {nm : Option Str} {kpos : Pos} {px : PX} {pr : PAs} (ha : PE X e (liftE X.K E px)) (hr : PK X kws (liftA X.K E pr)) : PK X (⟨nm, e, kpos⟩ :: kws) (liftA X.K E (pACons px pr)) := ⟨fun ps pins s σ H Q I h => (pk_cons ha hr).run ps pins s σ H Q I (by
  obtain ⟨ts, F, env, As, Q', S, fx, p, k⟩ := h
  exact ⟨ts, F, env, As, _, S, fx, p, fun v d F1 H1 env1 As1 S1 f1 h1 q1 =>
    ⟨ts, F1, env1, As1, _, S1, fx, q1, fun vs gs F2 H2 env2 As2 S2 f2 h2 q2 => k (v :: vs) (.d d :: gs) F2 H2 env2 As2 S2 (f1.trans f2) (.cons (show Fp F2 v d from h1.to f2) h2) q2⟩⟩)⟩
theorem lk_lend (i : Nat) {nm : Option Str} {kpos px : Pos} {y : Str} {pr : PAs} (h : PE X (.Name y px) (tVar i)) (hN : i < X.N.length) (hr : PK X kws (liftA X.K E pr)) : PK X (⟨nm, .Name y px, kpos⟩ :: kws) (liftA X.K E (pALend i pr)) := ⟨fun ps pins s σ H Q I q => (pk_cons h hr).run ps pins s σ H Q I (by
  obtain ⟨ts, F, env, As, Q', S, fx, ⟨⟨c, ec⟩, p⟩, k⟩ := q
  have hi : i < σ.length := by rw [I.len]; exact hN
  obtain ⟨x', h1, v, e1, h2⟩ := S.slot i _ ec
  subst e1
  have h1' := app_get hi h1
  exact ⟨v, h1', ts, F, env, As, _, S, fx, p, fun vs gs F2 H2 env2 As2 S2 f2 h2 q2 => k (v :: vs) (.s i :: gs) F2 H2 env2 As2 S2 f2 (.cons h1' h2) q2⟩)⟩
theorem l_callK (G : FnG X.prog X.w X.K X.mg X.base CX0 k f fd ps (liftSp X.K n fx sp)) (hr : Room k X.A) (hg : X.A.guards = some []) (hgl : Gl X x) (hm : X.mg x = some (.ref f)) (hk : PySem.W.keepIn X.K (.ref f) = true) (hb : KBi X.K fd ps ks 0 ix)
    (hkw : PK X kws (liftA X.K E pk)) (hall : (backToKw pos (keywordEach kws X.env)).all (·.1.isSome) = true := by rfl) (hks : (backToKw pos (keywordEach kws X.env)).filterMap (·.1) = ks := by rfl)
    (hdb : (x == ("__debug__" : Str)) = false := by decide) (hpl : ((backTo pos (starEach [] X.env)).any (·.1) || (backToKw pos (keywordEach kws X.env)).any (·.1.isNone)) = false := by rfl) (hm2 : ks.length = m := by rfl) :
    PE X (.Call (.Name x p) [] kws pos) (liftO X.K E (pCall n fx sp (pPerm ix pANil (pKeep m pk)))) := by
  subst hm2
  refine pe_w (pe_callGK (E0 := E0) G hr hg hgl hm hk hb pass0 hkw hall hks hdb hpl) fun σ H Q q => ?_
  obtain ⟨ts, F, env, As, Q', S, fix, q, k⟩ := q
  refine ⟨ts, F, env, As, _, S, fix, q, fun zs gs F1 H1 env1 As1 S1 f1 P ⟨hl, hl2, ⟨l, nd⟩, q⟩ => ⟨by rw [Paired.length P]; exact hl, ?_⟩⟩
  have P2 := paired_perm P ix
  obtain ⟨hm, SL⟩ := S1.lend P2 nd l
  refine ⟨by rw [Paired.length P2]; exact hl2, F1, _, _, _, hm, SL, q, fun v r ar F' H' args' As' S' R q' => ?_⟩
  obtain ⟨SB, RB⟩ := S1.back P2 nd S' R
  exact k v r ar F' H' _ _ SB (f1.trans S'.f0) RB q'
theorem l_callM (G : FnG X.prog X.w X.K X.mg X.base CX0 k f fd ps (liftSp X.K n fx sp)) (hr : Room k X.A) (hg : X.A.guards = some []) (hgl : Gl X x) (hm : X.mg x = some (.ref f)) (hk : PySem.W.keepIn X.K (.ref f) = true) (hb : KBi X.K fd ps ks np ix)
    (ha : PA X (e :: es) (liftA X.K E pa)) (hkw : PK X kws (liftA X.K E pk)) (hall : (backToKw pos (keywordEach kws X.env)).all (·.1.isSome) = true := by rfl) (hks : (backToKw pos (keywordEach kws X.env)).filterMap (·.1) = ks := by rfl)
    (hdb : (x == ("__debug__" : Str)) = false := by decide) (he : starEach (e :: es) X.env = (false, eval e X.env) :: starEach es X.env := by rfl)
    (hpl : ((backTo pos (starEach (e :: es) X.env)).any (·.1) || (backToKw pos (keywordEach kws X.env)).any (·.1.isNone)) = false := by rfl) (hm2 : ks.length = m := by rfl) :
    PE X (.Call (.Name x p) (e :: es) kws pos) (liftO X.K E (pCall n fx sp (pPerm ix (pKeep np pa) (pKeep m pk)))) := by
  subst hm2
  refine pe_w (pe_callGM (E0 := E0) G hr hg hgl hm hk hb pass0 ha hkw hall hks hdb he hpl) fun σ H Q q => ?_
  obtain ⟨ts, F, env, As, Q', S, fix, q, k⟩ := q
  refine ⟨ts, F, env, As, _, S, fix, q, fun vs gs F0 H0 env0 As0 S0 f0 P0 ⟨hl0, q⟩ => ⟨ts, F0, env0, As0, _, S0, fix, q, fun zs hs F1 H1 env1 As1 S1 f1 P ⟨hl, hl2, ⟨l, nd⟩, q⟩ => ⟨⟨by rw [Paired.length P0]; exact hl0, by rw [Paired.length P]; exact hl⟩, ?_⟩⟩⟩
  have P2 := paired_perm (paired_app (AgOk.to f1 P0) P) ix
  obtain ⟨hm, SL⟩ := S1.lend P2 nd l
  refine ⟨by rw [Paired.length P2]; exact hl2, F1, _, _, _, hm, SL, q, fun v r ar F' H' args' As' S' R q' => ?_⟩
  obtain ⟨SB, RB⟩ := S1.back P2 nd S' R
  exact k v r ar F' H' _ _ SB ((f0.trans f1).trans S'.f0) RB q'
end
end PL

namespace PL
open PySem PySem.Spec PyProof.Rows L2

/-! ### 15. a part run as of a new entry: what nobody owns stands -/
def reE (E : Ent) (F H : Hp) (As : Nat → List Addr) : Ent := ⟨F, H, fun a => ∃ i, a ∈ As i, E.fix⟩
section
variable {K : PySem.W.Frag} {E : Ent} {F H F' H' : Hp} {σ σ' : L2.St} {env env' : PEnv} {As As' : Nat → List Addr}
theorem SR.re (S : SR K E F H σ env As) : SR K (reE E F H As) F H σ env As :=
  ⟨S.sub, Same.refl F, fun a h => .inl h, fun b o h _ => h, S.len, S.slot, S.out, fun i a h => ⟨(S.own i a h).1, .inl ⟨i, h⟩⟩, S.nd, S.disj, S.fix⟩
theorem SR.own' (S : SR K E F H σ env As) {a : Addr} (h : (∃ i, a ∈ As i) ∨ H a = none) : E.B a ∨ E.H0 a = none := by
  rcases h with ⟨i, h⟩ | h
  · exact (S.own i a h).2
  · exact (S.free h).symm
theorem SR.unre (S : SR K E F H σ env As) (S' : SR K (reE E F H As) F' H' σ' env' As') : SR K E F' H' σ' env' As' :=
  ⟨S'.sub, S.f0.trans S'.f0, fun a h => by
    rcases S'.grow a h with z | z | z | z
    · exact S.grow a z
    · exact .inr (S.free' z)
    · exact .inr ((S.own' (.inl z)).elim (fun y => .inr (.inl y)) .inl)
    · exact .inr (S.tp z), fun b o e n => S'.keep b o (S.keep b o e n) fun z => (S.own' (.inl z)).elim n (fun q => some_ne e q), S'.len, S'.slot, S'.out, fun i a h => ⟨(S'.own i a h).1, S.own' (S'.own i a h).2⟩, S'.nd, S'.disj, S'.fix⟩
theorem RsOk.unre {v : V} {r : Sl} {ar : List Addr} (S : SR K E F H σ env As) (R : RsOk K (reE E F H As) F' H' As' v r ar) : RsOk K E F' H' As' v r ar :=
  ⟨R.1, R.2.1, fun a ha => ⟨(R.2.2.1 a ha).1, S.own' (R.2.2.1 a ha).2⟩, R.2.2.2⟩
theorem SR.held (S' : SR K (reE E F H As) F' H' σ' env' As') {a : Addr} (h : H a ≠ none) (t : ¬ IsTp H a) (n : ∀ i, a ∉ As i) : H' a = H a ∧ (F a = none → F' a = none) := by
  have nb : ¬ ∃ i, a ∈ As i := fun ⟨i, q⟩ => n i q
  refine ⟨?_, fun e => ?_⟩
  · cases q : H a with
    | none => exact absurd q h
    | some o => exact S'.keep a o q nb
  · cases q : F' a with
    | none => rfl
    | some o =>
      rcases S'.grow a (some_ne q) with z | z | z | z
      · exact absurd e z
      · exact absurd z h
      · exact absurd z nb
      · exact absurd z t
theorem FixIn.re (f : FixIn E σ) : FixIn (reE E F H As) σ := f
end

/-! ### 16. several results held at once -/
inductive RsAll (K : PySem.W.Frag) (F H : Hp) : List V → List Sl → List Addr → Prop
  | nil : RsAll K F H [] [] []
  | cons {v : V} {r : Sl} {ar br : List Addr} {vs : List V} {rs : List Sl} : SlOk K F H (some v) r ar → RsAll K F H vs rs br → RsAll K F H (v :: vs) (r :: rs) (ar ++ br)
abbrev POs := PEnv → (List Sl → PEnv → Prop) → Prop
def AllOk (K : PySem.W.Frag) (E : Ent) (F H : Hp) (As : Nat → List Addr) (vs : List V) (rs : List Sl) (ar : List Addr) : Prop :=
  RsAll K F H vs rs ar ∧ ar.Nodup ∧ (∀ a ∈ ar, F a = none ∧ (E.B a ∨ E.H0 a = none)) ∧ ∀ i, ∀ a ∈ ar, a ∉ As i
def KAO (K : PySem.W.Frag) (E : Ent) (σ ts : L2.St) (F : Hp) (Q : List V → Hp → Prop) (Q' : List Sl → PEnv → Prop) : Prop := ∀ vs rs ar F' H' env' As', SR K E F' H' (σ ++ ts) env' As' → Same F F' → AllOk K E F' H' As' vs rs ar → Q' rs env' → Q vs H'
def liftAO (K : PySem.W.Frag) (E : Ent) (p : POs) : TA := fun σ H Q => ∃ ts F env As Q', SR K E F H (σ ++ ts) env As ∧ FixIn E σ ∧ p env Q' ∧ KAO K E σ ts F Q Q'
def pONil : POs := fun env Q => Q [] env
def pOCons (pa : PO) (pr : POs) : POs := fun env Q => pa env fun r env1 => pr env1 fun rs env2 => Q (r :: rs) env2
section
variable {X : Cx} {E : Ent} {e : Expr} {es : List Expr} {pa : PO} {pr : POs} {pos : Pos}
theorem lo_nil : PA X [] (liftAO X.K E pONil) := pa_w pa_nil fun σ H Q ⟨ts, F, env, As, Q', S, fx, p, k⟩ => k [] [] [] F H env As S (Same.refl F) ⟨.nil, List.nodup_nil, fun a ha => absurd ha (by simp), fun i a ha => absurd ha (by simp)⟩ p
theorem RsAll.live {K : PySem.W.Frag} {F H : Hp} : ∀ {vs : List V} {rs : List Sl} {ar : List Addr}, RsAll K F H vs rs ar → ∀ a ∈ ar, H a ≠ none
  | _, _, _, .nil => fun a ha => absurd ha (by simp)
  | _, _, _, .cons h r => fun a ha => (List.mem_append.mp ha).elim (h.live a) (RsAll.live r a)
theorem lo_cons (ha : PE X e (liftO X.K E pa)) (hr : ∀ E' : Ent, E'.fix = E.fix → PA X es (liftAO X.K E' pr)) (hs : starEach (e :: es) X.env = (false, eval e X.env) :: starEach es X.env := by rfl) : PA X (e :: es) (liftAO X.K E (pOCons pa pr)) := by
  refine ⟨fun ps pins s σ H Q I h => ?_⟩
  rw [hs]
  show wpAny _ _ (spliced ((false, eval e X.env) :: backTo ps (starEach es X.env))) _ _ s
  obtain ⟨ts, F, env, As, Q', S, fx, p, k⟩ := h
  refine Calls.spliced_cons (thn (ha.run pins s σ H _ I ⟨ts, F, env, As, _, S, fx, p, fun v r ar F1 H1 env1 As1 S1 f1 R q => (show (fun v H1 => ∃ r ar F1 env1 As1, SR X.K E F1 H1 (σ ++ ts) env1 As1 ∧ Same F F1 ∧ RsOk X.K E F1 H1 As1 v r ar ∧ pr env1 fun rs env2 => Q' (r :: rs) env2) v H1 from ⟨r, ar, F1, env1, As1, S1, f1, R, q⟩)⟩) fun u s1 ⟨x, H1, I1, r1, r, ar, F1, env1, As1, S1, f1, R, q⟩ => ?_)
  refine thn ((hr (reE E F1 H1 As1) rfl).run ps pins s1 σ H1 (fun vs H' => Q (x :: vs) H') I1 ⟨ts, F1, env1, As1, _, S1.re, fx, q, fun vs rs br F2 H2 env2 As2 S2 f2 A q2 => ?_⟩) fun us s2 ⟨xs, H2, I2, r2, q2⟩ => ⟨x :: xs, H2, I2, .cons r1 r2, q2⟩
  have hd : ∀ a ∈ ar, H2 a = H1 a ∧ (F1 a = none → F2 a = none) := fun a ha => S2.held (R.1.live a ha) (R.1.ntp a ha) fun i => R.2.2.2 i a ha
  have ap : ∀ a, ((∃ i, a ∈ As1 i) ∨ H1 a = none) → a ∉ ar := fun a h ha => by
    rcases h with ⟨i, h⟩ | h
    · exact R.2.2.2 i a ha h
    · exact R.1.live a ha h
  refine k (x :: vs) (r :: rs) (ar ++ br) F2 H2 env2 As2 (S1.unre S2) (f1.trans f2) ⟨.cons (R.1.to f2 fun a ha => (hd a ha).1) A.1, ?_, fun a ha => ?_, fun i a ha z => ?_⟩ q2
  · refine List.nodup_append.mpr ⟨R.2.1, A.2.1, fun a ha b hb z => ?_⟩
    subst z
    exact ap a (A.2.2.1 a hb).2 ha
  · rcases List.mem_append.mp ha with ha | ha
    · exact ⟨(hd a ha).2 (R.2.2.1 a ha).1, (R.2.2.1 a ha).2⟩
    · exact ⟨(A.2.2.1 a ha).1, S1.own' (A.2.2.1 a ha).2⟩
  · rcases List.mem_append.mp ha with ha | ha
    · exact ap a (S2.own i a z).2 ha
    · exact A.2.2.2 i a ha z
/-- results into slots, one after the other -/
def setAll (env : PEnv) : List Nat → List Sl → PEnv
  | i :: is, r :: rs => setAll (env.set i r) is rs
  | _, _ => env
def setV (σ : L2.St) : List Nat → List V → L2.St
  | i :: is, v :: vs => setV (σ.set i (some v)) is vs
  | _, _ => σ
theorem setV_length : ∀ (σ : L2.St) (is : List Nat) (vs : List V), (setV σ is vs).length = σ.length
  | σ, [], _ => by unfold setV; rfl
  | σ, i :: is, [] => by unfold setV; rfl
  | σ, i :: is, v :: vs => by
    show (setV (σ.set i (some v)) is vs).length = _
    rw [setV_length, List.length_set]
theorem SR.setAll {K : PySem.W.Frag} {F H : Hp} : ∀ {is : List Nat} {vs : List V} {rs : List Sl} {ar : List Addr} {σ : L2.St} {env : PEnv} {As : Nat → List Addr}, SR K E F H σ env As → AllOk K E F H As vs rs ar → (∀ i ∈ is, i < env.length ∧ E.fix i = none) → is.length = rs.length →
    ∃ As', SR K E F H (setV σ is vs) (setAll env is rs) As'
  | [], _, _, _, σ, env, As, S, A, _, hl => by
    cases A.1 with
    | nil => exact ⟨As, S⟩
    | cons _ _ => cases hl
  | i :: is, _, _, _, σ, env, As, S, A, hi, hl => by
    obtain ⟨h, nd, ow, dj⟩ := A
    cases h with
    | nil => cases hl
    | @cons v r ar br vs rs h1 h2 =>
      have hi0 := hi i List.mem_cons_self
      have nd2 := List.nodup_append.mp nd
      have S2 := S.set (v := v) (r := r) (ar := ar) ⟨h1, nd2.1, fun a ha => ow a (List.mem_append_left _ ha), fun j a ha => dj j a (List.mem_append_left _ ha)⟩ hi0.1 hi0.2
      refine SR.setAll (is := is) (vs := vs) (rs := rs) (ar := br) S2 ⟨h2, nd2.2.1, fun a ha => ow a (List.mem_append_right _ ha), fun j a ha z => ?_⟩ (fun j hj => ?_) (by simpa using hl)
      · rcases setA_mem z with ⟨_, z⟩ | ⟨_, z⟩
        · exact nd2.2.2 a z a ha rfl
        · exact dj j a (List.mem_append_right _ ha) z
      · rw [List.length_set]
        exact hi j (List.mem_cons_of_mem _ hj)
theorem RsAll.lengths {K : PySem.W.Frag} {F H : Hp} : ∀ {vs : List V} {rs : List Sl} {ar : List Addr}, RsAll K F H vs rs ar → vs.length = rs.length
  | _, _, _, .nil => rfl
  | _, _, _, .cons _ r => by rw [List.length_cons, List.length_cons, RsAll.lengths r]
/-- a list of owned things -/
def slM : Sl → Option MO
  | .v d => some (.fz d)
  | .m c => some c
  | .un => none
def slMs : List Sl → Option (List MO)
  | [] => some []
  | r :: rs => match slM r, slMs rs with
    | some c, some cs => some (c :: cs)
    | _, _ => none
theorem RsAll.mp {K : PySem.W.Frag} {F H : Hp} : ∀ {vs : List V} {rs : List Sl} {ar : List Addr} {cs : List MO}, RsAll K F H vs rs ar → slMs rs = some cs → MpAll K F H vs cs ar
  | _, _, _, _, .nil, e => by cases e; exact .nil
  | _, _, _, _, .cons (r := .v d) h r, e => by
    obtain ⟨v, e1, h1, e2⟩ := h
    cases e1
    subst e2
    cases q : slMs ‹List Sl› with
    | none => rw [slMs, q] at e; cases e
    | some cs => rw [slMs, q] at e; cases e; exact .cons (.fz h1) (RsAll.mp r q)
  | _, _, _, _, .cons (r := .m c) h r, e => by
    obtain ⟨v, e1, h1⟩ := h
    cases e1
    cases q : slMs ‹List Sl› with
    | none => rw [slMs, q] at e; cases e
    | some cs => rw [slMs, q] at e; cases e; exact .cons h1 (RsAll.mp r q)
  | _, _, _, _, .cons (r := .un) h r, e => by rw [slMs] at e; cases e
/-- a display of owned things -/
def pLstO (pr : POs) : PO := fun env Q => pr env fun rs env1 => match slMs rs with
  | some cs => rs.length ≤ sizeLine ∧ Q (.m (.lst cs)) env1
  | none => False
theorem l_lstO (h : PA X es (liftAO X.K E pr)) : PE X (.List es pos) (liftO X.K E (pLstO pr)) :=
  pe_w (pe_lst h) fun σ H Q ⟨ts, F, env, As, Q', S, fx, p, k⟩ => ⟨ts, F, env, As, _, S, fx, p, fun vs rs ar F1 H1 env1 As1 S1 f1 A q => by
    split at q
    · rename_i cs ec
      refine ⟨by rw [RsAll.lengths A.1]; exact q.1, fun a ha => ?_⟩
      have g := Gr.made (o := HO.lst vs) S1.sub ha
      have fr : ∀ b ∈ ar, b ≠ a := fun b hb z => RsAll.live A.1 b hb (by rw [z]; exact ha)
      refine k (.ref a) (.m (.lst cs)) (a :: ar) F1 _ env1 As1 (S1.gr g) f1 ⟨⟨_, rfl, .lst upd_same ((RsAll.mp A.1 ec).to (Same.refl F1) fun b hb => upd_ne (fr b hb))⟩, ?_, fun b hb => ?_, fun i b hb z => ?_⟩ q.2
      · exact List.nodup_cons.mpr ⟨fun z => fr a z rfl, A.2.1⟩
      · rcases List.mem_cons.mp hb with e | hb
        · rw [e]
          exact ⟨S1.sub.free ha, (S1.free ha).symm⟩
        · exact A.2.2.1 b hb
      · rcases List.mem_cons.mp hb with e | hb
        · rw [e] at z
          exact S1.live i a z ha
        · exact A.2.2.2 i b hb z
    · exact q.elim⟩
end

/-! ### 17. statements -/
def pNext : PSt := fun D env => D.nx env
def pSeq (p q : PSt) : PSt := fun D env => p { D with nx := q D } env
def pSet (i : Nat) (p : PO) : PSt := fun D env => p env fun r env1 => D.nx (env1.set i r)
def pDrop (p : PO) : PSt := fun D env => p env fun _ env1 => D.nx env1
def pRet (p : PO) : PSt := fun D env => p env D.rt
/-- return of a name: what it owns goes along -/
def pRetName (i : Nat) : PSt := fun D env => match env[i]? with
  | some (.un) => False
  | some r => D.rt r (env.set i .un)
  | none => False
def pRetN : PSt := fun D env => D.rt (.v .none) env
def pIfS (t : PTt) (a b : PSt) : PSt := fun D env => t env fun c env1 => sel c (a D env1) (b D env1)
def pNever : PSt := fun _ _ => False
def pBrk : PSt := fun D env => D.bk env
def pCnt : PSt := fun D env => D.ct env
section
variable {X : Cx} {E : Ent} {st : Stmt} {rest body : List Stmt} {p q : PSt} {e : Expr} {po : PO} {pos : Pos}
theorem KS.to {K : PySem.W.Frag} {σ σ' : L2.St} {F F' : Hp} {D : Ends} {D' : PEnds} (k : KS K E σ F D D') (hl : σ'.length = σ.length) (f : Same F F') : KS K E σ' F' D D' :=
  ⟨fun σ2 F2 H2 env2 As2 h S f2 => k.nx σ2 F2 H2 env2 As2 (h.trans hl) S (f.trans f2), fun σ2 F2 H2 env2 As2 h S f2 => k.bk σ2 F2 H2 env2 As2 (h.trans hl) S (f.trans f2),
    fun σ2 F2 H2 env2 As2 h S f2 => k.ct σ2 F2 H2 env2 As2 (h.trans hl) S (f.trans f2), fun σ2 F2 H2 env2 As2 h S f2 => k.rt σ2 F2 H2 env2 As2 (h.trans hl) S (f.trans f2)⟩
theorem FixIn.to {σ σ' : L2.St} (f : FixIn E σ) (hl : σ'.length = σ.length) : FixIn E σ' := fun i w e => by rw [hl]; exact f i w e
theorem ls_nil : PSs X [] (liftS X.K E pNext) := pss_w pss_nil fun D σ H ⟨F, env, As, D', S, fx, p, k⟩ => k.nx σ F H env As rfl S (Same.refl F) p
theorem ls_cons (h1 : PS X st (liftS X.K E p)) (h2 : PSs X rest (liftS X.K E q)) : PSs X (st :: rest) (liftS X.K E (pSeq p q)) :=
  pss_w (pss_cons h1 h2) fun D σ H ⟨F, env, As, D', S, fx, p, k⟩ => ⟨F, env, As, _, S, fx, p, fun σ2 F2 H2 env2 As2 hl S2 f2 q2 => ⟨F2, env2, As2, D', S2, fx.to hl, q2, k.to hl f2⟩, k.bk, k.ct, k.rt⟩
theorem ls_one (h1 : PS X st (liftS X.K E p)) : PSs X [st] (liftS X.K E p) := pss_one h1
theorem app_nil_SR {K : PySem.W.Frag} {F H : Hp} {σ : L2.St} {env : PEnv} {As : Nat → List Addr} (S : SR K E F H σ env As) : SR K E F H (σ ++ []) env As := by rw [List.append_nil]; exact S
theorem nil_app_SR {K : PySem.W.Frag} {F H : Hp} {σ : L2.St} {env : PEnv} {As : Nat → List Addr} (S : SR K E F H (σ ++ []) env As) : SR K E F H σ env As := by rw [List.append_nil] at S; exact S
/-- name = value -/
theorem ls_setT {i : Nat} {te : TE} (hN : i < X.N.length) (hf : E.fix i = none) (w : ∀ σ H Q, liftO X.K E po σ H Q → te σ H Q) (h : PS X st (tAsg te (gName i))) : PS X st (liftS X.K E (pSet i po)) := by
  refine ⟨fun pins s σ H D I ⟨F, env, As, D', S, fx, p, k⟩ => h.run pins s σ H D I (w σ H _ ⟨[], F, env, As, _, app_nil_SR S, fx, p, fun v r ar F1 H1 env1 As1 S1 f1 R q => ?_⟩)⟩
  have S1' := nil_app_SR S1
  have hi : i < env1.length := by rw [← S1'.len, I.len]; exact hN
  exact k.nx _ F1 H1 _ _ (List.length_set ..) (S1'.set R hi hf) f1 q
theorem ls_set {i : Nat} {x : Str} {px : Pos} (hN : i < X.N.length) (hf : E.fix i = none) (h : ∀ te, PE X e te → PS X (.Assign [.Name x px] e pos) (tAsg te (gName i))) (he : PE X e (liftO X.K E po)) : PS X (.Assign [.Name x px] e pos) (liftS X.K E (pSet i po)) :=
  ls_setT hN hf (fun _ _ _ q => q) (h _ he)
theorem ls_expr (he : PE X e (liftO X.K E po)) (hs : swapsWith e none pos.line X.env = pure false := by rfl) : PS X (.Expr e pos) (liftS X.K E (pDrop po)) :=
  ps_w (ps_expr he hs) fun D σ H ⟨F, env, As, D', S, fx, p, k⟩ => ⟨[], F, env, As, _, app_nil_SR S, fx, p, fun v r ar F1 H1 env1 As1 S1 f1 R q => k.nx σ F1 H1 env1 As1 rfl (nil_app_SR S1) f1 q⟩
theorem ls_ret (he : PE X e (liftO X.K E po)) : PS X (.Return (some e) pos) (liftS X.K E (pRet po)) :=
  ps_w (ps_ret he) fun D σ H ⟨F, env, As, D', S, fx, p, k⟩ => ⟨[], F, env, As, _, app_nil_SR S, fx, p, fun v r ar F1 H1 env1 As1 S1 f1 R q => k.rt σ F1 H1 env1 As1 rfl (nil_app_SR S1) f1 v r ar R q⟩
theorem ls_retName (i : Nat) {x : Str} {px : Pos} (h : PE X (.Name x px) (tVar i)) : PS X (.Return (some (.Name x px)) pos) (liftS X.K E (pRetName i)) :=
  ps_w (ps_ret h) fun D σ H ⟨F, env, As, D', S, fx, p, k⟩ => by
    unfold pRetName at p
    split at p
    · exact p.elim
    · rename_i r nu er
      obtain ⟨x', h1, h2⟩ := S.slot i r er
      obtain ⟨v, ev⟩ : ∃ v, x' = some v := by
        cases r with
        | un => exact absurd rfl nu
        | v d => obtain ⟨v, e, _⟩ := h2; exact ⟨v, e⟩
        | m c => obtain ⟨v, e, _⟩ := h2; exact ⟨v, e⟩
      subst ev
      obtain ⟨S2, R2⟩ := S.move er h1
      exact ⟨v, h1, k.rt σ F H _ _ rfl S2 (Same.refl F) v r _ R2 p⟩
    · exact p.elim
theorem ls_retN : PS X (.Return none pos) (liftS X.K E pRetN) := ps_w ps_retN fun D σ H ⟨F, env, As, D', S, fx, p, k⟩ => k.rt σ F H env As rfl S (Same.refl F) .non (.v .none) [] (RsOk.v .non) p
theorem ls_if {c : Expr} {a b : List Stmt} {t : PTt} {pb : PSt} (hc : PT X c (liftT X.K E t)) (ha : PSs X a (liftS X.K E p)) (hb : PSs X b (liftS X.K E pb)) : PS X (.If c a b pos) (liftS X.K E (pIfS t p pb)) :=
  ps_w (ps_if hc ha hb) fun D σ H ⟨F, env, As, D', S, fx, p, k⟩ => ⟨[], F, env, As, _, app_nil_SR S, fx, p, fun c F1 H1 env1 As1 S1 f1 q => by
    cases c with
    | true =>
      rw [sel_tt] at q; rw [if_pos rfl]
      exact ⟨F1, env1, As1, D', nil_app_SR S1, fx, q, k.to rfl f1⟩
    | false =>
      rw [sel_ff] at q; rw [if_neg Bool.false_ne_true]
      exact ⟨F1, env1, As1, D', nil_app_SR S1, fx, q, k.to rfl f1⟩⟩
theorem ls_never : PS X st (liftS X.K E pNever) := ps_w ps_never fun D σ H ⟨F, env, As, D', S, fx, p, k⟩ => p
theorem ls_pass : PS X (.Pass pos) (liftS X.K E pNext) := ps_w ps_pass fun D σ H ⟨F, env, As, D', S, fx, p, k⟩ => k.nx σ F H env As rfl S (Same.refl F) p
theorem ls_break : PS X (.Break pos) (liftS X.K E pBrk) := ps_w ps_break fun D σ H ⟨F, env, As, D', S, fx, p, k⟩ => k.bk σ F H env As rfl S (Same.refl F) p
theorem ls_continue : PS X (.Continue pos) (liftS X.K E pCnt) := ps_w ps_continue fun D σ H ⟨F, env, As, D', S, fx, p, k⟩ => k.ct σ F H env As rfl S (Same.refl F) p
theorem ls_doc {x j pos'} : PS X (.Expr (.Constant (.str x) j pos) pos') (liftS X.K E pNext) := ps_w ps_doc fun D σ H ⟨F, env, As, D', S, fx, p, k⟩ => k.nx σ F H env As rfl S (Same.refl F) p
/-- while: an invariant with a measure -/
@[irreducible] def pWhile (c : PTt) (body : PSt) : PSt := fun D env => ∃ J : Nat → PEnv → Prop, (∃ m, J m env) ∧ ∀ m env, J m env → c env fun b env1 => sel b (body { D with nx := fun e => ∃ m', m' < m ∧ J m' e, ct := fun e => ∃ m', m' < m ∧ J m' e, bk := D.nx } env1) (D.nx env1)
theorem ls_while {c : Expr} {t : PTt} (hp : PassesOwn (model X.prog X.w) X.A X.env X.xe) (hc : PT X c (liftT X.K E t)) (hb : PSs X body (liftS X.K E p)) : PS X (.While c body [] pos) (liftS X.K E (pWhile t p)) :=
  ps_w (ps_while hp hc hb) fun D σ0 H ⟨F0, env, As, D', S, fx, p, k⟩ => by
    unfold pWhile at p
    obtain ⟨J, ⟨m0, j0⟩, turn⟩ := p
    refine ⟨fun m σ H => σ.length = σ0.length ∧ ∃ F env As, SR X.K E F H σ env As ∧ Same F0 F ∧ J m env, ⟨m0, rfl, F0, env, As, S, Same.refl F0, j0⟩, ?_⟩
    rintro m σ H ⟨hl, F, env, As, S, f, j⟩
    refine ⟨[], F, env, As, _, app_nil_SR S, fx.to hl, turn m env j, fun b F1 H1 env1 As1 S1 f1 q => ?_⟩
    cases b with
    | true =>
      rw [sel_tt] at q; rw [if_pos rfl]
      have go : ∀ σ' F' H' env' As', σ'.length = σ.length → SR X.K E F' H' σ' env' As' → Same F1 F' → (∃ m', m' < m ∧ J m' env') → ∃ m', m' < m ∧ (σ'.length = σ0.length ∧ ∃ F env As, SR X.K E F H' σ' env As ∧ Same F0 F ∧ J m' env) :=
        fun σ' F' H' env' As' h S' f' ⟨m', hm, j'⟩ => ⟨m', hm, h.trans hl, F', env', As', S', (f.trans f1).trans f', j'⟩
      refine ⟨_, fun σ' H' z => z, F1, env1, As1, _, nil_app_SR S1, fx.to hl, q, go, ?_, go, ?_⟩
      · exact fun σ' F' H' env' As' h S' f' q' => k.nx σ' F' H' env' As' (h.trans hl) S' ((f.trans f1).trans f') q'
      · exact fun σ' F' H' env' As' h S' f' => k.rt σ' F' H' env' As' (h.trans hl) S' ((f.trans f1).trans f')
    | false =>
      rw [sel_ff] at q; rw [if_neg Bool.false_ne_true]
      exact k.nx σ F1 H1 env1 As1 hl (nil_app_SR S1) (f.trans f1) q
end
end PL

namespace PL
open PySem PySem.Spec PyProof.Rows L2

/-! ### 18. what is walked -/
/-- the iterator yields the data ds, one after the other, wherever F stands -/
def Feeds (K : PySem.W.Frag) (F : Hp) (J : It) (ds : List PyData) : Prop := ∀ i H Fc, Same F Fc → Same Fc H →
  (∀ d, ds[i]? = some d → J.go i H ∧ ∀ x H', J.yld i H x H' → ∃ F', Gr Fc H F' H' ∧ Fp F' x d) ∧ (ds.length ≤ i → J.stop i H)
abbrev PIt := PEnv → (List PyData → PEnv → Prop) → Prop
def liftI (K : PySem.W.Frag) (E : Ent) (p : PIt) : TI := fun σ H R => ∃ ts F env As Q', SR K E F H (σ ++ ts) env As ∧ FixIn E σ ∧ p env Q' ∧
  ∀ ds J F' H' env' As', SR K E F' H' (σ ++ ts) env' As' → Same F F' → Feeds K F' J ds → Q' ds env' → R J H'
theorem pi_w {X : Cx} {tg e : Expr} {t t' : TI} (h : PI X tg e t) (w : ∀ σ H R, t' σ H R → t σ H R) : PI X tg e t' := ⟨fun pins s σ H R I q => h.run pins s σ H R I (w _ _ _ q)⟩
def itList (pa : PX) : PIt := fun env Q => pa env fun d env1 => match d with
  | .list ds => Q ds env1
  | _ => False
def itTup (pa : PX) : PIt := fun env Q => pa env fun d env1 => match d with
  | .tuple ds => Q ds env1
  | _ => False
def rangeD (lo c : Int) (n : Nat) : List PyData := (List.range n).map fun i => .int (lo + (i : Nat) * c)
def itRng1 (pa : PAs) : PIt := fun env Q => pa env fun gs env1 => match gs with
  | [.d (.int j)] => (-(2 ^ 62) ≤ j ∧ j < 2 ^ 62) ∧ Q (rangeD 0 1 j.toNat) env1
  | _ => False
def itRng2 (pa : PAs) : PIt := fun env Q => pa env fun gs env1 => match gs with
  | [.d (.int i), .d (.int j)] => (-(2 ^ 62) ≤ i ∧ i < 2 ^ 62 ∧ -(2 ^ 62) ≤ j ∧ j < 2 ^ 62) ∧ Q (rangeD i 1 (j - i).toNat) env1
  | _ => False
/-- a range downward by one -/
def itRng3 (pa : PAs) : PIt := fun env Q => pa env fun gs env1 => match gs with
  | [.d (.int i), .d (.int j), .d (.int c)] => (c = -1 ∧ -(2 ^ 62) ≤ i ∧ i < 2 ^ 62 ∧ -(2 ^ 62) ≤ j ∧ j < 2 ^ 62) ∧ Q (rangeD i (-1) (i - j).toNat) env1
  | _ => False
def enumD : Nat → List PyData → List PyData
  | _, [] => []
  | n, d :: ds => .tuple [.int n, d] :: enumD (n + 1) ds
def itEnum (pa : PAs) : PIt := fun env Q => pa env fun gs env1 => match gs with
  | [.d (.list ds)] => Q (enumD 0 ds) env1
  | _ => False
def zipD : List PyData → List PyData → List PyData
  | x :: xs, y :: ys => .tuple [x, y] :: zipD xs ys
  | _, _ => []
def itZip (pa : PAs) : PIt := fun env Q => pa env fun gs env1 => match gs with
  | [.d (.list ds), .d (.list es)] => Q (zipD ds es) env1
  | _ => False
def itRev (pa : PAs) : PIt := fun env Q => pa env fun gs env1 => match gs with
  | [.d (.list ds)] => Q ds.reverse env1
  | _ => False
/-- the script, by the slot that holds it -/
def itScr (i : Nat) : PIt := fun env Q => match env[i]? with
  | some (.m (.scr ns)) => Q (ns.map .int) env
  | _ => False
section
variable {X : Cx} {E : Ent} {K : PySem.W.Frag} {tg e : Expr} {pa : PX} {p pos : Pos}
theorem seqL_inj {H : Hp} {a : Addr} {xs ys : List V} (h : H a = some (.lst xs)) (q : SqL K H a ys) (hk : ∀ o, K.lookup a = some o → H a = none) : ys = xs := by
  rcases q with (q | ⟨o, q⟩) | ⟨o, its, n, q, _⟩
  · rw [h] at q; cases q; rfl
  · rw [h] at q; cases q
  · rw [hk o q] at h; cases h
theorem feeds_list {F : Hp} {a : Addr} {vs : List V} {ds : List PyData} (h : F a = some (.lst vs)) (r : FpAll F vs ds) : Feeds K F (Itl K a) ds := fun i H Fc f s => by
  have hH := s _ _ (f _ _ h)
  refine ⟨fun d e => ?_, fun e => ⟨vs, SqL.of hH, by rw [r.length]; exact e⟩⟩
  obtain ⟨v, h1, h2⟩ := r.get e
  refine ⟨⟨vs, v, SqL.of hH, h1⟩, fun x H' y => ?_⟩
  obtain ⟨rfl, y⟩ := y
  have := y vs (SqL.of hH)
  rw [h1] at this
  cases this
  exact ⟨Fc, Gr.refl s, h2.to f⟩
theorem feeds_tup {F : Hp} {a : Addr} {vs : List V} {ds : List PyData} (h : F a = some (.tup vs)) (r : FpAll F vs ds) : Feeds K F (Itt K a) ds := fun i H Fc f s => by
  have hH := s _ _ (f _ _ h)
  refine ⟨fun d e => ?_, fun e => ⟨vs, SqT.of hH, by rw [r.length]; exact e⟩⟩
  obtain ⟨v, h1, h2⟩ := r.get e
  refine ⟨⟨vs, v, SqT.of hH, h1⟩, fun x H' y => ?_⟩
  obtain ⟨rfl, y⟩ := y
  have := y vs (SqT.of hH)
  rw [h1] at this
  cases this
  exact ⟨Fc, Gr.refl s, h2.to f⟩
theorem feeds_scr {F : Hp} {a : Addr} {ns : List Int} (h : SqL K F a (ns.map V.int)) : Feeds K F (Itl K a) (ns.map .int) := fun i H Fc f s => by
  have hH := s.seq (f.seq h)
  refine ⟨fun d e => ?_, fun e => ⟨_, hH, by rw [List.length_map] at e ⊢; exact e⟩⟩
  rw [List.getElem?_map] at e
  obtain ⟨n, e1, e2⟩ := Option.map_eq_some_iff.mp e
  have hv : (ns.map V.int)[i]? = some (V.int n) := by rw [List.getElem?_map, e1]; rfl
  refine ⟨⟨_, _, hH, hv⟩, fun x H' y => ?_⟩
  obtain ⟨rfl, y⟩ := y
  have := y _ hH
  rw [hv] at this
  cases this
  rw [← e2]
  exact ⟨Fc, Gr.refl s, .int n⟩
theorem rangeD_get {lo c : Int} {n i : Nat} {d : PyData} (e : (rangeD lo c n)[i]? = some d) : i < n ∧ d = .int (lo + (i : Nat) * c) := by
  unfold rangeD at e
  rw [List.getElem?_map] at e
  obtain ⟨j, e1, e2⟩ := Option.map_eq_some_iff.mp e
  have hi := (List.getElem?_eq_some_iff.mp e1).1
  rw [List.length_range] at hi
  rw [List.getElem?_range hi] at e1
  cases e1
  exact ⟨hi, e2.symm⟩
theorem rangeD_length {lo c : Int} {n : Nat} : (rangeD lo c n).length = n := by unfold rangeD; rw [List.length_map, List.length_range]
theorem feeds_rng {F : Hp} {lo : Int} {n : Nat} : Feeds K F (Itr lo n) (rangeD lo 1 n) := fun i H Fc f s => by
  refine ⟨fun d e => ?_, fun e => by rw [rangeD_length] at e; exact e⟩
  obtain ⟨hi, rfl⟩ := rangeD_get e
  refine ⟨hi, fun x H' y => ?_⟩
  obtain ⟨rfl, rfl⟩ := y
  rw [Int.mul_one]
  exact ⟨Fc, Gr.refl s, .int _⟩
theorem feeds_rngC {F : Hp} {lo c : Int} {n : Nat} : Feeds K F (Itc lo c n) (rangeD lo c n) := fun i H Fc f s => by
  refine ⟨fun d e => ?_, fun e => by rw [rangeD_length] at e; exact e⟩
  obtain ⟨hi, rfl⟩ := rangeD_get e
  refine ⟨hi, fun x H' y => ?_⟩
  obtain ⟨rfl, rfl⟩ := y
  exact ⟨Fc, Gr.refl s, .int _⟩
theorem enumD_get : ∀ {ds : List PyData} {n i : Nat} {d : PyData}, (enumD n ds)[i]? = some d → ∃ x, ds[i]? = some x ∧ d = .tuple [.int ((n + i : Nat) : Int), x]
  | x :: ds, n, 0, d, e => by
    cases e
    exact ⟨x, rfl, rfl⟩
  | x :: ds, n, i + 1, d, e => by
    have e' : (enumD (n + 1) ds)[i]? = some d := e
    obtain ⟨y, h1, h2⟩ := enumD_get e'
    refine ⟨y, h1, ?_⟩
    rw [h2]
    have : n + 1 + i = n + (i + 1) := by omega
    rw [this]
theorem enumD_length : ∀ (n : Nat) (ds : List PyData), (enumD n ds).length = ds.length
  | _, [] => rfl
  | n, d :: ds => by
    show (enumD (n + 1) ds).length + 1 = _
    rw [enumD_length]
    rfl
theorem feeds_enum {F : Hp} {a : Addr} {vs : List V} {ds : List PyData} (h : F a = some (.lst vs)) (r : FpAll F vs ds) : Feeds K F (Ite K a) (enumD 0 ds) := fun i H Fc f s => by
  have hH := s _ _ (f _ _ h)
  refine ⟨fun d e => ?_, fun e => ⟨vs, SqL.of hH, by rw [r.length]; rw [enumD_length] at e; exact e⟩⟩
  obtain ⟨x, e1, rfl⟩ := enumD_get e
  obtain ⟨v, h1, h2⟩ := r.get e1
  refine ⟨⟨vs, v, SqL.of hH, h1⟩, fun z H' y => ?_⟩
  obtain ⟨T, w, rfl, hT, rfl, y⟩ := y
  have := y vs (SqL.of hH)
  rw [h1] at this
  cases this
  have g := Gr.laid (o := HO.tup [.int (i : Nat), v]) s hT
  refine ⟨_, g, .tup upd_same (.cons ?_ (.cons ((h2.to f).to g.ff) .nil))⟩
  rw [Nat.zero_add]
  exact .int _
theorem zipD_get : ∀ {ds es : List PyData} {i : Nat} {d : PyData}, (zipD ds es)[i]? = some d → ∃ x y, ds[i]? = some x ∧ es[i]? = some y ∧ d = .tuple [x, y]
  | x :: ds, y :: es, 0, d, e => by
    cases e
    exact ⟨x, y, rfl, rfl, rfl⟩
  | x :: ds, y :: es, i + 1, d, e => zipD_get (ds := ds) (es := es) (show (zipD ds es)[i]? = some d from e)
  | [], _, _, _, e => by cases e
  | _ :: _, [], _, _, e => by cases e
theorem zipD_length : ∀ (ds es : List PyData), (zipD ds es).length = min ds.length es.length
  | x :: ds, y :: es => by
    show (zipD ds es).length + 1 = _
    rw [zipD_length, List.length_cons, List.length_cons]
    omega
  | [], es => by simp [zipD]
  | _ :: _, [] => by simp [zipD]
theorem feeds_zip {F : Hp} {a b : Addr} {vs us : List V} {ds es : List PyData} (h : F a = some (.lst vs)) (r : FpAll F vs ds) (h' : F b = some (.lst us)) (r' : FpAll F us es) : Feeds K F (Itz K a b) (zipD ds es) := fun i H Fc f s => by
  have hH := s _ _ (f _ _ h)
  have hH' := s _ _ (f _ _ h')
  refine ⟨fun d e => ?_, fun e => ⟨vs, us, SqL.of hH, SqL.of hH', by rw [r.length, r'.length]; rw [zipD_length] at e; omega⟩⟩
  obtain ⟨x, y, e1, e2, rfl⟩ := zipD_get e
  obtain ⟨v, h1, h2⟩ := r.get e1
  obtain ⟨u, h3, h4⟩ := r'.get e2
  refine ⟨⟨vs, us, v, u, SqL.of hH, SqL.of hH', h1, h3⟩, fun z H' y => ?_⟩
  obtain ⟨T, w, w', rfl, hT, rfl, y1, y2⟩ := y
  have := y1 vs (SqL.of hH)
  rw [h1] at this
  cases this
  have := y2 us (SqL.of hH')
  rw [h3] at this
  cases this
  have g := Gr.laid (o := HO.tup [v, u]) s hT
  exact ⟨_, g, .tup upd_same (.cons ((h2.to f).to g.ff) (.cons ((h4.to f).to g.ff) .nil))⟩
theorem feeds_rev {F : Hp} {a : Addr} {vs : List V} {ds : List PyData} (h : F a = some (.lst vs)) (r : FpAll F vs ds) : Feeds K F (Itv K a vs.length) ds.reverse := fun i H Fc f s => by
  have hH := s _ _ (f _ _ h)
  have hl := r.length
  refine ⟨fun d e => ?_, fun e => by rw [List.length_reverse] at e; show vs.length ≤ i; omega⟩
  have hi := (List.getElem?_eq_some_iff.mp e).1
  rw [List.length_reverse] at hi
  rw [List.getElem?_reverse hi, ← hl] at e
  obtain ⟨v, h1, h2⟩ := r.get e
  refine ⟨⟨by omega, vs, v, SqL.of hH, h1⟩, fun x H' y => ?_⟩
  obtain ⟨rfl, y⟩ := y
  have := y vs (SqL.of hH)
  rw [h1] at this
  cases this
  exact ⟨Fc, Gr.refl s, h2.to f⟩

theorem li_list (h : PE X e (liftE X.K E pa)) : PI X tg e (liftI X.K E (itList pa)) := pi_w (pi_list h) fun σ H R ⟨ts, F, env, As, Q', S, fx, p, k⟩ => ⟨ts, F, env, As, _, S, fx, p, fun v d F1 H1 env1 As1 S1 f1 h q => by
  split at q
  · obtain ⟨a, vs, rfl, ha, ra⟩ := h.lst_inv
    exact ⟨a, rfl, ⟨vs, SqL.of (S1.sub _ _ ha)⟩, k _ _ F1 H1 env1 As1 S1 f1 (feeds_list ha ra) q⟩
  · exact q.elim⟩
theorem li_tup (h : PE X e (liftE X.K E pa)) : PI X tg e (liftI X.K E (itTup pa)) := pi_w (pi_tup h) fun σ H R ⟨ts, F, env, As, Q', S, fx, p, k⟩ => ⟨ts, F, env, As, _, S, fx, p, fun v d F1 H1 env1 As1 S1 f1 h q => by
  split at q
  · obtain ⟨a, vs, rfl, ha, ra⟩ := h.tup_inv
    exact ⟨a, rfl, ⟨vs, SqT.of (S1.sub _ _ ha)⟩, k _ _ F1 H1 env1 As1 S1 f1 (feeds_tup ha ra) q⟩
  · exact q.elim⟩
theorem li_scr (i : Nat) {x : Str} {px : Pos} (h : PE X (.Name x px) (tVar i)) (hN : i < X.N.length) : PI X tg (.Name x px) (liftI X.K E (itScr i)) := by
  refine ⟨fun pins s σ H R I q => (pi_list h).run pins s σ H R I ?_⟩
  obtain ⟨ts, F, env, As, Q', S, fx, p, k⟩ := q
  have hi : i < σ.length := by rw [I.len]; exact hN
  unfold itScr at p
  split at p
  · rename_i ns e
    obtain ⟨x', h1, v, e1, h2⟩ := S.slot i _ e
    subst e1
    generalize As i = ai at h2
    cases h2 with
    | scr hs => exact ⟨_, app_get hi h1, _, rfl, ⟨_, S.sub.seq hs⟩, k _ _ F H env As S (Same.refl F) (feeds_scr hs) p⟩
  · exact p.elim
theorem paired_one {F : Hp} {σ : L2.St} {vs : List V} {d : PyData} (P : Paired (AgOk F σ) vs [.d d]) : ∃ v, vs = [v] ∧ Fp F v d := by
  cases P with
  | cons h r =>
    cases r
    exact ⟨_, rfl, h⟩
theorem paired_two {F : Hp} {σ : L2.St} {vs : List V} {d e : PyData} (P : Paired (AgOk F σ) vs [.d d, .d e]) : ∃ v u, vs = [v, u] ∧ Fp F v d ∧ Fp F u e := by
  cases P with
  | cons h r =>
    obtain ⟨u, rfl, hu⟩ := paired_one r
    exact ⟨_, u, rfl, h, hu⟩
theorem paired_three {F : Hp} {σ : L2.St} {vs : List V} {d e g : PyData} (P : Paired (AgOk F σ) vs [.d d, .d e, .d g]) : ∃ v u w, vs = [v, u, w] ∧ Fp F v d ∧ Fp F u e ∧ Fp F w g := by
  cases P with
  | cons h r =>
    obtain ⟨u, w, rfl, hu, hw⟩ := paired_two r
    exact ⟨_, u, w, rfl, h, hu, hw⟩
variable {pas : PAs} {a b c : Expr}
theorem li_rng1 (hg : Gl X "range") (hm : X.mg "range" = none) (ha : PA X [a] (liftA X.K E pas)) (hs : starEach [a] X.env = [(false, eval a X.env)] := by rfl) : PI X tg (.Call (.Name "range" p) [a] [] pos) (liftI X.K E (itRng1 pas)) :=
  pi_w (pi_range1 hg hm ha hs) fun σ H R ⟨ts, F, env, As, Q', S, fx, p, k⟩ => ⟨ts, F, env, As, _, S, fx, p, fun vs gs F1 H1 env1 As1 S1 f1 P q => by
    split at q
    · obtain ⟨v, rfl, hv⟩ := paired_one P
      exact ⟨_, by rw [hv.int_inv], q.1.1, q.1.2, k _ _ F1 H1 env1 As1 S1 f1 feeds_rng q.2⟩
    · exact q.elim⟩
theorem li_rng2 (hg : Gl X "range") (hm : X.mg "range" = none) (ha : PA X [a, b] (liftA X.K E pas)) (hs : starEach [a, b] X.env = [(false, eval a X.env), (false, eval b X.env)] := by rfl) (hs2 : starEach [b] X.env = [(false, eval b X.env)] := by rfl) : PI X tg (.Call (.Name "range" p) [a, b] [] pos) (liftI X.K E (itRng2 pas)) :=
  pi_w (pi_range2 hg hm ha hs hs2) fun σ H R ⟨ts, F, env, As, Q', S, fx, p, k⟩ => ⟨ts, F, env, As, _, S, fx, p, fun vs gs F1 H1 env1 As1 S1 f1 P q => by
    split at q
    · obtain ⟨v, u, rfl, hv, hu⟩ := paired_two P
      exact ⟨_, _, by rw [hv.int_inv, hu.int_inv], q.1, k _ _ F1 H1 env1 As1 S1 f1 feeds_rng q.2⟩
    · exact q.elim⟩
theorem li_rng3 (h0 : ∀ ta, PA X [a, b, c] ta → PI X tg e (iRng3 ta)) (ha : PA X [a, b, c] (liftA X.K E pas)) : PI X tg e (liftI X.K E (itRng3 pas)) :=
  pi_w (h0 _ ha) fun σ H R ⟨ts, F, env, As, Q', S, fx, p, k⟩ => ⟨ts, F, env, As, _, S, fx, p, fun vs gs F1 H1 env1 As1 S1 f1 P q => by
    split at q
    · obtain ⟨v, u, w, rfl, hv, hu, hw⟩ := paired_three P
      obtain ⟨⟨rfl, q1, q2, q3, q4⟩, q⟩ := q
      exact ⟨_, _, -1, _, by rw [hv.int_inv, hu.int_inv, hw.int_inv], RgC.neg q1 q2 q3 q4, k _ _ F1 H1 env1 As1 S1 f1 feeds_rngC q⟩
    · exact q.elim⟩
theorem li_enum (h0 : ∀ ta, PA X [a] ta → PI X tg e (iEnum X.K ta)) (ha : PA X [a] (liftA X.K E pas)) : PI X tg e (liftI X.K E (itEnum pas)) :=
  pi_w (h0 _ ha) fun σ H R ⟨ts, F, env, As, Q', S, fx, p, k⟩ => ⟨ts, F, env, As, _, S, fx, p, fun vs gs F1 H1 env1 As1 S1 f1 P q => by
    split at q
    · obtain ⟨v, rfl, hv⟩ := paired_one P
      obtain ⟨a, us, rfl, ha, ra⟩ := hv.lst_inv
      exact ⟨a, us, rfl, SqL.of (S1.sub _ _ ha), k _ _ F1 H1 env1 As1 S1 f1 (feeds_enum ha ra) q⟩
    · exact q.elim⟩
theorem li_zip (h0 : ∀ ta, PA X [a, b] ta → PI X tg e (iZip X.K ta)) (ha : PA X [a, b] (liftA X.K E pas)) : PI X tg e (liftI X.K E (itZip pas)) :=
  pi_w (h0 _ ha) fun σ H R ⟨ts, F, env, As, Q', S, fx, p, k⟩ => ⟨ts, F, env, As, _, S, fx, p, fun vs gs F1 H1 env1 As1 S1 f1 P q => by
    split at q
    · obtain ⟨v, u, rfl, hv, hu⟩ := paired_two P
      obtain ⟨a, us, rfl, ha, ra⟩ := hv.lst_inv
      obtain ⟨b, ws, rfl, hb, rb⟩ := hu.lst_inv
      exact ⟨a, b, us, ws, rfl, SqL.of (S1.sub _ _ ha), SqL.of (S1.sub _ _ hb), k _ _ F1 H1 env1 As1 S1 f1 (feeds_zip ha ra hb rb) q⟩
    · exact q.elim⟩
theorem li_rev (h0 : ∀ ta, PA X [a] ta → PI X tg e (iRev X.K ta)) (ha : PA X [a] (liftA X.K E pas)) : PI X tg e (liftI X.K E (itRev pas)) :=
  pi_w (h0 _ ha) fun σ H R ⟨ts, F, env, As, Q', S, fx, p, k⟩ => ⟨ts, F, env, As, _, S, fx, p, fun vs gs F1 H1 env1 As1 S1 f1 P q => by
    split at q
    · obtain ⟨v, rfl, hv⟩ := paired_one P
      obtain ⟨a, us, rfl, ha, ra⟩ := hv.lst_inv
      exact ⟨a, us, rfl, SqL.of (S1.sub _ _ ha), k _ _ F1 H1 env1 As1 S1 f1 (feeds_rev ha ra) q⟩
    · exact q.elim⟩
end

/-! ### 19. targets -/
inductive Tg where
  | nm (i : Nat)
  | tup (ts : List Tg)
mutual
def tgT (K : PySem.W.Frag) : Tg → TG
  | .nm i => gName i
  | .tup ts => fun v σ H Q => gTup K (tgN ts) (tgTs K ts) v σ H Q ∨ gUnl K (tgN ts) (tgTs K ts) v σ H Q
def tgTs (K : PySem.W.Frag) : List Tg → TGs
  | [] => gNil
  | t :: ts => gCons (tgT K t) (tgTs K ts)
def tgN : List Tg → Nat
  | [] => 0
  | _ :: ts => tgN ts + 1
end
theorem pg_or {X : Cx} {e : Expr} {t u : TG} (h1 : PG X e t) (h2 : PG X e u) : PG X e fun v σ H Q => t v σ H Q ∨ u v σ H Q :=
  ⟨fun pins s σ H v w Q I r q => q.elim (h1.run pins s σ H v w Q I r) (h2.run pins s σ H v w Q I r)⟩
mutual
/-- what a target binds -/
def tgB : Tg → PyData → Option (List (Nat × PyData))
  | .nm i, d => some [(i, d)]
  | .tup ts, .tuple ds => tgBs ts ds
  | .tup ts, .list ds => tgBs ts ds
  | .tup _, _ => none
def tgBs : List Tg → List PyData → Option (List (Nat × PyData))
  | [], [] => some []
  | t :: ts, d :: ds => match tgB t d, tgBs ts ds with
    | some a, some b => some (a ++ b)
    | _, _ => none
  | _, _ => none
end
mutual
/-- the slots of a target -/
def Tg.is : Tg → List Nat
  | .nm i => [i]
  | .tup ts => Tg.iss ts
def Tg.iss : List Tg → List Nat
  | [] => []
  | t :: ts => t.is ++ Tg.iss ts
end
def setDs (env : PEnv) : List (Nat × PyData) → PEnv
  | [] => env
  | (i, d) :: r => setDs (env.set i (.v d)) r
def setVs (σ : L2.St) : List (Nat × V) → L2.St
  | [] => σ
  | (i, v) :: r => setVs (σ.set i (some v)) r
/-- what a target does, without a heap -/
def tgP (t : Tg) (d : PyData) (env : PEnv) (Q : PEnv → Prop) : Prop := match tgB t d with
  | some bs => Q (setDs env bs)
  | none => False
theorem setVs_app (σ : L2.St) : ∀ (a b : List (Nat × V)), setVs σ (a ++ b) = setVs (setVs σ a) b := fun a b => by
  induction a generalizing σ with
  | nil => rfl
  | cons x r ih => exact ih _
theorem setVs_length : ∀ (ws : List (Nat × V)) (σ : L2.St), (setVs σ ws).length = σ.length
  | [], _ => rfl
  | (i, v) :: r, σ => by
    show (setVs (σ.set i (some v)) r).length = _
    rw [setVs_length r, List.length_set]
theorem wipe_set {vs : List Nat} {i : Nat} {x : Option V} : ∀ {σ : L2.St}, i ∈ vs → wipe (σ.set i x) vs = wipe σ vs := by
  induction vs with
  | nil => intro σ h; cases h
  | cons v vs ih =>
    intro σ h
    unfold wipe
    by_cases e : i ∈ vs
    · rw [ih e]
    · have hv : i = v := (List.mem_cons.mp h).elim id fun z => absurd z e
      subst hv
      have aux : ∀ (us : List Nat) (σ : L2.St), (wipe (σ.set i x) us).set i none = (wipe σ us).set i none := fun us => by
        induction us with
        | nil =>
          intro σ
          unfold wipe
          rw [List.set_set]
        | cons u us ih2 =>
          intro σ
          unfold wipe
          by_cases hu : u = i
          · subst hu
            rw [List.set_set, List.set_set]
            exact ih2 σ
          · rw [List.set_comm _ _ hu, List.set_comm _ _ hu, ih2 σ]
      exact aux vs σ
theorem wipe_setVs {vs : List Nat} : ∀ {ws : List (Nat × V)} {σ : L2.St}, (∀ p ∈ ws, p.1 ∈ vs) → wipe (setVs σ ws) vs = wipe σ vs
  | [], _, _ => rfl
  | (i, v) :: r, σ, h => by
    show wipe (setVs (σ.set i (some v)) r) vs = _
    rw [wipe_setVs fun p hp => h p (List.mem_cons_of_mem _ hp), wipe_set (h (i, v) List.mem_cons_self)]
/-- bindings, value by value -/
def BdOk (F : Hp) : List (Nat × V) → List (Nat × PyData) → Prop := Paired fun p q => p.1 = q.1 ∧ Fp F p.2 q.2
section
variable {K : PySem.W.Frag} {E : Ent}
mutual
theorem tg_lift {F H : Hp} (s : Same F H) : ∀ (t : Tg) {v : V} {d : PyData} {bs : List (Nat × PyData)}, Fp F v d → tgB t d = some bs → ∃ ws, BdOk F ws bs ∧ bs.map (·.1) = t.is ∧ ∀ (σ : L2.St) (Q : L2.St → Hp → Prop), Q (setVs σ ws) H → tgT K t v σ H Q
  | .nm i, v, d, bs, h, e => by
    rw [tgB] at e
    cases e
    refine ⟨[(i, v)], .cons ⟨rfl, h⟩ .nil, by rw [Tg.is]; rfl, fun σ Q q => ?_⟩
    rw [tgT]
    exact q
  | .tup ts, v, .tuple ds, bs, h, e => by
    rw [tgB] at e
    obtain ⟨a, vs, rfl, ha, ra⟩ := h.tup_inv
    obtain ⟨ws, h1, h2, h3, h4⟩ := tgs_lift s ts ra e
    refine ⟨ws, h1, by rw [Tg.is]; exact h2, fun σ Q q => ?_⟩
    rw [tgT]
    exact .inl ⟨a, vs, rfl, SqT.of (s _ _ ha), h3, h4 σ Q q⟩
  | .tup ts, v, .list ds, bs, h, e => by
    rw [tgB] at e
    obtain ⟨a, vs, rfl, ha, ra⟩ := h.lst_inv
    obtain ⟨ws, h1, h2, h3, h4⟩ := tgs_lift s ts ra e
    refine ⟨ws, h1, by rw [Tg.is]; exact h2, fun σ Q q => ?_⟩
    rw [tgT]
    exact .inr ⟨a, vs, rfl, SqL.of (s _ _ ha), h3, h4 σ Q q⟩
  | .tup ts, _, .none, _, _, e => by simp [tgB] at e
  | .tup ts, _, .bool _, _, _, e => by simp [tgB] at e
  | .tup ts, _, .int _, _, _, e => by simp [tgB] at e
  | .tup ts, _, .str _, _, _, e => by simp [tgB] at e
  | .tup ts, _, .dict _, _, _, e => by simp [tgB] at e
theorem tgs_lift {F H : Hp} (s : Same F H) : ∀ (ts : List Tg) {vs : List V} {ds : List PyData} {bs : List (Nat × PyData)}, FpAll F vs ds → tgBs ts ds = some bs → ∃ ws, BdOk F ws bs ∧ bs.map (·.1) = Tg.iss ts ∧ vs.length = tgN ts ∧ ∀ (σ : L2.St) (Q : L2.St → Hp → Prop), Q (setVs σ ws) H → tgTs K ts vs σ H Q
  | [], _, [], bs, .nil, e => by
    rw [tgBs] at e
    cases e
    refine ⟨[], .nil, by rw [Tg.iss]; rfl, by rw [tgN]; rfl, fun σ Q q => ?_⟩
    rw [tgTs]
    exact ⟨rfl, q⟩
  | [], _, _ :: _, bs, _, e => by simp [tgBs] at e
  | t :: ts, _, [], bs, _, e => by simp [tgBs] at e
  | t :: ts, _, d :: ds, bs, .cons (v := v) (vs := vs) h r, e => by
    rw [tgBs] at e
    cases e1 : tgB t d with
    | none => rw [e1] at e; cases e
    | some a =>
      cases e2 : tgBs ts ds with
      | none => rw [e1, e2] at e; cases e
      | some b =>
        rw [e1, e2] at e
        cases e
        obtain ⟨w1, p1, i1, k1⟩ := tg_lift s t h e1
        obtain ⟨w2, p2, i2, n2, k2⟩ := tgs_lift s ts r e2
        refine ⟨w1 ++ w2, paired_app p1 p2, by rw [List.map_append, i1, i2, Tg.iss], by rw [List.length_cons, n2, tgN], fun σ Q q => ?_⟩
        rw [tgTs]
        refine ⟨v, vs, rfl, k1 σ _ (k2 _ _ ?_)⟩
        rw [← setVs_app]
        exact q
end
theorem SR.setDs {F H : Hp} : ∀ {ws : List (Nat × V)} {bs : List (Nat × PyData)} {σ : L2.St} {env : PEnv} {As : Nat → List Addr}, SR K E F H σ env As → BdOk F ws bs → (∀ p ∈ bs, p.1 < env.length ∧ E.fix p.1 = none) → ∃ As', SR K E F H (setVs σ ws) (setDs env bs) As' ∧ ∀ i a, a ∈ As' i → a ∈ As i
  | _, _, σ, env, As, S, .nil, _ => ⟨As, S, fun _ _ h => h⟩
  | _, _, σ, env, As, S, .cons (a := (i, v)) (b := (j, d)) ⟨e, h⟩ r, k => by
    have e' : i = j := e
    subst e'
    have k0 := k _ List.mem_cons_self
    have S2 : SR K E F H (σ.set i (some v)) (env.set i (.v d)) (setA As i []) := S.set (RsOk.v h) k0.1 k0.2
    have k2 : ∀ p ∈ ‹List (Nat × PyData)›, p.1 < (env.set i (.v d)).length ∧ E.fix p.1 = none := fun p hp => by
      rw [List.length_set]
      exact k p (List.mem_cons_of_mem _ hp)
    obtain ⟨As', z, w⟩ := SR.setDs S2 r k2
    exact ⟨As', z, fun j a h => (setA_mem (w j a h)).elim (fun y => absurd y.2 (by simp)) fun y => y.2⟩
end

/-! ### 20. for -/
def forL0 (t : Tg) (body : PSt) (D : PEnds) : List PyData → PEnv → Prop
  | [], env => D.nx env
  | d :: ds, env => tgP t d env fun env1 => body { D with nx := forL0 t body D ds, ct := forL0 t body D ds, bk := D.nx } env1
@[irreducible] def forL (t : Tg) (body : PSt) (D : PEnds) (ds : List PyData) (env : PEnv) : Prop := forL0 t body D ds env
theorem forL_eq : @forL = @forL0 := by
  funext t body D ds env
  unfold forL
  rfl
theorem forL_n {t : Tg} {body : PSt} {D : PEnds} {env : PEnv} : forL t body D [] env = D.nx env := by
  rw [forL_eq]
  rfl
theorem forL_c {t : Tg} {body : PSt} {D : PEnds} {d : PyData} {ds : List PyData} {env : PEnv} : forL t body D (d :: ds) env = tgP t d env fun env1 => body { D with nx := forL t body D ds, ct := forL t body D ds, bk := D.nx } env1 := by
  rw [forL_eq]
  rfl
def pFor (pi : PIt) (t : Tg) (body : PSt) : PSt := fun D env => pi env fun ds env1 => forL t body D ds env1
section
variable {X : Cx} {E : Ent} {tg iter : Expr} {body : List Stmt} {pi : PIt} {pb : PSt} {t : Tg} {pos : Pos}
theorem ls_for (hp : PassesOwn (model X.prog X.w) X.A X.env X.xe) (hc : X.calm = true) (hi : PI X tg iter (liftI X.K E pi)) (hg : PG X tg (tgT X.K t)) (ht : ∀ i ∈ t.is, i < X.N.length ∧ E.fix i = none) (hb : PSs X body (liftS X.K E pb))
    (hs : ∀ x, foldedSetIterable iter X.env x = pure x := by intro _; rfl) : PS X (.For tg iter body [] pos) (liftS X.K E (pFor pi t pb)) := by
  refine ⟨fun pins s σ0 H D I ⟨F0, env0, As0, D', S0, fx, p, k⟩ => (ps_for hp hc hi hg hb hs).run pins s σ0 H D I ⟨[], F0, env0, As0, _, app_nil_SR S0, fx, p, fun ds J F1 H1 env1 As1 S1 f1 fd q => ?_⟩⟩
  have nN : σ0.length = X.N.length := I.len
  refine ⟨fun i m σ H => m = ds.length - i ∧ i ≤ ds.length ∧ σ.length = σ0.length ∧ ∃ F env As, SR X.K E F H σ env As ∧ Same F1 F ∧ forL t pb D' (ds.drop i) env, ⟨ds.length, by omega, Nat.zero_le _, rfl, F1, env1, As1, nil_app_SR S1, Same.refl F1, q⟩, ?_⟩
  rintro i m σ H ⟨rfl, hi, hl, F, env, As, S, f, q⟩
  obtain ⟨go, stop⟩ := fd i H F f S.sub
  by_cases hlt : i < ds.length
  · have e : ds[i]? = some ds[i] := List.getElem?_eq_getElem hlt
    obtain ⟨g1, g2⟩ := go _ e
    rw [List.drop_eq_getElem_cons hlt] at q
    refine .inr ⟨g1, fun σ' H' => σ'.length = σ0.length ∧ ∃ F env As, SR X.K E F H' σ' env As ∧ Same F1 F ∧ forL t pb D' (ds.drop (i + 1)) env, fun σ' H' z => ⟨ds.length - (i + 1), by omega, rfl, hlt, z⟩, fun x H' y => ?_⟩
    obtain ⟨F2, g, h⟩ := g2 x H' y
    have S2 := S.gr g
    have q' : tgP t ds[i] env fun env1 => pb { D' with nx := forL t pb D' (ds.drop (i + 1)), ct := forL t pb D' (ds.drop (i + 1)), bk := D'.nx } env1 := by
      rw [forL_c] at q
      exact q
    unfold tgP at q'
    split at q'
    · rename_i bs eb
      obtain ⟨ws, b1, b2, b3⟩ := tg_lift (K := X.K) S2.sub t h eb
      refine b3 σ _ ?_
      obtain ⟨As3, S3, _⟩ := SR.setDs S2 b1 fun p hp => by
        have z := ht p.1 (by rw [← b2]; exact List.mem_map.mpr ⟨p, hp, rfl⟩)
        rw [← S2.len, hl, nN]
        exact z
      have l3 : (setVs σ ws).length = σ0.length := (setVs_length ws σ).trans hl
      have nxt : ∀ σ' F' H' env' As', σ'.length = (setVs σ ws).length → SR X.K E F' H' σ' env' As' → Same F2 F' → forL t pb D' (ds.drop (i + 1)) env' → σ'.length = σ0.length ∧ ∃ F env As, SR X.K E F H' σ' env As ∧ Same F1 F ∧ forL t pb D' (ds.drop (i + 1)) env :=
        fun σ' F' H' env' As' hl' S' f' q' => ⟨hl'.trans l3, F', env', As', S', (f.trans g.ff).trans f', q'⟩
      refine ⟨F2, _, As3, _, S3, fx.to l3, q', nxt, ?_, nxt, ?_⟩
      · exact fun σ' F' H' env' As' hl' S' f' q' => k.nx σ' F' H' env' As' (hl'.trans l3) S' (((f1.trans f).trans g.ff).trans f') q'
      · exact fun σ' F' H' env' As' hl' S' f' => k.rt σ' F' H' env' As' (hl'.trans l3) S' (((f1.trans f).trans g.ff).trans f')
    · exact q'.elim
  · have e : i = ds.length := by omega
    subst e
    rw [List.drop_length, forL_n] at q
    exact .inl ⟨stop (Nat.le_refl _), k.nx σ F H env As hl S (f1.trans f) q⟩
end

/-! ### 21. comprehensions -/
def wipeP (env : PEnv) : List Nat → PEnv
  | [] => env
  | v :: vs => (wipeP env vs).set v .un
def stillAt (env : PEnv) (vs : List Nat) : Bool := vs.all fun i => match env[i]? with
  | some (.m _) => false
  | _ => true
/-- the slots vs of env put back -/
def backP (env env' : PEnv) (vs : List Nat) : PEnv := mapI (fun i s => match vs.contains i with
  | true => env.getD i .un
  | false => s) 0 env'
theorem backP_eq (env env' : PEnv) (vs : List Nat) : backP env env' vs = env'.mapIdx fun i s => if i ∈ vs then env.getD i .un else s := by
  unfold backP
  rw [mapI_eq]
  exact congrArg (fun g => List.mapIdx g env') (funext fun i => funext fun s => pick_eq vs i _ s)
def pYes : PTt := fun env Q => Q true env
section
variable {K : PySem.W.Frag} {E : Ent} {F H : Hp}
theorem wipeP_length (env : PEnv) : ∀ vs : List Nat, (wipeP env vs).length = env.length
  | [] => rfl
  | v :: vs => by unfold wipeP; rw [List.length_set, wipeP_length env vs]
/-- slots that own nothing are forgotten -/
theorem SR.forget {σ : L2.St} {env : PEnv} {As : Nat → List Addr} (S : SR K E F H σ env As) {i : Nat} (hi : As i = []) (hf : E.fix i = none) : SR K E F H (σ.set i none) (env.set i .un) As where
  sub := S.sub
  f0 := S.f0
  grow := S.grow
  keep := S.keep
  len := by rw [List.length_set, List.length_set]; exact S.len
  slot := fun j s e => by
    rcases getElem?_set_of e with ⟨rfl, rfl, hl⟩ | ⟨ne, e⟩
    · exact ⟨none, List.getElem?_set_self (by rw [S.len]; exact hl), hi⟩
    · obtain ⟨x, h1, h2⟩ := S.slot j s e
      exact ⟨x, by rw [List.getElem?_set_ne ne]; exact h1, h2⟩
  out := fun j h => S.out j (by rw [List.length_set] at h; exact h)
  own := S.own
  nd := S.nd
  disj := S.disj
  fix := fun j w e => by
    have ne : i ≠ j := fun z => by
      rw [← z, hf] at e
      cases e
    rw [List.getElem?_set_ne ne]
    exact S.fix j w e
theorem SR.wipe {σ : L2.St} {env : PEnv} {As : Nat → List Addr} (S : SR K E F H σ env As) : ∀ {vs : List Nat}, (∀ i ∈ vs, As i = [] ∧ E.fix i = none) → SR K E F H (wipe σ vs) (wipeP env vs) As
  | [], _ => S
  | v :: vs, h => by
    unfold L2.wipe wipeP
    have z := h v List.mem_cons_self
    exact (SR.wipe S fun i hi => h i (List.mem_cons_of_mem _ hi)).forget z.1 z.2
theorem still_As {σ : L2.St} {env : PEnv} {As : Nat → List Addr} (S : SR K E F H σ env As) {vs : List Nat} (h : stillAt env vs = true) : ∀ i ∈ vs, As i = [] := fun i hi => by
  have z := List.all_eq_true.mp h i hi
  by_cases hl : i < env.length
  · obtain ⟨x, _, q⟩ := S.slot i env[i] (List.getElem?_eq_getElem hl)
    rw [List.getElem?_eq_getElem hl] at z
    cases e : env[i] with
    | un => rw [e] at q; exact q
    | v d => rw [e] at q; obtain ⟨_, _, _, q⟩ := q; exact q
    | m c => rw [e] at z; cases z
  · exact S.out i (by omega)
end
end PL

namespace PL
open PySem PySem.Spec PyProof.Rows L2

/-! ### 22. comprehensions, the rule -/
def compK (t : Tg) (tt : PTt) (te : PX) (vs : List Nat) : List PyData → List PyData → PEnv → (List PyData → PEnv → Prop) → Prop
  | [], acc, env, Q => Q acc env
  | d :: ds, acc, env, Q => tgP t d (wipeP env vs) fun env1 => tt env1 fun b env2 => sel b (te env2 fun x env3 => (acc.length < sizeLine ∧ stillAt env3 vs = true) ∧ compK t tt te vs ds (acc ++ [x]) env3 Q) (stillAt env2 vs = true ∧ compK t tt te vs ds acc env2 Q)
def pLc (pi : PIt) (t : Tg) (tt : PTt) (te : PX) (vs : List Nat) : PO := fun env Q => pi env fun ds env1 => stillAt env1 vs = true ∧ compK t tt te vs ds [] env1 fun acc env2 => Q (.m (.ol acc)) (backP env1 env2 vs)
def anyE (K : PySem.W.Frag) (fi : Nat → Option V) (p : PX) : TE := fun σ H Q => ∃ E : Ent, E.fix = fi ∧ liftE K E p σ H Q
def anyT (K : PySem.W.Frag) (fi : Nat → Option V) (p : PTt) : TT := fun σ H Q => ∃ E : Ent, E.fix = fi ∧ liftT K E p σ H Q
theorem pe_any {X : Cx} {e : Expr} {fi : Nat → Option V} {p : PX} (h : ∀ E : Ent, E.fix = fi → PE X e (liftE X.K E p)) : PE X e (anyE X.K fi p) := ⟨fun pins s σ H Q I ⟨E, e, q⟩ => (h E e).run pins s σ H Q I q⟩
theorem pt_any {X : Cx} {e : Expr} {fi : Nat → Option V} {p : PTt} (h : ∀ E : Ent, E.fix = fi → PT X e (liftT X.K E p)) : PT X e (anyT X.K fi p) := ⟨fun pins s σ H Q I ⟨E, e, q⟩ => (h E e).run pins s σ H Q I q⟩
theorem pts_any {X : Cx} {e : Expr} {fi : Nat → Option V} {p : PTt} (h : ∀ E : Ent, E.fix = fi → PT X e (liftT X.K E p)) : PTs X [e] (anyT X.K fi p) := pts_one (pt_any h)
theorem pts_yes {X : Cx} {fi : Nat → Option V} : PTs X [] (anyT X.K fi pYes) := ⟨fun pins s σ H Q I ⟨E, e, ts, F, env, As, Q', S, fx, p, k⟩ => pts_nil.run pins s σ H Q I (k true F H env As S (Same.refl F) p)⟩
section
variable {K : PySem.W.Frag} {E : Ent} {F H : Hp}
theorem wipe_app {ts : L2.St} : ∀ {vs : List Nat} {σ : L2.St}, (∀ i ∈ vs, i < σ.length) → wipe (σ ++ ts) vs = wipe σ vs ++ ts
  | [], _, _ => rfl
  | v :: vs, σ, h => by
    unfold wipe
    rw [wipe_app fun i hi => h i (List.mem_cons_of_mem _ hi), List.set_append_left]
    rw [wipe_length]
    exact h v List.mem_cons_self
theorem wipeP_out {env : PEnv} {i : Nat} : ∀ {vs : List Nat}, i ∉ vs → (wipeP env vs)[i]? = env[i]?
  | [], _ => rfl
  | v :: vs, h => by
    unfold wipeP
    rw [List.getElem?_set_ne fun z => h (by rw [z]; exact List.mem_cons_self)]
    exact wipeP_out fun z => h (List.mem_cons_of_mem _ z)
theorem wipeP_wipeP_un {env : PEnv} {i : Nat} : ∀ {vs : List Nat}, i ∈ vs → i < env.length → (wipeP env vs)[i]? = some .un
  | v :: vs, h, hl => by
    unfold wipeP
    by_cases e : v = i
    · subst e
      exact List.getElem?_set_self (by rw [wipeP_length]; exact hl)
    · rw [List.getElem?_set_ne e]
      exact wipeP_wipeP_un ((List.mem_cons.mp h).elim (fun z => absurd z.symm e) id) hl
/-- something else in the heap changes -/
theorem SR.other {σ : L2.St} {env : PEnv} {As : Nat → List Addr} (S : SR K E F H σ env As) {D : Addr} {o : HO} (hF : F D = none) (hA : ∀ i, D ∉ As i) (hE : E.B D ∨ E.H0 D = none) : SR K E F (upd H D o) σ env As where
  sub := fun b u e => by
    rw [upd_ne fun z => by rw [z, hF] at e; cases e]
    exact S.sub b u e
  f0 := S.f0
  grow := S.grow
  keep := fun b u e n => by
    rw [upd_ne fun z => by
      rw [z] at e n
      rcases hE with y | y
      · exact n y
      · rw [y] at e; cases e]
    exact S.keep b u e n
  len := S.len
  slot := fun i s e => by
    obtain ⟨x, h1, h2⟩ := S.slot i s e
    exact ⟨x, h1, h2.to (Same.refl F) fun a ha => upd_ne fun z => hA i (by rw [← z]; exact ha)⟩
  out := S.out
  own := S.own
  nd := S.nd
  disj := S.disj
  fix := S.fix
theorem le_lc {pi : PIt} {t : Tg} {tt : PTt} {te : PX} {vs : List Nat} {n : Nat} (ht : ∀ i ∈ t.is, i ∈ vs) (hv : ∀ i ∈ vs, i < n ∧ E.fix i = none) {σ : L2.St} (hn : σ.length = n) {Q : VK} (q0 : liftO K E (pLc pi t tt te vs) σ H Q) :
    tLc (liftI K E pi) (tgT K t) (anyT K E.fix tt) (anyE K E.fix te) vs σ H Q := by
  obtain ⟨ts, F0, env0, As0, Q', S0, fx, p, k⟩ := q0
  refine ⟨ts, F0, env0, As0, _, S0, fx, p, fun ds J F1 H1 env1 As1 S1 f1 fd ⟨hst, q⟩ D hD => ?_⟩
  have vlt : ∀ i ∈ vs, i < σ.length := fun i hi => by rw [hn]; exact (hv i hi).1
  have ED : E.B D ∨ E.H0 D = none := (S1.free hD).symm
  have wl : (wipe σ vs ++ ts).length = (σ ++ ts).length := by rw [List.length_append, List.length_append, wipe_length]
  refine ⟨fun i m H => m = ds.length - i ∧ i ≤ ds.length ∧ ∃ F env As acc accV, SR K E F H (wipe σ vs ++ ts) (wipeP env vs) As ∧ Same F1 F ∧ env.length = env1.length ∧ (H D = some (.lst accV) ∧ FpAll F accV acc ∧ F D = none ∧ ∀ i, D ∉ As i) ∧
    (∀ i ∈ vs, As i = []) ∧ compK t tt te vs (ds.drop i) acc env fun acc env2 => Q' (.m (.ol acc)) (backP env1 env2 vs), ⟨ds.length, by omega, Nat.zero_le _, F1, env1, As1, [], [], ?_, Same.refl F1, rfl, ⟨upd_same, .nil, S1.sub.free hD, fun i h => S1.live i D h hD⟩, still_As S1 hst, q⟩, ?_⟩
  · have z := (S1.gr (Gr.made (o := HO.lst []) S1.sub hD)).wipe (vs := vs) fun i hi => ⟨still_As S1 hst i hi, (hv i hi).2⟩
    rw [wipe_app vlt] at z
    exact z
  rintro i m H ⟨rfl, hi, F, env, As, acc, accV, S, f, el, ⟨hH, hA, hFD, hAD⟩, hAv, q⟩
  obtain ⟨go, stop⟩ := fd i H F f S.sub
  by_cases hlt : i < ds.length
  · have e : ds[i]? = some ds[i] := List.getElem?_eq_getElem hlt
    obtain ⟨g1, g2⟩ := go _ e
    rw [List.drop_eq_getElem_cons hlt] at q
    refine .inr ⟨g1, fun H' => ∃ F env As acc accV, SR K E F H' (wipe σ vs ++ ts) (wipeP env vs) As ∧ Same F1 F ∧ env.length = env1.length ∧ (H' D = some (.lst accV) ∧ FpAll F accV acc ∧ F D = none ∧ ∀ i, D ∉ As i) ∧ (∀ i ∈ vs, As i = []) ∧
      compK t tt te vs (ds.drop (i + 1)) acc env fun acc env2 => Q' (.m (.ol acc)) (backP env1 env2 vs), fun H' z => ⟨ds.length - (i + 1), by omega, rfl, hlt, z⟩, fun x H' y => ?_⟩
    obtain ⟨F2, g, h⟩ := g2 x H' y
    have S2 := S.gr g
    have q' : tgP t ds[i] (wipeP env vs) fun env1' => tt env1' fun b env2 => sel b (te env2 fun x env3 => (acc.length < sizeLine ∧ stillAt env3 vs = true) ∧ compK t tt te vs (ds.drop (i + 1)) (acc ++ [x]) env3 (fun acc env2 => Q' (.m (.ol acc)) (backP env1 env2 vs))) (stillAt env2 vs = true ∧ compK t tt te vs (ds.drop (i + 1)) acc env2 (fun acc env2 => Q' (.m (.ol acc)) (backP env1 env2 vs))) := q
    unfold tgP at q'
    split at q'
    · rename_i bs eb
      obtain ⟨ws, b1, b2, b3⟩ := tg_lift (K := K) S2.sub t h eb
      refine b3 (wipe σ vs) _ ?_
      have wsv : ∀ p ∈ ws, p.1 ∈ vs := fun p hp => by
        have : ∀ {ws : List (Nat × V)} {bs : List (Nat × PyData)}, BdOk F2 ws bs → ∀ p ∈ ws, p.1 ∈ bs.map (·.1) := by
          intro ws bs h
          induction h with
          | nil => intro p hp; cases hp
          | cons h r ih =>
            intro p hp
            rcases List.mem_cons.mp hp with z | z
            · rw [z, List.map_cons, h.1]; exact List.mem_cons_self
            · rw [List.map_cons]; exact List.mem_cons_of_mem _ (ih p z)
        have z := this b1 p hp
        rw [b2] at z
        exact ht _ z
      have sva : setVs (wipe σ vs ++ ts) ws = setVs (wipe σ vs) ws ++ ts := by
        have : ∀ (ws : List (Nat × V)) (σ : L2.St), (∀ p ∈ ws, p.1 < σ.length) → setVs (σ ++ ts) ws = setVs σ ws ++ ts := by
          intro ws
          induction ws with
          | nil => intro σ _; rfl
          | cons p r ih =>
            intro σ hp
            obtain ⟨j, w⟩ := p
            show setVs ((σ ++ ts).set j (some w)) r = setVs (σ.set j (some w)) r ++ ts
            rw [List.set_append_left _ _ (hp (j, w) List.mem_cons_self)]
            exact ih _ fun p hp' => by rw [List.length_set]; exact hp p (List.mem_cons_of_mem _ hp')
        exact this ws _ fun p hp => by rw [wipe_length]; exact vlt _ (wsv p hp)
      obtain ⟨As3, S3, sub3⟩ := SR.setDs S2 b1 fun p hp => by
        have z := hv p.1 (ht _ (by rw [← b2]; exact List.mem_map.mpr ⟨p, hp, rfl⟩))
        refine ⟨?_, z.2⟩
        rw [← S2.len, wl, List.length_append]
        omega
      rw [sva] at S3
      have ww : wipe (setVs (wipe σ vs) ws) vs = wipe σ vs := by
        rw [wipe_setVs wsv]
        have : ∀ (us : List Nat) (σ : L2.St), wipe (wipe σ us) us = wipe σ us := by
          intro us σ
          have aux : ∀ (xs : List Nat) (σ : L2.St), (∀ x ∈ xs, σ[x]? = some none ∨ σ[x]? = none) → wipe σ xs = σ := by
            intro xs
            induction xs with
            | nil => intro σ _; rfl
            | cons x xs ih =>
              intro σ h
              unfold wipe
              rw [ih σ fun y hy => h y (List.mem_cons_of_mem _ hy)]
              refine List.ext_getElem? fun j => ?_
              by_cases hj : x = j
              · subst hj
                rcases h x List.mem_cons_self with z | z
                · rw [List.getElem?_set_self (List.getElem?_eq_some_iff.mp z).1, z]
                · rw [z, List.getElem?_eq_none]
                  rw [List.length_set]
                  exact List.getElem?_eq_none_iff.mp z
              · rw [List.getElem?_set_ne hj]
          refine aux us _ fun x hx => ?_
          have : ∀ (us : List Nat), x ∈ us → (wipe σ us)[x]? = some none ∨ (wipe σ us)[x]? = none := by
            intro us
            induction us with
            | nil => intro h; cases h
            | cons u us ih =>
              intro h
              unfold wipe
              by_cases e : u = x
              · subst e
                by_cases hl : u < (wipe σ us).length
                · exact .inl (List.getElem?_set_self hl)
                · exact .inr (List.getElem?_eq_none (by rw [List.length_set]; omega))
              · rw [List.getElem?_set_ne e]
                exact ih ((List.mem_cons.mp h).elim (fun z => absurd z.symm e) id)
          exact this us hx
        exact this vs σ
      refine ⟨ww, ?_⟩
      have hH2 : H' D = some (.lst accV) := g.hh _ _ hH
      have nD : ∀ j, D ∉ As3 j := fun j z => hAD j (sub3 j D z)
      have hF2 : F2 D = none := g.off hFD (some_ne hH) (ntp_of hH fun _ z => nomatch z)
      have lσ2 : (setVs (wipe σ vs) ws).length = σ.length := (setVs_length ws _).trans (wipe_length σ vs)
      have fx2 : FixIn (reE E F2 H' As3) (setVs (wipe σ vs) ws) := fx.to lσ2
      -- behind the block: D stands, the slots are as at the turn's start
      have fin : ∀ {F4 H4 env4 As4}, SR K (reE E F2 H' As3) F4 H4 (setVs (wipe σ vs) ws ++ ts) env4 As4 → Same F2 F4 → stillAt env4 vs = true →
          SR K E F4 H4 (wipe σ vs ++ ts) (wipeP env4 vs) As4 ∧ H4 D = some (.lst accV) ∧ F4 D = none ∧ (∀ j, D ∉ As4 j) ∧ (∀ i ∈ vs, As4 i = []) ∧ env4.length = env1.length := fun {F4 H4 env4 As4} S4 f4 st => by
        obtain ⟨h1, h2⟩ := S4.held (some_ne hH2) (ntp_of hH2 fun _ z => nomatch z) nD
        have av := still_As S4 st
        have z := (S3.unre S4).wipe (vs := vs) fun i hi => ⟨av i hi, (hv i hi).2⟩
        rw [wipe_app (fun i hi => by rw [lσ2]; exact vlt i hi), ww] at z
        refine ⟨z, h1.trans hH2, h2 hF2, fun j y => ?_, av, ?_⟩
        · rcases (S4.own j D y).2 with ⟨i, w⟩ | w
          · exact nD i w
          · exact some_ne hH2 w
        · have l4 := S4.len
          have l1 := S1.len
          rw [List.length_append] at l4 l1
          omega
      refine ⟨reE E F2 H' As3, rfl, ts, F2, _, As3, _, S3.re, fx2, q', fun b F3 H3 env3 As3' S3' f3 q3 => ?_⟩
      cases b with
      | true =>
        rw [sel_tt] at q3; rw [if_pos rfl]
        refine ⟨reE E F2 H' As3, rfl, ts, F3, env3, As3', _, S3', fx2, q3, fun y x F4 H4 env4 As4 S4 f4 h4 ⟨⟨hz, st⟩, q4⟩ => ?_⟩
        obtain ⟨z1, z2, z3, z4, z5, z6⟩ := fin S4 (f3.trans f4) st
        refine ⟨accV, z2, by rw [hA.length]; exact hz, F4, env4, As4, acc ++ [x], accV ++ [y], z1.other z3 z4 ED, ((f.trans g.ff).trans f3).trans f4, z6, ⟨upd_same, (((hA.to g.ff).to f3).to f4).app (.cons h4 .nil), z3, z4⟩, z5, q4⟩
      | false =>
        rw [sel_ff] at q3; rw [if_neg Bool.false_ne_true]
        obtain ⟨st, q4⟩ := q3
        obtain ⟨z1, z2, z3, z4, z5, z6⟩ := fin S3' f3 st
        exact ⟨F3, env3, As3', acc, accV, z1, (f.trans g.ff).trans f3, z6, ⟨z2, (hA.to g.ff).to f3, z3, z4⟩, z5, q4⟩
    · exact q'.elim
  · have e : i = ds.length := by omega
    subst e
    rw [List.drop_length] at q
    refine .inl ⟨stop (Nat.le_refl _), ?_⟩
    have q' : Q' (.m (.ol acc)) (backP env1 env vs) := q
    refine k (.ref D) (.m (.ol acc)) [D] F H (backP env1 env vs) As ?_ (f1.trans f) ⟨⟨_, rfl, .ol hH hA⟩, by simp, fun a ha => ?_, fun j a ha z => ?_⟩ q'
    · refine ⟨S.sub, S.f0, S.grow, S.keep, ?_, fun j s e => ?_, fun j hj => S.out j ?_, S.own, S.nd, S.disj, S1.fix⟩
      · rw [S1.len]
        rw [backP_eq]
        rw [List.length_mapIdx]
        exact el.symm
      · rw [backP_eq] at e
        rw [List.getElem?_mapIdx] at e
        obtain ⟨s0, e0, e1⟩ := Option.map_eq_some_iff.mp e
        have hj := (List.getElem?_eq_some_iff.mp e0).1
        by_cases c : j ∈ vs
        · rw [if_pos c, List.getD_eq_getElem?_getD, List.getElem?_eq_getElem (by omega)] at e1
          have e1' : env1[j]'(by omega) = s := e1
          obtain ⟨x, h1, h2⟩ := S1.slot j _ (List.getElem?_eq_getElem (by omega))
          refine ⟨x, h1, ?_⟩
          rw [hAv j c, ← e1']
          have z := List.all_eq_true.mp hst j c
          rw [List.getElem?_eq_getElem (by omega)] at z
          have z2 := still_As S1 hst j c
          rw [z2] at h2
          exact h2.to f fun a ha => absurd ha (by simp)
        · rw [if_neg c] at e1
          subst e1
          obtain ⟨x, h1, h2⟩ := S.slot j s0 (by rw [wipeP_out c]; exact e0)
          refine ⟨x, ?_, h2⟩
          rw [← wipe_app vlt] at h1
          rw [wipe_out c] at h1
          exact h1
      · rw [backP_eq] at hj
        rw [List.length_mapIdx] at hj
        rw [wipeP_length]
        exact hj
    · rw [List.mem_singleton.mp ha]
      exact ⟨hFD, ED⟩
    · rw [List.mem_singleton.mp ha] at z
      exact hAD j z
end
section
variable {X : Cx} {E : Ent} {elt tg iter : Expr} {ifs : List Expr} {scope : Scope} {own : List (Str × Nat)} {pos spos py : Pos} {pi : PIt} {t : Tg} {tt : PTt} {te : PX} {i : Nat} {y : Str}
/-- [elt for tg in iter ..] -/
theorem l_lc (hc : X.calm = true) (hN : X.N.Nodup) (hi : PI X tg iter (liftI X.K E pi)) (ok : blkC X.N X.env.scope scope own = true) (ht : ∀ i ∈ t.is, i ∈ own.map (·.2)) (hv : ∀ i ∈ own.map (·.2), i < X.N.length ∧ E.fix i = none)
    (hg : ∀ (s : Shared) (H : Hp) (C : Addr) (cl : List (Str × Addr)) (fp : List Addr), PG (X.blk s H scope (compEnvC scope cl C X.env) fp) tg (tgT X.K t)) (hts : ∀ (s : Shared) (H : Hp) (C : Addr) (cl : List (Str × Addr)) (fp : List Addr), PTs (X.blk s H scope (compEnvC scope cl C X.env) fp) ifs (anyT X.K E.fix tt))
    (he : ∀ (s : Shared) (H : Hp) (C : Addr) (cl : List (Str × Addr)) (fp : List Addr), PE (X.blk s H scope (compEnvC scope cl C X.env) fp) elt (anyE X.K E.fix te)) (hs : ∀ x, foldedSetIterable iter X.env x = pure x := by intro _; rfl) :
    PE X (.ListComp elt [⟨tg, iter, ifs, 0⟩] scope pos) (liftO X.K E (pLc pi t tt te (own.map (·.2)))) :=
  ⟨fun pins s σ H Q I q => (pe_lc hc hN hi (blkOk_by ok) hg hts he hs).run pins s σ H Q I (le_lc (n := X.N.length) ht hv I.len q)⟩
/-- name = [..] on one line -/
theorem ls_lc (hy : X.N[i]? = some y) (hyl : X.env.scope.names.lookup y = some .local) (hf : E.fix i = none) (hsw : swapsWith (.ListComp elt [⟨tg, iter, ifs, 0⟩] scope pos) (some (.Name y py)) spos.line X.env = pure true) (hc : X.calm = true) (hN : X.N.Nodup) (hi : PI X tg iter (liftI X.K E pi)) (ok : blkC X.N X.env.scope scope own = true) (ht : ∀ i ∈ t.is, i ∈ own.map (·.2)) (hv : ∀ i ∈ own.map (·.2), i < X.N.length ∧ E.fix i = none)
    (hg : ∀ (s : Shared) (H : Hp) (C : Addr) (cl : List (Str × Addr)) (fp : List Addr), PG (X.blk s H scope (compEnvC scope cl C X.env) fp) tg (tgT X.K t)) (hts : ∀ (s : Shared) (H : Hp) (C : Addr) (cl : List (Str × Addr)) (fp : List Addr), PTs (X.blk s H scope (compEnvC scope cl C X.env) fp) ifs (anyT X.K E.fix tt))
    (he : ∀ (s : Shared) (H : Hp) (C : Addr) (cl : List (Str × Addr)) (fp : List Addr), PE (X.blk s H scope (compEnvC scope cl C X.env) fp) elt (anyE X.K E.fix te)) (hs : ∀ x, foldedSetIterable iter X.env x = pure x := by intro _; rfl) :
    PS X (.Assign [.Name y py] (.ListComp elt [⟨tg, iter, ifs, 0⟩] scope pos) spos) (liftS X.K E (pSet i (pLc pi t tt te (own.map (·.2))))) := by
  refine ⟨fun pins s σ H D I ⟨F, env, As, D', S, fx, p, k⟩ => (ps_setLc hc hN hy hyl hsw hi (blkOk_by ok) hg hts he hs).run pins s σ H D I (le_lc (n := X.N.length) ht hv I.len ⟨[], F, env, As, _, app_nil_SR S, fx, p, fun v r ar F1 H1 env1 As1 S1 f1 R q => ?_⟩)⟩
  have S1' := nil_app_SR S1
  have hi : i < env1.length := by rw [← S1'.len, I.len]; exact (List.getElem?_eq_some_iff.mp hy).1
  exact k.nx _ F1 H1 _ _ (List.length_set ..) (S1'.set R hi hf) f1 q
end
end PL

namespace PL
open PySem PySem.Spec PyProof.Rows L2

/-! ### 23. lists of ints, sorted -/
def intsOf : List PyData → Option (List Int)
  | [] => some []
  | .int i :: r => (intsOf r).map (i :: ·)
  | _ :: _ => none
theorem intsOf_map : ∀ ns : List Int, intsOf (ns.map PyData.int) = some ns
  | [] => rfl
  | n :: ns => by
    show (intsOf (ns.map PyData.int)).map (n :: ·) = _
    rw [intsOf_map ns]
    rfl
theorem intsOf_eq : ∀ {ds : List PyData} {ns : List Int}, intsOf ds = some ns → ds = ns.map PyData.int
  | [], _, e => by cases e; rfl
  | .int i :: r, ns, e => by
    obtain ⟨ms, e1, e2⟩ := Option.map_eq_some_iff.mp (show (intsOf r).map (i :: ·) = some ns from e)
    rw [← e2, intsOf_eq e1]
    rfl
  | .none :: _, _, e => by cases e
  | .bool _ :: _, _, e => by cases e
  | .str _ :: _, _, e => by cases e
  | .list _ :: _, _, e => by cases e
  | .tuple _ :: _, _, e => by cases e
  | .dict _ :: _, _, e => by cases e
def blsOf : List PyData → Option (List Bool)
  | [] => some []
  | .bool i :: r => (blsOf r).map (i :: ·)
  | _ :: _ => none
theorem blsOf_eq : ∀ {ds : List PyData} {ns : List Bool}, blsOf ds = some ns → ds = ns.map PyData.bool
  | [], _, e => by cases e; rfl
  | .bool i :: r, ns, e => by
    obtain ⟨ms, e1, e2⟩ := Option.map_eq_some_iff.mp (show (blsOf r).map (i :: ·) = some ns from e)
    rw [← e2, blsOf_eq e1]
    rfl
  | .none :: _, _, e => by cases e
  | .int _ :: _, _, e => by cases e
  | .str _ :: _, _, e => by cases e
  | .list _ :: _, _, e => by cases e
  | .tuple _ :: _, _, e => by cases e
  | .dict _ :: _, _, e => by cases e
theorem blsOf_map : ∀ ns : List Bool, blsOf (ns.map PyData.bool) = some ns
  | [] => rfl
  | n :: ns => by
    show (blsOf (ns.map PyData.bool)).map (n :: ·) = _
    rw [blsOf_map ns]
    rfl
/-- insertion sort -/
def insI (x : Int) : List Int → List Int
  | [] => [x]
  | y :: r => if x ≤ y then x :: y :: r else y :: insI x r
def sortI : List Int → List Int
  | [] => []
  | x :: r => insI x (sortI r)
theorem insI_perm (x : Int) : ∀ r : List Int, (insI x r).Perm (x :: r)
  | [] => List.Perm.refl _
  | y :: r => by
    unfold insI
    split
    · exact List.Perm.refl _
    · exact ((insI_perm x r).cons y).trans (List.Perm.swap x y r)
theorem sortI_perm : ∀ r : List Int, (sortI r).Perm r
  | [] => List.Perm.refl _
  | x :: r => (insI_perm x _).trans ((sortI_perm r).cons x)
theorem insI_sorted (x : Int) : ∀ {r : List Int}, r.Pairwise (· ≤ ·) → (insI x r).Pairwise (· ≤ ·)
  | [], _ => by unfold insI; exact List.pairwise_singleton _ _
  | y :: r, h => by
    unfold insI
    obtain ⟨h1, h2⟩ := List.pairwise_cons.mp h
    split
    · rename_i hx
      exact List.pairwise_cons.mpr ⟨fun z hz => by
        rcases List.mem_cons.mp hz with rfl | hz
        · exact hx
        · exact Int.le_trans hx (h1 z hz), h⟩
    · rename_i hx
      refine List.pairwise_cons.mpr ⟨fun z hz => ?_, insI_sorted x h2⟩
      rcases List.mem_cons.mp ((insI_perm x r).mem_iff.mp hz) with rfl | hz
      · omega
      · exact h1 z hz
theorem sortI_sorted : ∀ r : List Int, (sortI r).Pairwise (· ≤ ·)
  | [] => .nil
  | x :: r => insI_sorted x (sortI_sorted r)
theorem sortI_eq {a b : List Int} (h : a.Perm b) (s : a.Pairwise (· ≤ ·)) : a = sortI b := PySem.W.ksm_same (h.trans (sortI_perm b).symm) s (sortI_sorted b)
theorem sortI_rev {a b : List Int} (h : a.Perm b) (s : a.Pairwise (· ≥ ·)) : a = (sortI b).reverse := by
  have z : a.reverse = sortI b := sortI_eq ((List.reverse_perm a).trans h) (List.pairwise_reverse.mpr s)
  rw [← z, List.reverse_reverse]

/-! ### 24. built-in functions on data -/
def lenD : List PyData → (Sl → Prop) → Prop
  | [.list ds], P => P (.v (.int ds.length))
  | [.tuple ds], P => P (.v (.int ds.length))
  | [.str z], P => z.length ≤ sizeLine ∧ P (.v (.int z.length))
  | _, _ => False
def absD : List PyData → (Sl → Prop) → Prop
  | [.int i], P => P (.v (.int (if i < 0 then -i else i)))
  | _, _ => False
def maxD : List PyData → (Sl → Prop) → Prop
  | [.int i, .int j], P => P (.v (.int (if j > i then j else i)))
  | [.int i, .int j, .int k], P => P (.v (.int (max (max i j) k)))
  | [.list ds], P => match intsOf ds with
    | some ns => 0 < ns.length ∧ ∀ m, m ∈ ns → (∀ y, y ∈ ns → y ≤ m) → P (.v (.int m))
    | none => False
  | _, _ => False
def minD : List PyData → (Sl → Prop) → Prop
  | [.int i, .int j], P => P (.v (.int (if j < i then j else i)))
  | [.list ds], P => match intsOf ds with
    | some ns => 0 < ns.length ∧ ∀ m, m ∈ ns → (∀ y, y ∈ ns → m ≤ y) → P (.v (.int m))
    | none => False
  | _, _ => False
def intD : List PyData → (Sl → Prop) → Prop
  | [.int i], P => P (.v (.int i))
  | [.bool k], P => P (.v (.int (if k then 1 else 0)))
  | _, _ => False
def sumD : List PyData → (Sl → Prop) → Prop
  | [.list ds], P => match intsOf ds with
    | some ns => P (.v (.int ns.sum))
    | none => False
  | _, _ => False
def anyD : List PyData → (Sl → Prop) → Prop
  | [.list ds], P => match blsOf ds with
    | some ns => P (.v (.bool (ns.any id)))
    | none => False
  | _, _ => False
def allD : List PyData → (Sl → Prop) → Prop
  | [.list ds], P => match blsOf ds with
    | some ns => P (.v (.bool (ns.all id)))
    | none => False
  | _, _ => False
def sortedD : List PyData → (Sl → Prop) → Prop
  | [.list ds], P => match intsOf ds with
    | some ns => P (.m (.ol ((sortI ns).map .int)))
    | none => False
  | _, _ => False
/-- list(x) of a list or a tuple -/
def copyD : List PyData → (Sl → Prop) → Prop
  | [.list ds], P => P (.m (.ol ds))
  | [.tuple ds], P => P (.m (.ol ds))
  | _, _ => False
section
variable {X : Cx} {E : Ent} {K : PySem.W.Frag}
theorem FpAll.one {F : Hp} {xs : List V} {d : PyData} (h : FpAll F xs [d]) : ∃ v, xs = [v] ∧ Fp F v d := by
  cases h with
  | cons h r =>
    cases r
    exact ⟨_, rfl, h⟩
theorem FpAll.two {F : Hp} {xs : List V} {d e : PyData} (h : FpAll F xs [d, e]) : ∃ v u, xs = [v, u] ∧ Fp F v d ∧ Fp F u e := by
  cases h with
  | cons h r =>
    obtain ⟨u, rfl, hu⟩ := r.one
    exact ⟨_, u, rfl, h, hu⟩
theorem FpAll.three {F : Hp} {xs : List V} {d e f : PyData} (h : FpAll F xs [d, e, f]) : ∃ v u w, xs = [v, u, w] ∧ Fp F v d ∧ Fp F u e ∧ Fp F w f := by
  cases h with
  | cons h r =>
    obtain ⟨u, w, rfl, hu, hw⟩ := r.two
    exact ⟨_, u, w, rfl, h, hu, hw⟩
theorem Fp.ints_inv {F H : Hp} (s : Same F H) {x : V} {ds : List PyData} {ns : List Int} (h : Fp F x (.list ds)) (e : intsOf ds = some ns) : ∃ a, x = .ref a ∧ SqL K H a (ns.map V.int) := by
  obtain ⟨a, vs, rfl, ha, ra⟩ := h.lst_inv
  rw [intsOf_eq e] at ra
  rw [FpAll.of_ints ra] at ha
  exact ⟨a, rfl, SqL.of (s _ _ ha)⟩
theorem FpAll.of_bls {F : Hp} : ∀ {vs : List V} {ns : List Bool}, FpAll F vs (ns.map PyData.bool) → vs = ns.map V.bl
  | _, [], h => by cases h; rfl
  | _, n :: ns, h => by
    rw [List.map_cons] at h
    cases h with
    | cons h r =>
      cases h
      rw [FpAll.of_bls r]
      rfl
theorem Fp.bls_inv {F H : Hp} (s : Same F H) {x : V} {ds : List PyData} {ns : List Bool} (h : Fp F x (.list ds)) (e : blsOf ds = some ns) : ∃ a, x = .ref a ∧ SqL K H a (ns.map V.bl) := by
  obtain ⟨a, vs, rfl, ha, ra⟩ := h.lst_inv
  rw [blsOf_eq e] at ra
  rw [FpAll.of_bls ra] at ha
  exact ⟨a, rfl, SqL.of (s _ _ ha)⟩
theorem c_len : CallR X (.builtin "len") (fun xs H Q => (∃ p ys, xs = [.ref p] ∧ (SqL X.K H p ys ∨ SqT X.K H p ys) ∧ Q (.int ys.length) H) ∨ ∃ z, xs = [.str z] ∧ z.length ≤ sizeLine ∧ Q (.int z.length) H) := call_len_seq.or call_len_str
theorem o_len : OpL K (fun xs H Q => (∃ p ys, xs = [.ref p] ∧ (SqL K H p ys ∨ SqT K H p ys) ∧ Q (.int ys.length) H) ∨ ∃ z, xs = [.str z] ∧ z.length ≤ sizeLine ∧ Q (.int z.length) H) lenD := by
  intro F H xs ds Q P s h p k
  unfold lenD at p
  split at p
  · obtain ⟨v, rfl, hv⟩ := h.one
    obtain ⟨a, vs, rfl, ha, ra⟩ := hv.lst_inv
    exact .inl ⟨a, vs, rfl, .inl (SqL.of (s _ _ ha)), by rw [ra.length]; exact k.flat s (.int _) p⟩
  · obtain ⟨v, rfl, hv⟩ := h.one
    obtain ⟨a, vs, rfl, ha, ra⟩ := hv.tup_inv
    exact .inl ⟨a, vs, rfl, .inr (SqT.of (s _ _ ha)), by rw [ra.length]; exact k.flat s (.int _) p⟩
  · obtain ⟨v, rfl, hv⟩ := h.one
    exact .inr ⟨_, by rw [hv.str_inv], p.1, k.flat s (.int _) p.2⟩
  · exact p.elim
theorem o_abs : OpL K (fun xs H Q => ∃ i, xs = [.int i] ∧ Q (.int (if i < 0 then -i else i)) H) absD := by
  intro F H xs ds Q P s h p k
  unfold absD at p
  split at p
  · obtain ⟨v, rfl, hv⟩ := h.one
    exact ⟨_, by rw [hv.int_inv], k.flat s (.int _) p⟩
  · exact p.elim
def rMxA (K : PySem.W.Frag) : List V → Hp → VK → Prop := fun xs H Q => ((∃ i j, xs = [.int i, .int j] ∧ Q (.int (if j > i then j else i)) H) ∨ rMax K xs H Q) ∨ rNuC3 nuMax3 xs H Q
theorem c_max (hc : X.calm = true) : CallR X (.builtin "max") (rMxA X.K) := ((call_max2 hc).or (cr_max hc)).or (call_max3Nu hc)
theorem nuMax3_int (i j k : Int) : nuMax3 (.int i) (.int j) (.int k) = some (.int (max (max i j) k)) := by
  have e : ∀ a b : Int, nuMax2 (.int a) (.int b) = some (.int (max a b)) := by
    intro a b
    show some (if decide (a < b) = true then V.int b else V.int a) = _
    by_cases h : a < b
    · rw [if_pos (decide_eq_true h), Int.max_eq_right (by omega)]
    · rw [if_neg (by simpa using h), Int.max_eq_left (by omega)]
  show (nuMax2 (.int i) (.int j)).bind (fun m => nuMax2 m (.int k)) = _
  rw [e, Option.bind_some, e]
theorem c_min (hc : X.calm = true) : CallR X (.builtin "min") (fun xs H Q => (∃ i j, xs = [.int i, .int j] ∧ Q (.int (if j < i then j else i)) H) ∨ rMin X.K xs H Q) := (call_min2 hc).or (cr_min hc)
theorem o_max : OpL K (rMxA K) maxD := by
  intro F H xs ds Q P s h p k
  unfold maxD at p
  split at p
  · obtain ⟨v, u, rfl, hv, hu⟩ := h.two
    exact .inl (.inl ⟨_, _, by rw [hv.int_inv, hu.int_inv], k.flat s (.int _) p⟩)
  · obtain ⟨v, u, w, rfl, hv, hu, hw⟩ := h.three
    refine .inr ⟨_, _, _, _, rfl, ?_, k.flat s (.int _) p⟩
    rw [hv.int_inv, hu.int_inv, hw.int_inv]
    exact nuMax3_int ..
  · obtain ⟨v, rfl, hv⟩ := h.one
    split at p
    · rename_i ns e
      obtain ⟨a, rfl, hs⟩ := hv.ints_inv (K := K) s e
      exact .inl (.inr ⟨a, ns, rfl, hs, p.1, fun m h1 h2 => k.flat s (.int _) (p.2 m h1 h2)⟩)
    · exact p.elim
  · exact p.elim
theorem o_min : OpL K (fun xs H Q => (∃ i j, xs = [.int i, .int j] ∧ Q (.int (if j < i then j else i)) H) ∨ rMin K xs H Q) minD := by
  intro F H xs ds Q P s h p k
  unfold minD at p
  split at p
  · obtain ⟨v, u, rfl, hv, hu⟩ := h.two
    exact .inl ⟨_, _, by rw [hv.int_inv, hu.int_inv], k.flat s (.int _) p⟩
  · obtain ⟨v, rfl, hv⟩ := h.one
    split at p
    · rename_i ns e
      obtain ⟨a, rfl, hs⟩ := hv.ints_inv (K := K) s e
      exact .inr ⟨a, ns, rfl, hs, p.1, fun m h1 h2 => k.flat s (.int _) (p.2 m h1 h2)⟩
    · exact p.elim
  · exact p.elim
theorem o_int : OpL K (fun xs H Q => (∃ i, xs = [.int i] ∧ Q (.int i) H) ∨ ∃ k, xs = [.bl k] ∧ Q (.int (if k then 1 else 0)) H) intD := by
  intro F H xs ds Q P s h p k
  unfold intD at p
  split at p
  · obtain ⟨v, rfl, hv⟩ := h.one
    exact .inl ⟨_, by rw [hv.int_inv], k.flat s (.int _) p⟩
  · obtain ⟨v, rfl, hv⟩ := h.one
    exact .inr ⟨_, by rw [hv.bl_inv], k.flat s (.int _) p⟩
  · exact p.elim
theorem o_sum : OpL K (rSum K) sumD := by
  intro F H xs ds Q P s h p k
  unfold sumD at p
  split at p
  · obtain ⟨v, rfl, hv⟩ := h.one
    split at p
    · rename_i ns e
      obtain ⟨a, rfl, hs⟩ := hv.ints_inv (K := K) s e
      exact ⟨a, ns, rfl, hs, k.flat s (.int _) p⟩
    · exact p.elim
  · exact p.elim
theorem o_any : OpL K (rAny K) anyD := by
  intro F H xs ds Q P s h p k
  unfold anyD at p
  split at p
  · obtain ⟨v, rfl, hv⟩ := h.one
    split at p
    · rename_i ns e
      obtain ⟨a, rfl, hs⟩ := hv.bls_inv (K := K) s e
      exact ⟨a, ns, rfl, hs, k.flat s (.bl _) p⟩
    · exact p.elim
  · exact p.elim
theorem o_all : OpL K (rAll K) allD := by
  intro F H xs ds Q P s h p k
  unfold allD at p
  split at p
  · obtain ⟨v, rfl, hv⟩ := h.one
    split at p
    · rename_i ns e
      obtain ⟨a, rfl, hs⟩ := hv.bls_inv (K := K) s e
      exact ⟨a, ns, rfl, hs, k.flat s (.bl _) p⟩
    · exact p.elim
  · exact p.elim
theorem o_sorted : OpL K (rSortedI K) sortedD := by
  intro F H xs ds Q P s h p k
  unfold sortedD at p
  split at p
  · obtain ⟨v, rfl, hv⟩ := h.one
    split at p
    · rename_i ns e
      obtain ⟨a, rfl, hs⟩ := hv.ints_inv (K := K) s e
      refine ⟨a, ns, rfl, hs, fun ns' q h1 h2 hq => ?_⟩
      rw [sortI_eq h1 h2]
      exact k.list s (FpAll.ints _) p q hq
    · exact p.elim
  · exact p.elim
theorem o_copy : OpL K (fun xs H Q => ∃ p ys, xs = [.ref p] ∧ (SqL K H p ys ∨ SqT K H p ys) ∧ ∀ l, H l = none → Q (.ref l) (upd H l (.lst ys))) copyD := by
  intro F H xs ds Q P s h p k
  unfold copyD at p
  split at p
  · obtain ⟨v, rfl, hv⟩ := h.one
    obtain ⟨a, vs, rfl, ha, ra⟩ := hv.lst_inv
    exact ⟨a, vs, rfl, .inl (SqL.of (s _ _ ha)), k.list s ra p⟩
  · obtain ⟨v, rfl, hv⟩ := h.one
    obtain ⟨a, vs, rfl, ha, ra⟩ := hv.tup_inv
    exact ⟨a, vs, rfl, .inr (SqT.of (s _ _ ha)), k.list s ra p⟩
  · exact p.elim

/-! sorted(xs, reverse=True) -/
def sortedRD : List PyData → PyData → (Sl → Prop) → Prop
  | [.list ds], .bool true, P => match intsOf ds with
    | some ns => P (.m (.ol ((sortI ns).reverse.map .int)))
    | none => False
  | _, _, _ => False
def pSortedR (pa pk : PAs) : PO := fun env Q => pa env fun gs env1 => pk env1 fun hs env2 => match agD? gs, agD? hs with
  | some ds, some [b] => sortedRD ds b fun r => Q r env2
  | _, _ => False
theorem l_sortedR {x : Str} {p pos : Pos} {e : Expr} {es : List Expr} {kws : List Keyword} {pa pk : PAs} (hg : Gl X x) (hm : X.mg x = none) (hv : bootBuiltins x = some (.builtin "sorted")) (ha : PA X (e :: es) (liftA X.K E pa)) (hk : PK X kws (liftA X.K E pk)) (hn : x ≠ "__name__" := by decide) (hdb : (x == ("__debug__" : Str)) = false := by decide)
    (he : backTo pos (starEach (e :: es) X.env) = (false, eval e X.env) :: backTo pos (starEach es X.env) := by rfl) (hpl : (backTo pos (starEach (e :: es) X.env)).any (·.1) = false := by rfl)
    (hall : (backToKw pos (keywordEach kws X.env)).all (·.1.isSome) = true := by rfl) (hnone : (backToKw pos (keywordEach kws X.env)).any (·.1.isNone) = false := by rfl) (hks : (backToKw pos (keywordEach kws X.env)).filterMap (·.1) = [Str.ofString "reverse"] := by rfl) :
    PE X (.Call (.Name x p) (e :: es) kws pos) (liftO X.K E (pSortedR pa pk)) :=
  pe_w (pe_callBK (cr_sortedRev (b := true)) hg hm hv ha hk hn hdb he hpl hall hnone hks) fun σ H Q ⟨ts, F, env, As, Q', S, fx, p, k⟩ => ⟨ts, F, env, As, _, S, fx, p, fun vs gs F1 H1 env1 As1 S1 f1 P1 q => ⟨ts, F1, env1, As1, _, S1, fx, q, fun zs hs F2 H2 env2 As2 S2 f2 P2 q => by
    split at q
    · rename_i ds b e1 e2
      have h1 := AgOk.ds (AgOk.to f2 P1) e1
      have h2 := AgOk.ds P2 e2
      unfold sortedRD at q
      split at q
      · obtain ⟨v, rfl, hv⟩ := h1.one
        obtain ⟨w, rfl, hw⟩ := h2.one
        split at q
        · rename_i ns e
          obtain ⟨a, rfl, hs⟩ := hv.ints_inv (K := X.K) S2.sub e
          refine ⟨a, ns, rfl, by rw [hw.bl_inv], hs, fun ns' r h3 h4 hr => ?_⟩
          have h5 : ns' = (sortI ns).reverse := sortI_rev h3 (by
            unfold OrdB at h4
            rw [if_pos rfl] at h4
            exact h4)
          rw [h5]
          exact (KN.ko' k S2 (f1.trans f2)).list S2.sub (FpAll.ints _) q r hr
        · exact q.elim
      · exact q.elim
    · exact q.elim⟩⟩

/-! list(range(..)) -/
def pListRng (pa : PAs) : PO := fun env Q => pa env fun gs env1 => match gs with
  | [.d (.int j)] => RgOk 0 j ∧ Q (.m (.ol (rangeD 0 1 j.toNat))) env1
  | [.d (.int i), .d (.int j)] => RgOk i j ∧ Q (.m (.ol (rangeD i 1 (j - i).toNat))) env1
  | [.d (.int i), .d (.int j), .d (.int c)] => (c = -1 ∧ RgOk j i) ∧ Q (.m (.ol (rangeD i (-1) (i - j).toNat))) env1
  | _ => False
theorem FpAll.range {F : Hp} {lo c : Int} {n : Nat} : FpAll F ((List.range n).map fun i => V.int (lo + (i : Nat) * c)) (rangeD lo c n) := by
  unfold rangeD
  have : ∀ l : List Nat, FpAll F (l.map fun i => V.int (lo + (i : Nat) * c)) (l.map fun i => PyData.int (lo + (i : Nat) * c)) := by
    intro l
    induction l with
    | nil => exact .nil
    | cons x r ih => exact .cons (.int _) ih
  exact this _
theorem rgV_eq (a b : Int) : rgV a b = (List.range (b - a).toNat).map fun i => V.int (a + (i : Nat) * 1) := by
  unfold rgV
  refine List.map_congr_left fun i _ => ?_
  rw [Int.mul_one]
theorem prg_A {es : List Expr} {t : TA} {p pos : Pos} {e1 : Expr} {er : List Expr} (hes : es = e1 :: er) (hg : Gl X "range") (hm : X.mg "range" = none) (ha : PA X es t) (hs : starEach es X.env = (false, eval e1 X.env) :: starEach er X.env) (hpl : (backTo pos (starEach er X.env)).any (·.1) = false) {pins : List (Addr × Obj)} {s : Shared} {σ : L2.St} {H : Hp}
    {Q : Value → Shared → Prop} (I : Inv X pins σ H s) {R : List V → Hp → Prop} (h : t σ H R)
    (k : ∀ us s1 vs H1, Inv X pins σ H1 s1 → Vals vs us → R vs H1 → wpAny (model X.prog X.w) X.A (call (.type "range") us) Q X.xe s1) : wpAny (model X.prog X.w) X.A (eval (.Call (.Name "range" p) es [] pos) X.env) Q X.xe s := by
  subst hes
  exact Call_ (ld_blt I hg hm boot_range (PyProof.Rows.callWith_type1 (thn (ha.run pos pins s σ H _ I h) fun us s1 ⟨vs, H1, I1, r1, q1⟩ => k us s1 vs H1 I1 r1 q1) hs hpl))
theorem l_listRng {es er : List Expr} {e1 : Expr} {pa : PAs} {p p2 pos pos2 : Pos} (hes : es = e1 :: er) (hc : X.calm = true) (hg : Gl X "list") (hm : X.mg "list" = none) (hg2 : Gl X "range") (hm2 : X.mg "range" = none) (ha : PA X es (liftA X.K E pa))
    (hs : starEach es X.env = (false, eval e1 X.env) :: starEach er X.env) (hpl : (backTo pos2 (starEach er X.env)).any (·.1) = false) (na : starEach [.Call (.Name "range" p2) es [] pos2] X.env = (false, eval (.Call (.Name "range" p2) es [] pos2) X.env) :: starEach [] X.env) :
    PE X (.Call (.Name "list" p) [.Call (.Name "range" p2) es [] pos2] [] pos) (liftO X.K E (pListRng pa)) := by
  refine ⟨fun pins s σ H Q I ⟨ts, F, env, As, Q', S, fx, p, k⟩ => ?_⟩
  refine Call_ (ld_blt I hg hm boot_list (PyProof.Rows.callWith_type1 (args_cons (prg_A hes hg2 hm2 ha hs hpl I (R := fun vs H1 => ∃ gs F1 env1 As1, SR X.K E F1 H1 (σ ++ ts) env1 As1 ∧ Same F F1 ∧ Paired (AgOk F1 σ) vs gs ∧ (match gs with
      | [.d (.int j)] => RgOk 0 j ∧ Q' (.m (.ol (rangeD 0 1 j.toNat))) env1
      | [.d (.int i), .d (.int j)] => RgOk i j ∧ Q' (.m (.ol (rangeD i 1 (j - i).toNat))) env1
      | [.d (.int i), .d (.int j), .d (.int c)] => (c = -1 ∧ RgOk j i) ∧ Q' (.m (.ol (rangeD i (-1) (i - j).toNat))) env1
      | _ => False)) ⟨ts, F, env, As, _, S, fx, p, fun vs gs F1 H1 env1 As1 S1 f1 P q => ⟨gs, F1, env1, As1, S1, f1, P, q⟩⟩ fun us s1 vs H1 I1 r ⟨gs, F1, env1, As1, S1, f1, P, q⟩ => ?_) na) na))
  have fin : ∀ {a b c : Int} {t u v : Tok} {s2 : Shared} {r0 : Addr} {n : Nat}, Inv X pins σ H1 s2 → IsRange s2.heap r0 a b c t u v → Builtin.Range.small a b c = true → Builtin.Range.rangeSize a b c = n → n ≤ 2 ^ 24 → Q' (.m (.ol (rangeD a c n))) env1 →
      wpAny (model X.prog X.w) X.A (call (.type "list") [.ref r0]) (EP X pins σ Q) X.xe s2 := by
    intro a b c t u v s2 r0 n I2 hr hsm hsz hn q
    refine PySem.call_list_range (n := n) (I2.ok.hd hc) hr hsm hsz hn fun h' tk acc c' hk e' hi => ?_
    have hv : Vals ((List.range n).map fun i => V.int (a + (i : Nat) * c)) acc.toList := by
      have e : acc.toList.length = n := by rw [Array.length_toList]; exact hi.1
      rw [← e]
      refine vals_of_get acc.toList _ fun j w hj => ?_
      obtain ⟨t, rfl⟩ := hi.2 j w (by rw [← hj, Array.getElem?_toList])
      exact ⟨t, rfl⟩
    have hfr := I2.hok.fresh (Nat.le_refl s2.heap.objs.size)
    refine ⟨.ref s2.heap.objs.size, upd H1 s2.heap.objs.size (.lst _), I2.laid hk (Nat.le_refl _) (show ObjOk X.prog X.w _ _ _ (.lst ((List.range n).map fun i => V.int (a + (i : Nat) * c))) from ⟨?_, acc.toList, c', hv, ?_⟩), rfl, ?_⟩
    · rw [List.length_map, List.length_range, sizeLine_eq]
      omega
    · rw [Array.toArray_toList]; exact e'
    · exact (KN.ko' k S1 f1).list S1.sub FpAll.range q _ hfr
  split at q
  · obtain ⟨v, rfl, hv⟩ := paired_one P
    have e := hv.int_inv
    subst e
    obtain ⟨u, rfl, t, rfl⟩ := vals1 r
    obtain ⟨⟨b1, b2, b3, b4, b5⟩, q⟩ := q
    refine call_range_1 (args_nil (fin (I1.kept fun b u e => Heap.get?_push_of_some _ e) (IsRange.new _ _ _ _ _ _ _) (small_one b1 b2 b3 b4) (rangeSize_nat _ _) b5 ?_))
    simpa using q
  · obtain ⟨v, w, rfl, hv, hw⟩ := paired_two P
    have e := hv.int_inv
    subst e
    have e := hw.int_inv
    subst e
    obtain ⟨u1, u2, rfl, ⟨t, rfl⟩, ⟨t', rfl⟩⟩ := vals2 r
    obtain ⟨⟨b1, b2, b3, b4, b5⟩, q⟩ := q
    exact call_range_2 (args_nil (fin (I1.kept fun b u e => Heap.get?_push_of_some _ e) (IsRange.new _ _ _ _ _ _ _) (small_one b1 b2 b3 b4) (rangeSize_nat _ _) b5 q))
  · obtain ⟨v, w, z, rfl, hv, hw, hz⟩ := paired_three P
    have e := hv.int_inv
    subst e
    have e := hw.int_inv
    subst e
    have e := hz.int_inv
    subst e
    obtain ⟨⟨rfl, b1, b2, b3, b4, b5⟩, q⟩ := q
    cases r with
    | cons r1 r =>
      obtain ⟨u1, u2, rfl, ⟨t', rfl⟩, ⟨t'', rfl⟩⟩ := vals2 r
      obtain ⟨t, rfl⟩ := r1
      obtain ⟨c0, c1, c2, c3⟩ := RgC.neg b3 b4 b1 b2
      refine call_range_3 (by decide) (args_nil (fin (I1.kept fun b u e => Heap.get?_push_of_some _ e) (IsRange.new _ _ _ _ _ _ _) c2 c3 b5 q)) (.inl (PyProof.noPylong_small c1))
  · exact q.elim
end
end PL

namespace PL
open PySem PySem.Spec PyProof.Rows L2

/-! ### 25. repr -/
def reprD : List PyData → (Sl → Prop) → Prop
  | [.int i], P => i.natAbs.log2 < 1920 ∧ P (.v (.str (toString i)))
  | [.list ds], P => (PyData.showable (.list ds) = true ∧ PyData.hasDict (.list ds) = false ∧ PyData.depth (.list ds) ≤ 60 ∧ (PyData.shown (.list ds)).length ≤ sizeLine) ∧ P (.v (.str (PyData.shown (.list ds))))
  | [.tuple ds], P => (PyData.showable (.tuple ds) = true ∧ PyData.hasDict (.tuple ds) = false ∧ PyData.depth (.tuple ds) ≤ 60 ∧ (PyData.shown (.tuple ds)).length ≤ sizeLine) ∧ P (.v (.str (PyData.shown (.tuple ds))))
  | _, _ => False
def rRepr (K : PySem.W.Frag) : List V → Hp → VK → Prop := fun xs H Q => (∃ i, xs = [.int i] ∧ i.natAbs.log2 < 1920 ∧ Q (.str (toString i)) H) ∨
  ∃ a d, xs = [.ref a] ∧ Dp K H (.ref a) d ∧ (d.showable = true ∧ d.hasDict = false ∧ d.depth ≤ 60 ∧ d.shown.length ≤ sizeLine) ∧ Q (.str d.shown) H
section
variable {X : Cx} {E : Ent} {K : PySem.W.Frag}
theorem c_repr (hg : X.A.guards = some []) (hu : X.A.units + 64 < cLine) : CallR X (.builtin "repr") (rRepr X.K) := by
  intro pins s σ H xs us Q I r h
  rcases h with h | ⟨a, d, rfl, hd, ⟨h1, h2, h3, h4⟩, q⟩
  · exact SkE.call_repr_int pins s σ H xs us Q I r h
  · obtain ⟨u, rfl, e⟩ := vals1 r
    obtain rfl : u = Value.ref a := e
    obtain ⟨as, rd⟩ := Dp.reads I d (.ref a) (.ref a) hd rfl
    exact repr_of_reads' rd h1 (fun z => by rw [h2] at z; cases z) hg (by omega) (fun _ _ z => z) (fun h' u tk hk => ⟨.str d.shown, H, I.kept (t' := tk) hk, ⟨_, rfl⟩, q⟩) h4
theorem o_repr : OpL K (rRepr K) reprD := by
  intro F H xs ds Q P s h p k
  unfold reprD at p
  split at p
  · obtain ⟨v, rfl, hv⟩ := h.one
    exact .inl ⟨_, by rw [hv.int_inv], p.1, k.flat s (.str _) p.2⟩
  · obtain ⟨v, rfl, hv⟩ := h.one
    have hd := hv.dp (K := K) s
    obtain ⟨a, vs, rfl, _⟩ := hv.lst_inv
    exact .inr ⟨a, _, rfl, hd, p.1, k.flat s (.str _) p.2⟩
  · obtain ⟨v, rfl, hv⟩ := h.one
    have hd := hv.dp (K := K) s
    obtain ⟨a, vs, rfl, _⟩ := hv.tup_inv
    exact .inr ⟨a, _, rfl, hd, p.1, k.flat s (.str _) p.2⟩
  · exact p.elim

/-! ### 26. slices -/
def cutD (ds : List PyData) (lo hi : Option Int) : List PyData := (ds.drop (HT.sIx ds.length 0 lo)).take (HT.sIx ds.length ds.length hi - HT.sIx ds.length 0 lo)
theorem FpAll.cut {F : Hp} {vs : List V} {ds : List PyData} (h : FpAll F vs ds) (lo hi : Option Int) : FpAll F (cutV vs lo hi) (cutD ds lo hi) := by
  unfold cutV cutD
  rw [h.length]
  exact (h.drop _).take _
abbrev PBd := PEnv → (Option Int → PEnv → Prop) → Prop
def pNoB : PBd := fun env Q => Q none env
def pBd (pa : PX) : PBd := fun env Q => pa env fun d env1 => match d with
  | .int i => Q (some i) env1
  | _ => False
def liftB (K : PySem.W.Frag) (E : Ent) (p : PBd) : TO := fun σ H Q => ∃ ts F env As Q', SR K E F H (σ ++ ts) env As ∧ FixIn E σ ∧ p env Q' ∧ ∀ o F' H' env' As', SR K E F' H' (σ ++ ts) env' As' → Same F F' → Q' o env' → Q o H'
theorem lb_none : L2.PO X none (liftB X.K E pNoB) := ⟨fun pins s σ H Q I ⟨ts, F, env, As, Q', S, fx, p, k⟩ => po_none.run pins s σ H Q I (k none F H env As S (Same.refl F) p)⟩
theorem lb_some {e : Expr} {pa : PX} (h : PE X e (liftE X.K E pa)) : L2.PO X (some e) (liftB X.K E (pBd pa)) := ⟨fun pins s σ H Q I ⟨ts, F, env, As, Q', S, fx, p, k⟩ => (po_some h).run pins s σ H Q I ⟨ts, F, env, As, _, S, fx, p, fun v d F1 H1 env1 As1 S1 f1 hv q => by
  split at q
  · exact ⟨_, hv.int_inv, k _ F1 H1 env1 As1 S1 f1 q⟩
  · exact q.elim⟩⟩
/-- xs[lo:hi] of a list -/
def pSlice (pa : PX) (pl ph : PBd) : PO := fun env Q => pa env fun d env1 => pl env1 fun lo env2 => ph env2 fun hi env3 => match d with
  | .list ds => Q (.m (.ol (cutD ds lo hi))) env3
  | _ => False
theorem l_slice {e : Expr} {lo hi : Option Expr} {p2 pos : Pos} {pa : PX} {pl ph : PBd} (he : PE X e (liftE X.K E pa)) (hl : L2.PO X lo (liftB X.K E pl)) (hu : L2.PO X hi (liftB X.K E ph)) : PE X (.Subscript e (.Slice lo hi none p2) pos) (liftO X.K E (pSlice pa pl ph)) :=
  pe_w (pe_slice sl_list he hl hu) fun σ H Q ⟨ts, F, env, As, Q', S, fx, p, k⟩ => ⟨ts, F, env, As, _, S, fx, p, fun v d F1 H1 env1 As1 S1 f1 hv q => ⟨ts, F1, env1, As1, _, S1, fx, q, fun lo F2 H2 env2 As2 S2 f2 q => ⟨ts, F2, env2, As2, _, S2, fx, q, fun hi F3 H3 env3 As3 S3 f3 q => by
    split at q
    · obtain ⟨a, vs, rfl, ha, ra⟩ := hv.lst_inv
      have f := f2.trans f3
      exact ⟨a, vs, rfl, SqL.of (S3.sub _ _ (f _ _ ha)), (KN.ko' k S3 (f1.trans f)).list S3.sub ((ra.to f).cut lo hi) q⟩
    · exact q.elim⟩⟩⟩
/-- the value of an owned slot -/
def isM (env : PEnv) (i : Nat) : Prop := ∃ c, env[i]? = some (.m c)
theorem SR.mslot {F H : Hp} {σ ts : L2.St} {env : PEnv} {As : Nat → List Addr} (S : SR K E F H (σ ++ ts) env As) {i : Nat} (hi : i < σ.length) {c : MO} (e : env[i]? = some (.m c)) : ∃ v, σ[i]? = some (some v) ∧ Mp K F H v c (As i) := by
  obtain ⟨x', h1, w, e1, h2⟩ := S.slot i _ e
  subst e1
  exact ⟨w, app_get hi h1, h2⟩
/-- a slice of an owned slot, which stays owned -/
def pSliceM (i : Nat) (pl ph : PBd) : PO := fun env Q => isM env i ∧ pl env fun lo env2 => ph env2 fun hi env3 => match env3[i]? with
  | some (.m (.ol ds)) => Q (.m (.ol (cutD ds lo hi))) env3
  | some (.m (.scr ns)) => Q (.m (.ol (cutD (ns.map .int) lo hi))) env3
  | _ => False
theorem l_sliceM (i : Nat) {x : Str} {px : Pos} {lo hi : Option Expr} {p2 pos : Pos} {pl ph : PBd} (h : PE X (.Name x px) (tVar i)) (hN : i < X.N.length) (hl : L2.PO X lo (liftB X.K E pl)) (hu : L2.PO X hi (liftB X.K E ph)) : PE X (.Subscript (.Name x px) (.Slice lo hi none p2) pos) (liftO X.K E (pSliceM i pl ph)) := by
  refine ⟨fun pins s σ H Q I ⟨ts, F, env, As, Q', S, fx, ⟨⟨c, ec⟩, p⟩, k⟩ => ?_⟩
  have hi' : i < σ.length := by rw [I.len]; exact hN
  obtain ⟨v, hv, _⟩ := S.mslot hi' ec
  refine (pe_slice sl_list h hl hu).run pins s σ H Q I ⟨v, hv, ts, F, env, As, _, S, fx, p, fun lo F2 H2 env2 As2 S2 f2 q => ⟨ts, F2, env2, As2, _, S2, fx, q, fun hi F3 H3 env3 As3 S3 f3 q => ?_⟩⟩
  split at q
  · rename_i ds e
    obtain ⟨w, z, h2⟩ := S3.mslot hi' e
    rw [hv] at z
    cases z
    generalize As3 i = ai at h2
    cases h2 with
    | ol ha ra => exact ⟨_, _, rfl, SqL.of ha, (KN.ko' k S3 (f2.trans f3)).list S3.sub (ra.cut lo hi) q⟩
  · rename_i ns e
    obtain ⟨w, z, h2⟩ := S3.mslot hi' e
    rw [hv] at z
    cases z
    generalize As3 i = ai at h2
    cases h2 with
    | scr hs => exact ⟨_, _, rfl, S3.sub.seq hs, (KN.ko' k S3 (f2.trans f3)).list S3.sub ((FpAll.ints ns).cut lo hi) q⟩
  · exact q.elim
/-- xs[::-1] -/
def revD : PyData → (Sl → Prop) → Prop
  | .list ds, P => P (.m (.ol ds.reverse))
  | _, _ => False
theorem l_revL {e : Expr} {pa : PX} {k : Nat} {p1 p2 p3 pos : Pos} (he : PE X e (liftE X.K E pa)) : PE X (.Subscript e (.Slice none none (some (.UnaryOp .USub (.Constant (.int 1) k p1) p2)) p3) pos) (liftO X.K E (pOp1 revD pa)) :=
  pe_w (pe_revL he) fun σ H Q ⟨ts, F, env, As, Q', S, fx, p, k⟩ => ⟨ts, F, env, As, _, S, fx, p, fun v d F1 H1 env1 As1 S1 f1 hv q => by
    unfold revD at q
    split at q
    · obtain ⟨a, vs, rfl, ha, ra⟩ := hv.lst_inv
      exact ⟨a, vs, rfl, SqL.of (S1.sub _ _ ha), (KN.ko' k S1 f1).list S1.sub ra.reverse q⟩
    · exact q.elim⟩

/-! ### 27. what is done to an owned slot -/
/-- the items of an owned list or of the script -/
def mItems : MO → Option (List PyData)
  | .ol ds => some ds
  | .scr ns => some (ns.map .int)
  | .lst cs => cs.mapM fun c => match c with
    | .fz d => some d
    | _ => some .none
  | _ => none
/-- xs[i] of an owned slot; an item that is owned itself is refused -/
def itemM : MO → Int → Option PyData
  | .ol ds, i => atI ds i
  | .scr ns, i => atI (ns.map .int) i
  | .lst cs, i => match atI cs i with
    | some (.fz d) => some d
    | _ => none
  | _, _ => none
def lenM : MO → Option Nat
  | .ol ds => some ds.length
  | .scr ns => some ns.length
  | .lst cs => some cs.length
  | _ => none
theorem MpAll.length {F H : Hp} : ∀ {vs : List V} {cs : List MO} {as : List Addr}, MpAll K F H vs cs as → vs.length = cs.length
  | _, _, _, .nil => rfl
  | _, _, _, .cons _ r => by rw [List.length_cons, List.length_cons, MpAll.length r]
theorem MpAll.get {F H : Hp} : ∀ {vs : List V} {cs : List MO} {as : List Addr} {i : Nat} {c : MO}, MpAll K F H vs cs as → cs[i]? = some c → ∃ v a1 a2 a3, vs[i]? = some v ∧ Mp K F H v c a2 ∧ as = a1 ++ (a2 ++ a3) ∧
    ∀ {F' H' : Hp} {v' : V} {c' : MO} {a2' : List Addr}, Same F F' → (∀ a ∈ a1 ++ a3, H' a = H a) → Mp K F' H' v' c' a2' → MpAll K F' H' (vs.set i v') (cs.set i c') (a1 ++ (a2' ++ a3))
  | _, _, _, 0, _, .cons (as := as) (bs := bs) h r, e => by
    cases e
    exact ⟨_, [], as, bs, rfl, h, rfl, fun {F' H' v' c' a2'} f k h' => (show MpAll K F' H' _ _ (a2' ++ bs) from .cons h' (r.to f fun a ha => k a (List.mem_append_right _ ha)))⟩
  | _, _, _, i + 1, _, .cons (as := as) (bs := bs) h r, e => by
    rw [List.getElem?_cons_succ] at e
    obtain ⟨v, a1, a2, a3, h1, h2, rfl, h4⟩ := MpAll.get r e
    refine ⟨v, as ++ a1, a2, a3, by rw [List.getElem?_cons_succ]; exact h1, h2, by rw [List.append_assoc], fun {F' H' v' c' a2'} f k h' => ?_⟩
    rw [List.append_assoc]
    exact .cons (h.to f fun a ha => k a (List.mem_append_left _ (List.mem_append_left _ ha))) (h4 f (fun a ha => k a (by
      rcases List.mem_append.mp ha with z | z
      · exact List.mem_append_left _ (List.mem_append_right _ z)
      · exact List.mem_append_right _ z)) h')
theorem Mp.item {F H : Hp} (s : Same F H) {v : V} {c : MO} {as : List Addr} (h : Mp K F H v c as) {i : Int} {d : PyData} (e : itemM c i = some d) : ∃ a xs w, v = .ref a ∧ SqL K H a xs ∧ atI xs i = some w ∧ Fp F w d := by
  cases h with
  | ol ha ra =>
    obtain ⟨w, h1, h2⟩ := atI_fp ra (show atI _ i = some d from e)
    exact ⟨_, _, w, rfl, SqL.of ha, h1, h2⟩
  | scr hs =>
    obtain ⟨w, h1, h2⟩ := atI_fp (FpAll.ints _) (show atI _ i = some d from e)
    exact ⟨_, _, w, rfl, s.seq hs, h1, h2⟩
  | @lst a vs cs as ha r =>
    have e' : (match atI cs i with
      | some (.fz d) => some d
      | _ => none) = some d := e
    split at e'
    · rename_i d' e2
      cases e'
      unfold atI at e2
      cases q : ixN cs.length i with
      | none => rw [q] at e2; cases e2
      | some j =>
        rw [q] at e2
        obtain ⟨w, _, _, _, h1, h2, _, _⟩ := r.get e2
        generalize hz : MO.fz d = cz at h2
        cases h2 with
        | fz h3 =>
          cases hz
          refine ⟨a, vs, w, rfl, SqL.of ha, ?_, h3⟩
          unfold atI
          rw [r.length, q]
          exact h1
        | _ => cases hz
    · cases e'
  | _ => cases e
theorem Mp.len {F H : Hp} (s : Same F H) {v : V} {c : MO} {as : List Addr} (h : Mp K F H v c as) {n : Nat} (e : lenM c = some n) : ∃ a xs, v = .ref a ∧ SqL K H a xs ∧ xs.length = n := by
  cases h with
  | ol ha ra => cases e; exact ⟨_, _, rfl, SqL.of ha, ra.length⟩
  | scr hs => cases e; exact ⟨_, _, rfl, s.seq hs, List.length_map ..⟩
  | lst ha r => cases e; exact ⟨_, _, rfl, SqL.of ha, r.length⟩
  | _ => cases e
/-- xs[i] -/
def pIxM (i : Nat) (pi : PX) : PX := fun env Q => isM env i ∧ pi env fun d env1 => match env1[i]?, d with
  | some (.m c), .int k => ∃ x, itemM c k = some x ∧ Q x env1
  | _, _ => False
theorem l_ixM (i : Nat) {x : Str} {px pos : Pos} {b : Expr} {pi : PX} (hs : PlainIx b) (h : PE X (.Name x px) (tVar i)) (hN : i < X.N.length) (hb : PE X b (liftE X.K E pi)) : PE X (.Subscript (.Name x px) b pos) (liftE X.K E (pIxM i pi)) := by
  refine ⟨fun pins s σ H Q I ⟨ts, F, env, As, Q', S, fx, ⟨⟨c, ec⟩, p⟩, k⟩ => ?_⟩
  have hi' : i < σ.length := by rw [I.len]; exact hN
  obtain ⟨v, hv, _⟩ := S.mslot hi' ec
  refine (pe_ix ix_list h hb hs).run pins s σ H Q I ⟨v, hv, ts, F, env, As, _, S, fx, p, fun w d F1 H1 env1 As1 S1 f1 hd q => ?_⟩
  split at q
  · rename_i c' kk e
    obtain ⟨w2, z, h2⟩ := S1.mslot hi' e
    rw [hv] at z
    cases z
    obtain ⟨y, ey, q⟩ := q
    obtain ⟨a, xs, w3, rfl, h3, h4, h5⟩ := h2.item S1.sub ey
    exact ⟨a, xs, kk, w3, rfl, hd.int_inv, h3, h4, k w3 y F1 H1 env1 As1 S1 f1 h5 q⟩
  · exact q.elim
/-- len(xs) -/
def pLenM (i : Nat) : PX := fun env Q => match env[i]? with
  | some (.m c) => ∃ n, lenM c = some n ∧ Q (.int n) env
  | some (.v (.list ds)) => Q (.int ds.length) env
  | some (.v (.tuple ds)) => Q (.int ds.length) env
  | some (.v (.str z)) => z.length ≤ sizeLine ∧ Q (.int z.length) env
  | _ => False
theorem l_lenM (i : Nat) {x y : Str} {px p pos : Pos} (h : PE X (.Name x px) (tVar i)) (hN : i < X.N.length) (hg : Gl X y) (hm : X.mg y = none) (hv : bootBuiltins y = some (.builtin "len")) (hn : y ≠ "__name__" := by decide) (hdb : (y == ("__debug__" : Str)) = false := by decide)
    (he : starEach [.Name x px] X.env = (false, eval (.Name x px) X.env) :: starEach [] X.env := by rfl) (hpl : (backTo pos (starEach [] X.env)).any (·.1) = false := by rfl) : PE X (.Call (.Name y p) [.Name x px] [] pos) (liftE X.K E (pLenM i)) := by
  refine ⟨fun pins s σ H Q I ⟨ts, F, env, As, Q', S, fx, p, k⟩ => ?_⟩
  have hi' : i < σ.length := by rw [I.len]; exact hN
  refine (pe_callB c_len hg hm hv (pa_cons h pa_nil he) hn hdb he hpl).run pins s σ H Q I ?_
  unfold pLenM at p
  split at p
  · rename_i c e
    obtain ⟨v, z, h2⟩ := S.mslot hi' e
    obtain ⟨n, en, q⟩ := p
    obtain ⟨a, xs, rfl, h3, h4⟩ := h2.len S.sub en
    refine ⟨_, z, .inl ⟨a, xs, rfl, .inl h3, ?_⟩⟩
    rw [h4]
    exact k (.int n) _ F H env As S (Same.refl F) (.int _) q
  · rename_i ds e
    obtain ⟨x', h1, w, e1, h2, _⟩ := S.slot i _ e
    subst e1
    obtain ⟨a, vs, rfl, ha, ra⟩ := h2.lst_inv
    refine ⟨_, app_get hi' h1, .inl ⟨a, vs, rfl, .inl (SqL.of (S.sub _ _ ha)), ?_⟩⟩
    rw [ra.length]
    exact k (.int _) _ F H env As S (Same.refl F) (.int _) p
  · rename_i ds e
    obtain ⟨x', h1, w, e1, h2, _⟩ := S.slot i _ e
    subst e1
    obtain ⟨a, vs, rfl, ha, ra⟩ := h2.tup_inv
    refine ⟨_, app_get hi' h1, .inl ⟨a, vs, rfl, .inr (SqT.of (S.sub _ _ ha)), ?_⟩⟩
    rw [ra.length]
    exact k (.int _) _ F H env As S (Same.refl F) (.int _) p
  · rename_i z' e
    obtain ⟨x', h1, w, e1, h2, _⟩ := S.slot i _ e
    subst e1
    refine ⟨_, app_get hi' h1, .inr ⟨_, by rw [h2.str_inv], p.1, ?_⟩⟩
    exact k (.int _) _ F H env As S (Same.refl F) (.int _) p.2
  · exact p.elim

/-! methods that change a list -/
abbrev RpM := List PyData → List PyData → (PyData → List PyData → Prop) → Prop
def OpM (K : PySem.W.Frag) (r : V → List V → Hp → VK → Prop) (rp : RpM) : Prop := ∀ F H a vs ds xs es Q P, Same F H → H a = some (.lst vs) → FpAll F vs ds → FpAll F xs es → rp ds es P →
  (∀ z d vs' ds', FpAll F vs' ds' → Fp F z d → P d ds' → Q z (upd H a (.lst vs'))) → r (.ref a) xs H Q
def appendD : RpM
  | ds, [d], P => ds.length < sizeLine ∧ P .none (ds ++ [d])
  | _, _, _ => False
def extendD : RpM
  | ds, [.list es], P => ds.length + es.length ≤ sizeLine ∧ P .none (ds ++ es)
  | _, _, _ => False
def pop0D : RpM
  | ds, [], P => ∃ d, ds[ds.length - 1]? = some d ∧ P d ds.dropLast
  | _, _, _ => False
def popAtD : RpM
  | ds, [.int i], P => (-(2 ^ 63) ≤ i ∧ i < 2 ^ 63) ∧ ∃ k d, seqIndex? i ds.length = some k ∧ ds[k]? = some d ∧ P d (ds.eraseIdx k)
  | _, _, _ => False
def insertD : RpM
  | ds, [.int i, d], P => (ds.length < sizeLine ∧ 0 ≤ i ∧ i < 2 ^ 63) ∧ P .none (ds.take i.toNat ++ [d] ++ ds.drop i.toNat)
  | _, _, _ => False
def reverseD : RpM
  | ds, [], P => P .none ds.reverse
  | _, _, _ => False
/-- remove of an int -/
def removeD : RpM
  | ds, [.int k], P => ∃ ns j, intsOf ds = some ns ∧ ns[j]? = some k ∧ (∀ m : Nat, m < j → ns[m]? ≠ some k) ∧ P .none ((ns.eraseIdx j).map .int)
  | _, _, _ => False
theorem m_append : OpM K rAppend appendD := by
  intro F H a vs ds xs es Q P s ha ra rx p k
  unfold appendD at p
  split at p
  · obtain ⟨v, rfl, hv⟩ := rx.one
    exact ⟨a, vs, v, rfl, rfl, ha, by rw [ra.length]; exact p.1, k _ _ _ _ (ra.app (.cons hv .nil)) .non p.2⟩
  · exact p.elim
theorem m_extend : OpM K rExtend extendD := by
  intro F H a vs ds xs es Q P s ha ra rx p k
  unfold extendD at p
  split at p
  · obtain ⟨v, rfl, hv⟩ := rx.one
    obtain ⟨b, us, rfl, hb, rb⟩ := hv.lst_inv
    exact ⟨a, b, vs, us, rfl, rfl, ha, s _ _ hb, by rw [ra.length, rb.length]; exact p.1, k _ _ _ _ (ra.app rb) .non p.2⟩
  · exact p.elim
theorem FpAll.dropLast {F : Hp} {vs : List V} {ds : List PyData} (h : FpAll F vs ds) : FpAll F vs.dropLast ds.dropLast := by
  rw [List.dropLast_eq_take, List.dropLast_eq_take, h.length]
  exact h.take _
theorem m_pop0 : OpM K rPop pop0D := by
  intro F H a vs ds xs es Q P s ha ra rx p k
  unfold pop0D at p
  split at p
  · cases rx
    obtain ⟨d, e, p⟩ := p
    obtain ⟨v, h1, h2⟩ := ra.get e
    exact ⟨a, vs, v, rfl, rfl, ha, by rw [ra.length]; exact h1, k _ _ _ _ ra.dropLast h2 p⟩
  · exact p.elim
theorem m_popAt : OpM K rPopAt popAtD := by
  intro F H a vs ds xs es Q P s ha ra rx p k
  unfold popAtD at p
  split at p
  · obtain ⟨v, rfl, hv⟩ := rx.one
    obtain ⟨⟨b1, b2⟩, j, d, e1, e2, p⟩ := p
    obtain ⟨w, h1, h2⟩ := ra.get e2
    exact ⟨a, vs, _, j, w, rfl, by rw [hv.int_inv], ha, b1, b2, by rw [ra.length]; exact e1, h1, k _ _ _ _ (ra.eraseIdx j) h2 p⟩
  · exact p.elim
theorem m_insert : OpM K (fun x vs H Q => ∃ (l : Addr) (xs : List V) (i : Int) (y : V), x = .ref l ∧ vs = [.int i, y] ∧ H l = some (.lst xs) ∧ xs.length < sizeLine ∧ 0 ≤ i ∧ i < 2 ^ 63 ∧ Q .non (upd H l (.lst (xs.take i.toNat ++ [y] ++ xs.drop i.toNat)))) insertD := by
  intro F H a vs ds xs es Q P s ha ra rx p k
  unfold insertD at p
  split at p
  · obtain ⟨v, u, rfl, hv, hu⟩ := rx.two
    exact ⟨a, vs, _, u, rfl, by rw [hv.int_inv], ha, by rw [ra.length]; exact p.1.1, p.1.2.1, p.1.2.2, k _ _ _ _ (((ra.take _).app (.cons hu .nil)).app (ra.drop _)) .non p.2⟩
  · exact p.elim
theorem m_reverse : OpM K rReverse reverseD := by
  intro F H a vs ds xs es Q P s ha ra rx p k
  unfold reverseD at p
  split at p
  · cases rx
    exact ⟨a, vs, rfl, rfl, ha, k _ _ _ _ ra.reverse .non p⟩
  · exact p.elim
theorem m_remove : OpM K rRemI removeD := by
  intro F H a vs ds xs es Q P s ha ra rx p k
  unfold removeD at p
  split at p
  · obtain ⟨v, rfl, hv⟩ := rx.one
    obtain ⟨ns, j, e, e1, e2, p⟩ := p
    rw [intsOf_eq e] at ra
    rw [FpAll.of_ints ra] at ha
    exact ⟨a, ns, _, j, rfl, by rw [hv.int_inv], ha, e1, e2, k _ _ _ _ (FpAll.ints _) .non p⟩
  · exact p.elim
/-- x.m(..) of an owned list -/
def isOL (env : PEnv) (i : Nat) : Prop := ∃ ds, env[i]? = some (.m (.ol ds))
def pMeth (i : Nat) (rp : RpM) (pa : PAs) : PX := fun env Q => isOL env i ∧ pa env fun gs env1 => match agD? gs, env1[i]? with
  | some es, some (.m (.ol ds)) => rp ds es fun d ds' => Q d (env1.set i (.m (.ol ds')))
  | _, _ => False
theorem mp_ol {F H : Hp} {v : V} {ds : List PyData} {as : List Addr} (h : Mp K F H v (.ol ds) as) : ∃ a vs, v = .ref a ∧ as = [a] ∧ H a = some (.lst vs) ∧ FpAll F vs ds := by
  cases h with
  | ol h1 h2 => exact ⟨_, _, rfl, rfl, h1, h2⟩
/-- an owned list rewritten -/
theorem SR.put {F H : Hp} {σ ts : L2.St} {env : PEnv} {As : Nat → List Addr} (S : SR K E F H (σ ++ ts) env As) {i : Nat} (hi : i < σ.length) {ds : List PyData} (e : env[i]? = some (.m (.ol ds))) : ∃ a vs, σ[i]? = some (some (.ref a)) ∧ H a = some (.lst vs) ∧ FpAll F vs ds ∧ F a = none ∧
    ∀ vs' ds', FpAll F vs' ds' → ∃ As', SR K E F (upd H a (.lst vs')) (σ ++ ts) (env.set i (.m (.ol ds'))) As' := by
  obtain ⟨v, hv, h2⟩ := S.mslot hi e
  obtain ⟨a, vs, rfl, ea, ha, ra⟩ := mp_ol h2
  have hF : F a = none := (S.own i a (by rw [ea]; exact List.mem_singleton.mpr rfl)).1
  refine ⟨a, vs, hv, ha, ra, hF, fun vs' ds' h' => ⟨_, S.write (H' := upd H a (.lst vs')) (as' := [a]) (List.getElem?_eq_some_iff.mp e).1 (by rw [List.getElem?_append_left hi]; exact hv) (.ol upd_same h') (by simp) (fun b hb => .inl (by rw [ea]; exact hb)) fun b hb _ => upd_ne fun z => hb (by rw [ea, z]; exact List.mem_singleton.mpr rfl)⟩⟩
theorem l_meth (i : Nat) {e : Expr} {es : List Expr} {r : V → List V → Hp → VK → Prop} {rp : RpM} {pa : PAs} (hr : OpM X.K r rp) (hN : i < X.N.length) (h : ∀ t, PA X es t → PE X e (tBM X.K "list" r (tVar i) t)) (ha : PA X es (liftA X.K E pa)) : PE X e (liftE X.K E (pMeth i rp pa)) := by
  refine ⟨fun pins s σ H Q I ⟨ts, F, env, As, Q', S, fx, ⟨⟨c, ec⟩, p⟩, k⟩ => ?_⟩
  have hi' : i < σ.length := by rw [I.len]; exact hN
  obtain ⟨a0, vs0, hv, h0, _⟩ := S.put hi' ec
  refine (h _ ha).run pins s σ H Q I ⟨_, hv, .inl ⟨rfl, _, SqL.of h0⟩, ts, F, env, As, _, S, fx, p, fun xs gs F1 H1 env1 As1 S1 f1 P q => ?_⟩
  split at q
  · rename_i es' ds e1 e2
    obtain ⟨a, vs, hv2, ha2, ra, hF, wr⟩ := S1.put hi' e2
    rw [hv] at hv2
    cases hv2
    refine hr F1 H1 _ vs ds xs es' Q _ S1.sub ha2 ra (AgOk.ds P e1) q fun z d vs' ds' h1 h2 q => ?_
    obtain ⟨As', S'⟩ := wr vs' ds' h1
    exact k z d F1 _ _ As' S' f1 h2 q
  · exact q.elim
/-- x.m() -/
def pMeth0 (i : Nat) (rp : RpM) : PX := fun env Q => match env[i]? with
  | some (.m (.ol ds)) => rp ds [] fun d ds' => Q d (env.set i (.m (.ol ds')))
  | _ => False
theorem l_meth0 (i : Nat) {e : Expr} {r : V → List V → Hp → VK → Prop} {rp : RpM} (hr : OpM X.K r rp) (hN : i < X.N.length) (h : PE X e (tBM0 X.K "list" r (tVar i))) : PE X e (liftE X.K E (pMeth0 i rp)) := by
  refine ⟨fun pins s σ H Q I ⟨ts, F, env, As, Q', S, fx, p, k⟩ => ?_⟩
  have hi' : i < σ.length := by rw [I.len]; exact hN
  unfold pMeth0 at p
  split at p
  · rename_i ds e2
    obtain ⟨a, vs, hv, ha, ra, hF, wr⟩ := S.put hi' e2
    refine h.run pins s σ H Q I ⟨_, hv, .inl ⟨rfl, _, SqL.of ha⟩, hr F H _ vs ds [] [] Q _ S.sub ha ra .nil p fun z d vs' ds' h1 h2 q => ?_⟩
    obtain ⟨As', S'⟩ := wr vs' ds' h1
    exact k z d F _ _ As' S' (Same.refl F) h2 q
  · exact p.elim

/-! ### 28. stores into an owned list -/
/-- o[j] = d of an owned list -/
def setM : MO → Int → PyData → Option MO
  | .ol ds, k, d => (ixN ds.length k).map fun j => .ol (ds.set j d)
  | .lst cs, k, d => (ixN cs.length k).bind fun j => match cs[j]? with
    | some (.fz _) => some (.lst (cs.set j (.fz d)))
    | _ => none
  | _, _, _ => none
def setIx (i : Nat) (pj : PX) (d : PyData) (env : PEnv) (Q : PEnv → Prop) : Prop := isM env i ∧ pj env fun ix env1 => match env1[i]?, ix with
  | some (.m c), .int k => ∃ c', setM c k d = some c' ∧ Q (env1.set i (.m c'))
  | _, _ => False
theorem SR.setIt {F H : Hp} {σ ts : L2.St} {env : PEnv} {As : Nat → List Addr} (S : SR K E F H (σ ++ ts) env As) {i : Nat} (hi : i < σ.length) {c c' : MO} (e : env[i]? = some (.m c)) {k : Int} {d : PyData} {w : V} (hw : Fp F w d) (es : setM c k d = some c') :
    ∃ a vs j, σ[i]? = some (some (.ref a)) ∧ H a = some (.lst vs) ∧ ixN vs.length k = some j ∧ ∃ As', SR K E F (upd H a (.lst (vs.set j w))) (σ ++ ts) (env.set i (.m c')) As' := by
  obtain ⟨v, hv, h2⟩ := S.mslot hi e
  have il := (List.getElem?_eq_some_iff.mp e).1
  have hσ : (σ ++ ts)[i]? = some (some v) := by rw [List.getElem?_append_left hi]; exact hv
  generalize hA : As i = ai at h2
  cases h2 with
  | @ol a vs ds h1 h2 =>
    obtain ⟨j, e1, rfl⟩ := Option.map_eq_some_iff.mp (show (ixN ds.length k).map (fun j => MO.ol (ds.set j d)) = some c' from es)
    refine ⟨a, vs, j, hv, h1, by rw [h2.length]; exact e1, _, S.write (H' := upd H a (.lst (vs.set j w))) (as' := [a]) il hσ (.ol upd_same (FpAll.set hw j h2)) (by simp) (fun b hb => .inl (by rw [hA]; exact hb)) fun b hb _ => upd_ne fun z => hb (by rw [hA, z]; exact List.mem_singleton.mpr rfl)⟩
  | @lst a vs cs as h1 h2 =>
    obtain ⟨j, e1, e2⟩ := Option.bind_eq_some_iff.mp (show (ixN cs.length k).bind (fun j => match cs[j]? with
      | some (.fz _) => some (MO.lst (cs.set j (.fz d)))
      | _ => none) = some c' from es)
    split at e2
    · rename_i d0 e3
      cases e2
      obtain ⟨w0, a1, a2, a3, q1, q2, rfl, q4⟩ := h2.get e3
      have nd := S.nd i
      rw [hA] at nd
      generalize hz : MO.fz d0 = cz at q2
      cases q2 with
      | fz q3 =>
        have fr : ∀ b ∈ a1 ++ a3, upd H a (.lst (vs.set j w)) b = H b := fun b hb => upd_ne fun z => (List.nodup_cons.mp nd).1 (by rw [← z]; simpa using hb)
        refine ⟨a, vs, j, hv, h1, by rw [h2.length]; exact e1, _, S.write (H' := upd H a (.lst (vs.set j w))) (as' := a :: (a1 ++ ([] ++ a3))) il hσ (.lst upd_same (q4 (Same.refl F) fr (.fz hw))) nd (fun b hb => .inl (by rw [hA]; exact hb)) fun b hb _ => upd_ne fun z => hb (by rw [hA, z]; exact List.mem_cons_self)⟩
      | _ => cases hz
    · cases e2
  | _ => cases es
/-- x[j] = e -/
def pSetIx (i : Nat) (pj pe : PX) : PSt := fun D env => pe env fun d env1 => setIx i pj d env1 D.nx
theorem le_setIx {i : Nat} {pj : PX} {b : Expr} {ts σ : L2.St} {F H : Hp} {env : PEnv} {As : Nat → List Addr} {v : V} {d : PyData} {Q : Hp → Prop} {Q' : PEnv → Prop} (hi' : i < σ.length) (S : SR K E F H (σ ++ ts) env As) (fx : FixIn E σ) (hv : Fp F v d) (p : setIx i pj d env Q')
    (k : ∀ F' H' env' As', SR K E F' H' (σ ++ ts) env' As' → Same F F' → Q' env' → Q H') : tVar i σ H fun o H1 => liftE K E pj σ H1 fun ix H2 => rSetL o ix v H2 Q := by
  obtain ⟨⟨c, ec⟩, p⟩ := p
  obtain ⟨w, hw, _⟩ := S.mslot hi' ec
  refine ⟨w, hw, ts, F, env, As, _, S, fx, p, fun x dx F1 H1 env1 As1 S1 f1 hx q => ?_⟩
  split at q
  · rename_i c1 kk e1
    obtain ⟨c', e2, q⟩ := q
    obtain ⟨a, vs, j, q1, q2, q3, As2, S2⟩ := S1.setIt hi' e1 (hv.to f1) e2
    rw [hw] at q1
    cases q1
    exact ⟨a, vs, kk, j, rfl, hx.int_inv, q2, q3, k F1 _ _ As2 S2 f1 q⟩
  · exact q.elim
theorem ls_setIx (i : Nat) {b e : Expr} {tg : Expr} {pos : Pos} {pj pe : PX} (hN : i < X.N.length) (h : ∀ te ti, PE X e te → PE X b ti → PS X (.Assign [tg] e pos) (tAsg te (gSub (tVar i) ti rSetL))) (he : PE X e (liftE X.K E pe)) (hb : PE X b (liftE X.K E pj)) : PS X (.Assign [tg] e pos) (liftS X.K E (pSetIx i pj pe)) := by
  refine ⟨fun pins s σ H D I ⟨F, env, As, D', S, fx, p, k⟩ => (h _ _ he hb).run pins s σ H D I ⟨[], F, env, As, _, app_nil_SR S, fx, p, fun v d F1 H1 env1 As1 S1 f1 hv q => ?_⟩⟩
  have hi' : i < σ.length := by rw [I.len]; exact hN
  exact le_setIx (K := X.K) (b := b) hi' S1 fx hv q fun F' H' env' As' S' f' q' => k.nx σ F' H' env' As' rfl (nil_app_SR S') (f1.trans f') q'
/-- x[j], y[k] = e, g -/
def pSet2 (i : Nat) (pj : PX) (i2 : Nat) (pj2 : PX) (pe pg : PX) : PSt := fun D env => pe env fun d env1 => pg env1 fun d2 env2 => setIx i pj d env2 fun env3 => setIx i2 pj2 d2 env3 D.nx
theorem ls_set2 (i i2 : Nat) {b b2 e g : Expr} {tg ev : Expr} {pos : Pos} {pj pj2 pe pg : PX} (hN : i < X.N.length) (hN2 : i2 < X.N.length)
    (h : ∀ te tg' ti ti2, PE X e te → PE X g tg' → PE X b ti → PE X b2 ti2 → PS X (.Assign [tg] ev pos) (tAsg (tTup (tCons te (tCons tg' tNil))) (gTup X.K 2 (gCons (gSub (tVar i) ti rSetL) (gCons (gSub (tVar i2) ti2 rSetL) gNil)))))
    (he : PE X e (liftE X.K E pe)) (hg : PE X g (liftE X.K E pg)) (hb : PE X b (liftE X.K E pj)) (hb2 : PE X b2 (liftE X.K E pj2)) : PS X (.Assign [tg] ev pos) (liftS X.K E (pSet2 i pj i2 pj2 pe pg)) := by
  refine ⟨fun pins s σ H D I ⟨F, env, As, D', S, fx, p, k⟩ => (h _ _ _ _ he hg hb hb2).run pins s σ H D I ?_⟩
  have hi' : i < σ.length := by rw [I.len]; exact hN
  have hi2' : i2 < σ.length := by rw [I.len]; exact hN2
  refine l_two' (K := X.K) (E := E) (ts := []) (R := fun x y H2 => [x, y].length ≤ sizeLine ∧ ∀ p, H2 p = none → gTup X.K 2 (gCons (gSub (tVar i) (liftE X.K E pj) rSetL) (gCons (gSub (tVar i2) (liftE X.K E pj2) rSetL) gNil)) (.ref p) σ (upd H2 p (.tup [x, y])) D.nx) (app_nil_SR S) fx p fun x y d d2 F1 H1 env1 As1 S1 f1 h1 h2 q => ?_
  refine ⟨by show 2 ≤ sizeLine; decide, fun a ha => ?_⟩
  have g := Gr.laid (o := HO.tup [x, y]) S1.sub ha
  have S2 := S1.gr g
  refine ⟨a, [x, y], rfl, SqT.of upd_same, rfl, x, [y], rfl, ?_⟩
  refine le_setIx (K := X.K) (b := b) hi' S2 fx (h1.to g.ff) q fun F3 H3 env3 As3 S3 f3 q3 => ⟨y, [], rfl, ?_⟩
  exact le_setIx (K := X.K) (b := b2) hi2' S3 fx ((h2.to g.ff).to f3) q3 fun F4 H4 env4 As4 S4 f4 q4 => ⟨rfl, k.nx σ F4 H4 env4 As4 rfl (nil_app_SR S4) (((f1.trans g.ff).trans f3).trans f4) q4⟩

/-! ### 29. several names at once -/
/-- a, b = x, y: new values, or what is owned -/
def pPar (is : List Nat) (pr : POs) : PSt := fun D env => pr env fun rs env1 => is.length = rs.length ∧ D.nx (setAll env1 is rs)
theorem setV_two {σ : L2.St} {i j : Nat} {v w : V} : setV σ [i, j] [v, w] = (σ.set i (some v)).set j (some w) := rfl
theorem ls_par2 {i j : Nat} {tg ev : Expr} {pos : Pos} {es : List Expr} {pr : POs} (hi : i < X.N.length ∧ E.fix i = none) (hj : j < X.N.length ∧ E.fix j = none) (h : ∀ ta, PA X es ta → PS X (.Assign [tg] ev pos) (tPar i j ta)) (ha : PA X es (liftAO X.K E pr)) : PS X (.Assign [tg] ev pos) (liftS X.K E (pPar [i, j] pr)) := by
  refine ⟨fun pins s σ H D I ⟨F, env, As, D', S, fx, p, k⟩ => (h _ ha).run pins s σ H D I ⟨[], F, env, As, _, app_nil_SR S, fx, p, fun vs rs ar F1 H1 env1 As1 S1 f1 A ⟨hl, q⟩ => ?_⟩⟩
  have S1' := nil_app_SR S1
  have le : env1.length = X.N.length := by rw [← S1'.len]; exact I.len
  obtain ⟨As', S2⟩ := SR.setAll S1' A (is := [i, j]) (fun m hm => by
    rw [le]
    rcases List.mem_cons.mp hm with rfl | hm
    · exact hi
    · rw [List.mem_singleton.mp hm]; exact hj) hl
  have lv := RsAll.lengths A.1
  match vs, lv, hl, S2 with
  | [v, w], _, _, S2 => exact ⟨v, w, rfl, k.nx _ F1 H1 _ As' (by rw [List.length_set, List.length_set]) S2 f1 q⟩
  | [], lv, hl, _ => rw [← lv] at hl; cases hl
  | [_], lv, hl, _ => rw [← lv] at hl; cases hl
  | _ :: _ :: _ :: _, lv, hl, _ => rw [← lv] at hl; simp at hl
/-- .. by a tuple that is taken apart -/
theorem names_unpack : ∀ (is : List Nat) (vs : List V) (σ : L2.St) (H : Hp) (Q : L2.St → Hp → Prop), is.length = vs.length → Q (setV σ is vs) H → (is.foldr (fun i t => gCons (gName i) t) gNil) vs σ H Q
  | [], [], σ, H, Q, _, q => ⟨rfl, q⟩
  | [], _ :: _, _, _, _, h, _ => by cases h
  | _ :: _, [], _, _, _, h, _ => by cases h
  | i :: is, v :: vs, σ, H, Q, h, q => ⟨v, vs, rfl, names_unpack is vs (σ.set i (some v)) H Q (by simpa using h) q⟩
theorem ls_parN {is : List Nat} {tg ev : Expr} {pos : Pos} {es : List Expr} {pr : POs} (hz : is.length ≤ sizeLine) (hi : ∀ i ∈ is, i < X.N.length ∧ E.fix i = none) (h : ∀ ta, PA X es ta → PS X (.Assign [tg] ev pos) (tAsg (tTup ta) (gTup X.K is.length (is.foldr (fun i t => gCons (gName i) t) gNil)))) (ha : PA X es (liftAO X.K E pr)) :
    PS X (.Assign [tg] ev pos) (liftS X.K E (pPar is pr)) := by
  refine ⟨fun pins s σ H D I ⟨F, env, As, D', S, fx, p, k⟩ => (h _ ha).run pins s σ H D I ⟨[], F, env, As, _, app_nil_SR S, fx, p, fun vs rs ar F1 H1 env1 As1 S1 f1 A ⟨hl, q⟩ => ?_⟩⟩
  have S1' := nil_app_SR S1
  have le : env1.length = X.N.length := by rw [← S1'.len]; exact I.len
  have lv := RsAll.lengths A.1
  refine ⟨?_, fun a hp => ?_⟩
  · rw [lv, ← hl]
    exact hz
  · have live := RsAll.live A.1
    have g := Gr.made (o := HO.tup vs) S1'.sub hp
    have A2 : AllOk X.K E F1 (upd H1 a (.tup vs)) As1 vs rs ar := by
      refine ⟨?_, A.2.1, A.2.2.1, A.2.2.2⟩
      have : ∀ {vs : List V} {rs : List Sl} {ar : List Addr}, RsAll X.K F1 H1 vs rs ar → ∀ {H' : Hp}, (∀ b ∈ ar, H' b = H1 b) → RsAll X.K F1 H' vs rs ar := by
        intro vs rs ar hR
        induction hR with
        | nil => intro H' _; exact .nil
        | cons h r ih => intro H' kk; exact .cons (h.to (Same.refl F1) fun b hb => kk b (List.mem_append_left _ hb)) (ih fun b hb => kk b (List.mem_append_right _ hb))
      exact this A.1 fun b hb => upd_ne fun z => live b hb (by rw [z]; exact hp)
    obtain ⟨As', S2⟩ := SR.setAll (S1'.gr g) A2 (is := is) (fun m hm => by rw [le]; exact hi m hm) hl
    refine ⟨a, vs, rfl, SqT.of upd_same, by rw [lv, hl], names_unpack is vs σ _ _ (by rw [lv, hl]) ?_⟩
    exact k.nx _ F1 _ _ As' (setV_length ..) S2 f1 q
end
end PL

namespace PL
open PySem PySem.Spec PyProof.Rows L2

/-! ### 30. taken apart; op= -/
def pUnp (t : Tg) (pe : PX) : PSt := fun D env => pe env fun d env1 => tgP t d env1 D.nx
def pAug (i : Nat) (rp : PyData → PyData → (Sl → Prop) → Prop) (pe : PX) : PSt := fun D env => match env[i]? with
  | some (.v d0) => pe env fun d env1 => rp d0 d fun r => match r with
    | .v x => D.nx (env1.set i (.v x))
    | _ => False
  | _ => False
section
variable {X : Cx} {E : Ent} {K : PySem.W.Frag}
theorem ls_unp {t : Tg} {tg e : Expr} {pos : Pos} {pe : PX} (ht : ∀ i ∈ t.is, i < X.N.length ∧ E.fix i = none) (h : ∀ te, PE X e te → PS X (.Assign [tg] e pos) (tAsg te (tgT X.K t))) (he : PE X e (liftE X.K E pe)) : PS X (.Assign [tg] e pos) (liftS X.K E (pUnp t pe)) := by
  refine ⟨fun pins s σ H D I ⟨F, env, As, D', S, fx, p, k⟩ => (h _ he).run pins s σ H D I ⟨[], F, env, As, _, app_nil_SR S, fx, p, fun v d F1 H1 env1 As1 S1 f1 hv q => ?_⟩⟩
  have S1' := nil_app_SR S1
  unfold tgP at q
  split at q
  · rename_i bs eb
    obtain ⟨ws, b1, b2, b3⟩ := tg_lift (K := X.K) S1'.sub t hv eb
    refine b3 σ _ ?_
    obtain ⟨As3, S3, _⟩ := SR.setDs S1' b1 fun p hp => by
      have z := ht p.1 (by rw [← b2]; exact List.mem_map.mpr ⟨p, hp, rfl⟩)
      rw [← S1'.len, I.len]
      exact z
    exact k.nx _ F1 H1 _ As3 (setVs_length ws σ) S3 f1 q
  · exact q.elim
theorem PIp.or' {op : Operator} {t u : TIp} (h : PIp X op t) (h' : PIp X op u) : PIp X op fun x y H Q => t x y H Q ∨ u x y H Q := fun pins s σ H x y v w Q I r1 r2 q => q.elim (h pins s σ H x y v w Q I r1 r2) (h' pins s σ H x y v w Q I r1 r2)
/-- an in-place operator, by the operator's own rule -/
def iaddD : PyData → PyData → (Sl → Prop) → Prop
  | .int i, .int j, P => P (.v (.int (i + j)))
  | _, _, _ => False
theorem o_iadd : Op2 K (ipI fun i j => i + j) iaddD := by
  intro F H x y d e Q P s h1 h2 p k
  unfold iaddD at p
  split at p
  · exact ⟨_, _, h1.int_inv, h2.int_inv, k.flat s (.int _) p⟩
  · exact p.elim
theorem o_isub : Op2 K (ipI fun i j => i - j) subD := by
  intro F H x y d e Q P s h1 h2 p k
  unfold subD at p
  split at p
  · exact ⟨_, _, h1.int_inv, h2.int_inv, k.flat s (.int _) p⟩
  · exact p.elim
def imulD : PyData → PyData → (Sl → Prop) → Prop
  | .int i, .int j, P => i.natAbs.log2 + j.natAbs.log2 < 1000000 ∧ P (.v (.int (i * j)))
  | _, _, _ => False
theorem ls_aug {i : Nat} {x : Str} {op : Operator} {ti : TIp} {rp : PyData → PyData → (Sl → Prop) → Prop} {px pos : Pos} {e : Expr} {pe : PX} (hr : Op2 X.K ti rp) (hN : i < X.N.length) (hf : E.fix i = none) (h : ∀ te, PE X e te → PS X (.AugAssign (.Name x px) op e pos) (tAug i te ti)) (he : PE X e (liftE X.K E pe)) :
    PS X (.AugAssign (.Name x px) op e pos) (liftS X.K E (pAug i rp pe)) := by
  refine ⟨fun pins s σ H D I ⟨F, env, As, D', S, fx, p, k⟩ => ?_⟩
  unfold pAug at p
  split at p
  · rename_i d0 e0
    obtain ⟨x', h1, v, e1, h2, _⟩ := S.slot i _ e0
    subst e1
    refine (h _ he).run pins s σ H D I ⟨v, h1, [], F, env, As, _, app_nil_SR S, fx, p, fun w d F1 H1 env1 As1 S1 f1 hv q => ?_⟩
    have S1' := nil_app_SR S1
    refine hr F1 H1 v w d0 d _ _ S1'.sub (h2.to f1) hv q fun z r ar F2 H2 g n q => ?_
    split at q
    · have S2 := S1'.gr g
      have hi : i < env1.length := by rw [← S1'.len, I.len]; exact hN
      exact k.nx _ F2 H2 _ _ (List.length_set ..) (S2.set (n.ok S1') hi hf) (f1.trans g.ff) q
    · exact q.elim
  · exact p.elim
end

/-! ### 31. a part that only looks: what it looks at stays owned -/
def flatD : PyData → Bool
  | .none => true
  | .bool _ => true
  | .int _ => true
  | .str _ => true
  | _ => false
mutual
def flatM : MO → Bool
  | .fz d => flatD d
  | .ol ds => ds.all flatD
  | .lst cs => flatMs cs
  | .dk ms => flatKs ms
  | .ins _ ms => flatFs ms
  | .dt false ms => ms.all fun p => flatD p.2
  | .st _ => true
  | .ob _ _ ds => ds.all flatD
  | _ => false
def flatFs : List (Str × MO) → Bool
  | [] => true
  | (_, c) :: cs => flatM c && flatFs cs
def flatMs : List MO → Bool
  | [] => true
  | c :: cs => flatM c && flatMs cs
def flatKs : List (Key × MO) → Bool
  | [] => true
  | (_, c) :: cs => flatM c && flatKs cs
end
/-- what is looked at without being given away -/
def lookS (S : List Nat) (i : Nat) : Sl → Bool
  | .m (.scr _) => true
  | .m c => decide (i ∈ S) && c.d?.isSome
  | _ => true
def frzSl (S : List Nat) (i : Nat) (s : Sl) : Sl := match s with
  | .m c => if i ∈ S then (match c.d? with
    | some d => .v d
    | none => s) else s
  | _ => s
def frzP (S : List Nat) (env : PEnv) : PEnv := mapI (frzSl S) 0 env
theorem frzP_eq (S : List Nat) (env : PEnv) : frzP S env = env.mapIdx (frzSl S) := mapI_eq _ _
def backB (S : List Nat) (env env' : PEnv) : PEnv := mapI (fun i s => match lookS S i s with
  | true => s
  | false => env'.getD i .un) 0 env
theorem backB_eq (S : List Nat) (env env' : PEnv) : backB S env env' = env.mapIdx fun i s => if lookS S i s = true then s else env'.getD i .un := by
  unfold backB
  rw [mapI_eq]
  refine congrArg (fun g => List.mapIdx g env) (funext fun i => funext fun s => ?_)
  cases lookS S i s <;> rfl
def okSl : Sl → Bool
  | .m c => flatM c
  | _ => false
def okB (S : List Nat) (env env' : PEnv) : Bool := allI (fun i s => lookS S i s || okSl (env'.getD i .un)) 0 env
theorem okB_eq (S : List Nat) (env env' : PEnv) : okB S env env' = (env.mapIdx fun i s => lookS S i s || okSl (env'.getD i .un)).all id := allI_eq _ _
def pBor (S : List Nat) (p : PX) : PX := fun env Q => p (frzP S env) fun d env' => (flatD d = true ∧ okB S env env' = true) ∧ Q d (backB S env env')
def pBorT (S : List Nat) (p : PTt) : PTt := fun env Q => p (frzP S env) fun d env' => okB S env env' = true ∧ Q d (backB S env env')
section
variable {K : PySem.W.Frag} {E : Ent} {F F' H H' : Hp}
theorem Fp.flat {v : V} {d : PyData} (h : Fp F' v d) (e : flatD d = true) : Fp F v d := by
  cases h with
  | non => exact .non
  | bl b => exact .bl b
  | int i => exact .int i
  | str x => exact .str x
  | lst _ _ => cases e
  | tup _ _ => cases e
theorem FpAll.flat : ∀ {vs : List V} {ds : List PyData}, FpAll F' vs ds → ds.all flatD = true → FpAll F vs ds
  | _, _, .nil, _ => .nil
  | _, _, .cons h r, e => by
    rw [List.all_cons, Bool.and_eq_true] at e
    exact .cons (h.flat e.1) (FpAll.flat r e.2)
theorem FpT.flat : ∀ {vs : List (List Key × V)} {ds : List (List Key × PyData)}, FpT F' vs ds → (ds.all fun p => flatD p.2) = true → FpT F vs ds
  | _, _, .nil, _ => .nil
  | _, _, .cons h r, e => by
    rw [List.all_cons, Bool.and_eq_true] at e
    exact .cons (h.flat e.1) (FpT.flat r e.2)
theorem FxAll.flat : ∀ {vs : List V} {ds : List PyData}, FxAll F' vs ds → ds.all flatD = true → FxAll F vs ds
  | _, _, .nil, _ => .nil
  | _, _, .cons h r, e => by
    rw [List.all_cons, Bool.and_eq_true] at e
    refine .cons ?_ (FxAll.flat r e.2)
    cases h with
    | fp h => exact .fp (h.flat e.1)
    | fd _ _ => cases e.1
mutual
theorem Mp.flat : ∀ {c : MO} {v : V} {as : List Addr}, Mp K F' H v c as → flatM c = true → Mp K F H v c as
  | .fz d, _, _, .fz h, e => by
    rw [flatM] at e
    exact .fz (h.flat e)
  | .ol ds, _, _, .ol h r, e => by
    rw [flatM] at e
    exact .ol h (r.flat e)
  | .lst cs, _, _, .lst h r, e => by
    rw [flatM] at e
    exact .lst h (MpAll.flat r e)
  | .dk cs, _, _, .dk h r, e => by
    rw [flatM] at e
    exact .dk h (MpKV.flat r e)
  | .dt false ms, _, _, .dt h r, e => by
    rw [flatM] at e
    exact .dt h (r.flat e)
  | .dt true _, _, _, _, e => by rw [flatM] at e; cases e; all_goals (intros; first | contradiction | (intro h; cases h))
  | .ins _ cs, _, _, .ins h r, e => by
    rw [flatM] at e
    exact .ins h (MpFs.flat r e)
  | .st _, _, _, .st h r, _ => .st h r
  | .ob _ _ ds, _, _, .ob h r, e => by
    rw [flatM] at e
    exact .ob h (r.flat e)
  | .obL _ _ _, _, _, _, e => by rw [flatM] at e; cases e; all_goals (intros; first | contradiction | (intro h; cases h))
  | .scr _, _, _, _, e => by rw [flatM] at e; cases e; all_goals (intros; first | contradiction | (intro h; cases h))
theorem MpFs.flat : ∀ {cs : List (Str × MO)} {vs : List (Str × V)} {as : List Addr}, MpFs K F' H vs cs as → flatFs cs = true → MpFs K F H vs cs as
  | [], _, _, .nil, _ => .nil
  | (k, c) :: cs, _, _, .cons h r, e => by
    rw [flatFs, Bool.and_eq_true] at e
    exact .cons (Mp.flat h e.1) (MpFs.flat r e.2)
theorem MpAll.flat : ∀ {cs : List MO} {vs : List V} {as : List Addr}, MpAll K F' H vs cs as → flatMs cs = true → MpAll K F H vs cs as
  | [], _, _, .nil, _ => .nil
  | c :: cs, _, _, .cons h r, e => by
    rw [flatMs, Bool.and_eq_true] at e
    exact .cons (Mp.flat h e.1) (MpAll.flat r e.2)
theorem MpKV.flat : ∀ {cs : List (Key × MO)} {vs : List (Key × V)} {as : List Addr}, MpKV K F' H vs cs as → flatKs cs = true → MpKV K F H vs cs as
  | [], _, _, .nil, _ => .nil
  | (k, c) :: cs, _, _, .cons h r, e => by
    rw [flatKs, Bool.and_eq_true] at e
    exact .cons (Mp.flat h e.1) (MpKV.flat r e.2)
end
/-- the slots that are looked at -/
def fr (S : List Nat) (env : PEnv) (i : Nat) : Prop := i ∈ S ∧ ∃ c d, env[i]? = some (.m c) ∧ c.d? = some d
open Classical in
noncomputable def frF (F H : Hp) (S : List Nat) (env : PEnv) (As : Nat → List Addr) : Hp := fun a => if ∃ i, fr S env i ∧ a ∈ As i then H a else F a
open Classical in
noncomputable def frA (S : List Nat) (env : PEnv) (As : Nat → List Addr) : Nat → List Addr := fun i => if fr S env i then [] else As i
theorem frA_mem {S : List Nat} {env : PEnv} {As : Nat → List Addr} {i : Nat} {a : Addr} (h : a ∈ frA S env As i) : ¬ fr S env i ∧ a ∈ As i := by
  unfold frA at h
  split at h
  · cases h
  · exact ⟨by assumption, h⟩
theorem frF_in {S : List Nat} {env : PEnv} {As : Nat → List Addr} {a : Addr} {i : Nat} (h : fr S env i) (ha : a ∈ As i) : frF F H S env As a = H a := if_pos ⟨i, h, ha⟩
theorem frF_out {S : List Nat} {env : PEnv} {As : Nat → List Addr} {a : Addr} (h : ¬ ∃ i, fr S env i ∧ a ∈ As i) : frF F H S env As a = F a := if_neg h
theorem SR.look {σ : L2.St} {env : PEnv} {As : Nat → List Addr} (S0 : SR K E F H σ env As) (S : List Nat) : SR K E (frF F H S env As) H σ (frzP S env) (frA S env As) ∧ Same F (frF F H S env As) := by
  have ff : Same F (frF F H S env As) := fun b o e => by
    by_cases h : ∃ i, fr S env i ∧ b ∈ As i
    · obtain ⟨i, h1, h2⟩ := h
      rw [frF_in h1 h2]
      exact S0.sub b o e
    · rw [frF_out h]
      exact e
  refine ⟨⟨fun b o e => ?_, S0.f0.trans ff, fun a h => ?_, S0.keep, ?_, fun i s e => ?_, fun i h => ?_, fun i a h => ?_, fun i => ?_, fun i j a ne h1 h2 => S0.disj i j a ne (frA_mem h1).2 (frA_mem h2).2, S0.fix⟩, ff⟩
  · by_cases h : ∃ i, fr S env i ∧ b ∈ As i
    · obtain ⟨i, h1, h2⟩ := h
      rw [frF_in h1 h2] at e
      exact e
    · rw [frF_out h] at e
      exact S0.sub b o e
  · by_cases c : ∃ i, fr S env i ∧ a ∈ As i
    · obtain ⟨i, _, h2⟩ := c
      exact .inr ((S0.own i a h2).2.elim (fun z => .inr (.inl z)) .inl)
    · rw [frF_out c] at h
      exact S0.grow a h
  · rw [frzP_eq]
    rw [List.length_mapIdx]
    exact S0.len
  · rw [frzP_eq] at e
    rw [List.getElem?_mapIdx] at e
    obtain ⟨s0, e0, e1⟩ := Option.map_eq_some_iff.mp e
    obtain ⟨x, h1, h2⟩ := S0.slot i s0 e0
    refine ⟨x, h1, ?_⟩
    by_cases c : fr S env i
    · obtain ⟨hS, c', d, ec, ed⟩ := id c
      rw [e0] at ec
      cases ec
      have e2 : s = .v d := by
        rw [← e1]
        simp only [frzSl, hS, ed, if_true]
      subst e2
      obtain ⟨v, q1, q2⟩ := h2
      subst q1
      refine ⟨v, rfl, Mp.still ff q2 ed fun a ha => frF_in c ha, ?_⟩
      unfold frA
      exact if_pos c
    · have e2 : s = s0 := by
        rw [← e1]
        unfold frzSl
        cases s0 with
        | un => rfl
        | v d => rfl
        | m c' =>
          show (if i ∈ S then _ else _) = _
          by_cases hS : i ∈ S
          · rw [if_pos hS]
            cases ed : c'.d? with
            | none => rfl
            | some d => exact absurd ⟨hS, c', d, e0, ed⟩ c
          · rw [if_neg hS]
      subst e2
      have ea : frA S env As i = As i := if_neg c
      rw [ea]
      exact h2.to ff fun _ _ => rfl
  · unfold frA
    split
    · rfl
    · rw [frzP_eq] at h
      rw [List.length_mapIdx] at h
      exact S0.out i h
  · obtain ⟨n, h⟩ := frA_mem h
    refine ⟨?_, (S0.own i a h).2⟩
    rw [frF_out fun ⟨j, h1, h2⟩ => by
      by_cases z : j = i
      · subst z; exact n h1
      · exact S0.disj j i a z h2 h]
    exact (S0.own i a h).1
  · unfold frA
    split
    · exact List.nodup_nil
    · exact S0.nd i
/-- behind it: the slots as they were, but for what may change -/
theorem SR.looked {σ : L2.St} {env env' : PEnv} {As As' : Nat → List Addr} (S0 : SR K E F H σ env As) (S : List Nat) (S' : SR K E F' H' σ env' As') (f : Same (frF F H S env As) F') (ok : okB S env env' = true) : ∃ As2, SR K E F H' σ (backB S env env') As2 := by
  have ff := (S0.look S).2.trans f
  have le : env'.length = env.length := by rw [← S'.len, S0.len]
  have okAt : ∀ {i : Nat} {s : Sl}, env[i]? = some s → lookS S i s ≠ true → ∃ c, env'[i]? = some (.m c) ∧ flatM c = true := fun {i s} e n => by
    rw [okB_eq] at ok
    have hi := (List.getElem?_eq_some_iff.mp e).1
    have z := List.all_eq_true.mp ok (lookS S i s || okSl (env'.getD i .un)) (by
      refine List.mem_of_getElem? (i := i) ?_
      rw [List.getElem?_mapIdx, e]
      rfl)
    have z' : okSl (env'.getD i .un) = true := by
      cases q : lookS S i s with
      | true => exact absurd q n
      | false => rw [q] at z; exact z
    rw [List.getD_eq_getElem?_getD, List.getElem?_eq_getElem (by omega)] at z'
    cases q : env'[i]'(by omega) with
    | un => rw [show (some (env'[i]'(by omega))).getD Sl.un = Sl.un from q] at z'; cases z'
    | v d => rw [show (some (env'[i]'(by omega))).getD Sl.un = Sl.v d from q] at z'; cases z'
    | m c =>
      rw [show (some (env'[i]'(by omega))).getD Sl.un = Sl.m c from q] at z'
      exact ⟨c, by rw [List.getElem?_eq_getElem (by omega), q], z'⟩
  -- what is kept: looked at, its things stand
  let kp : Nat → Prop := fun i => ∃ s, env[i]? = some s ∧ lookS S i s = true
  have stands : ∀ {i : Nat} {a : Addr}, kp i → a ∈ As i → F' a ≠ none ∧ H' a = H a := fun {i a} ⟨s, e, l⟩ ha => by
    obtain ⟨x, h1, h2⟩ := S0.slot i s e
    have hfr : fr S env i := by
      cases s with
      | un =>
        have z : As i = [] := h2
        rw [z] at ha
        cases ha
      | v d =>
        obtain ⟨_, _, _, z⟩ := h2
        rw [z] at ha
        cases ha
      | m c =>
        cases c with
        | scr ns =>
          obtain ⟨v, _, q⟩ := h2
          generalize As i = ai at q ha
          cases q
          cases ha
        | _ =>
          have l' := Bool.and_eq_true_iff.mp l
          obtain ⟨d, hd⟩ := Option.isSome_iff_exists.mp l'.2
          exact ⟨of_decide_eq_true l'.1, _, d, e, hd⟩
    have q := frF_in (F := F) (H := H) hfr ha
    cases e2 : H a with
    | none => exact absurd e2 (S0.live i a ha)
    | some o =>
      rw [e2] at q
      have z := f _ _ q
      exact ⟨some_ne z, S'.sub _ _ z⟩
  let As2 : Nat → List Addr := fun i => open Classical in if kp i then As i else As' i
  have a2 : ∀ {i : Nat}, kp i → As2 i = As i := fun h => if_pos h
  have a2' : ∀ {i : Nat}, ¬ kp i → As2 i = As' i := fun h => if_neg h
  have noF : ∀ {i : Nat} {a : Addr}, a ∈ As' i → F a = none := fun {i a} h => by
    cases q : F a with
    | none => rfl
    | some o =>
      have z := ff _ _ q
      rw [(S'.own i a h).1] at z
      cases z
  refine ⟨As2, fun b o e => S'.sub _ _ (ff b o e), S0.f0, S0.grow, S'.keep, ?_, fun i s e => ?_, fun i h => ?_, fun i a h => ?_, fun i => ?_, fun i j a ne h1 h2 => ?_, S'.fix⟩
  · rw [backB_eq]
    rw [List.length_mapIdx]
    exact S0.len
  · rw [backB_eq] at e
    rw [List.getElem?_mapIdx] at e
    obtain ⟨s0, e0, e1⟩ := Option.map_eq_some_iff.mp e
    have hi := (List.getElem?_eq_some_iff.mp e0).1
    by_cases l : lookS S i s0 = true
    · rw [if_pos l] at e1
      subst e1
      obtain ⟨x, h1, h2⟩ := S0.slot i s0 e0
      have hk : kp i := ⟨s0, e0, l⟩
      refine ⟨x, h1, ?_⟩
      rw [a2 hk]
      exact h2.to (Same.refl F) fun a ha => (stands hk ha).2
    · rw [if_neg l] at e1
      obtain ⟨c, ec, hc⟩ := okAt e0 l
      have e2 : s = .m c := by
        rw [← e1, List.getD_eq_getElem?_getD, ec]
        rfl
      subst e2
      obtain ⟨x, h1, v, q1, q2⟩ := S'.slot i _ ec
      have nk : ¬ kp i := fun ⟨s', z1, z2⟩ => by
        rw [e0] at z1
        cases z1
        exact l z2
      refine ⟨x, h1, v, q1, ?_⟩
      rw [a2' nk]
      exact Mp.flat q2 hc
  · rw [backB_eq] at h
    rw [List.length_mapIdx] at h
    have nk : ¬ kp i := fun ⟨s', z1, _⟩ => by
      have := (List.getElem?_eq_some_iff.mp z1).1
      omega
    rw [a2' nk]
    exact S'.out i (by omega)
  · by_cases c : kp i
    · rw [a2 c] at h
      exact S0.own i a h
    · rw [a2' c] at h
      exact ⟨noF h, (S'.own i a h).2⟩
  · by_cases c : kp i
    · rw [a2 c]; exact S0.nd i
    · rw [a2' c]; exact S'.nd i
  · by_cases c1 : kp i
    · rw [a2 c1] at h1
      by_cases c2 : kp j
      · rw [a2 c2] at h2
        exact S0.disj i j a ne h1 h2
      · rw [a2' c2] at h2
        exact (stands c1 h1).1 (S'.own j a h2).1
    · rw [a2' c1] at h1
      by_cases c2 : kp j
      · rw [a2 c2] at h2
        exact (stands c2 h2).1 (S'.own i a h1).1
      · rw [a2' c2] at h2
        exact S'.disj i j a ne h1 h2
end
section
variable {X : Cx} {E : Ent} {e : Expr}
theorem l_bor (S : List Nat) {p : PX} (h : PE X e (liftE X.K E p)) : PE X e (liftE X.K E (pBor S p)) := pe_w h fun σ H Q ⟨ts, F, env, As, Q', S0, fx, p, k⟩ => by
  obtain ⟨S1, f1⟩ := S0.look S
  refine ⟨ts, _, _, _, _, S1, fx, p, fun v d F' H' env' As' S' f hv ⟨⟨h1, h2⟩, q⟩ => ?_⟩
  obtain ⟨As2, S2⟩ := S0.looked S S' f h2
  exact k v d F H' _ As2 S2 (Same.refl F) (hv.flat h1) q
theorem lt_bor (S : List Nat) {p : PTt} (h : PT X e (liftT X.K E p)) : PT X e (liftT X.K E (pBorT S p)) := pt_w h fun σ H Q ⟨ts, F, env, As, Q', S0, fx, p, k⟩ => by
  obtain ⟨S1, f1⟩ := S0.look S
  refine ⟨ts, _, _, _, _, S1, fx, p, fun b F' H' env' As' S' f ⟨h2, q⟩ => ?_⟩
  obtain ⟨As2, S2⟩ := S0.looked S S' f h2
  exact k b F H' _ As2 S2 (Same.refl F) q
end
end PL

namespace PL
open PySem PySem.Spec PyProof.Rows L2

/-! ### 32. for a program that prints derivations -/
section
variable {X : Cx} {E : Ent}
theorem pg_nm {e : Expr} {i : Nat} (h : PG X e (gName i)) : PG X e (tgT X.K (.nm i)) := by rw [tgT]; exact h
theorem pgs_n : PGs X [] (tgTs X.K []) := by rw [tgTs]; exact pgs_nil
theorem pgs_c {e : Expr} {es : List Expr} {t : Tg} {ts : List Tg} (h1 : PG X e (tgT X.K t)) (h2 : PGs X es (tgTs X.K ts)) (hs : (assignEach (e :: es) X.env).map (·.2) = assign e X.env :: (assignEach es X.env).map (·.2) := by rfl) : PGs X (e :: es) (tgTs X.K (t :: ts)) := by
  rw [tgTs]
  exact pgs_cons h1 h2 hs
theorem pg_tp {es : List Expr} {k : Nat} {ts : List Tg} {pos : Pos} (hc : X.calm = true) (h : PGs X es (tgTs X.K ts)) (hn : (assignEach es X.env).length = tgN ts := by rfl) (hst : (assignEach es X.env).findIdx? (·.1) = none := by rfl) : PG X (.Tuple es k pos) (tgT X.K (.tup ts)) := by
  rw [tgT]
  exact pg_or (pg_tup hc h hn hst) (pg_unl hc h hn hst)
/-- one reading or another, by what stands in the slots -/
def pCase (c : PEnv → Bool) (p1 p2 : PX) : PX := fun env Q => match c env with
  | true => p1 env Q
  | false => p2 env Q
def pCaseO (c : PEnv → Bool) (p1 p2 : PO) : PO := fun env Q => match c env with
  | true => p1 env Q
  | false => p2 env Q
theorem l_case (c : PEnv → Bool) {e : Expr} {p1 p2 : PX} (h1 : PE X e (liftE X.K E p1)) (h2 : PE X e (liftE X.K E p2)) : PE X e (liftE X.K E (pCase c p1 p2)) := ⟨fun pins s σ H Q I ⟨ts, F, env, As, Q', S, fx, p, k⟩ => by
  unfold pCase at p
  split at p
  · exact h1.run pins s σ H Q I ⟨ts, F, env, As, Q', S, fx, p, k⟩
  · exact h2.run pins s σ H Q I ⟨ts, F, env, As, Q', S, fx, p, k⟩⟩
theorem l_caseO (c : PEnv → Bool) {e : Expr} {p1 p2 : PO} (h1 : PE X e (liftO X.K E p1)) (h2 : PE X e (liftO X.K E p2)) : PE X e (liftO X.K E (pCaseO c p1 p2)) := ⟨fun pins s σ H Q I ⟨ts, F, env, As, Q', S, fx, p, k⟩ => by
  unfold pCaseO at p
  split at p
  · exact h1.run pins s σ H Q I ⟨ts, F, env, As, Q', S, fx, p, k⟩
  · exact h2.run pins s σ H Q I ⟨ts, F, env, As, Q', S, fx, p, k⟩⟩
def ownedAt (i : Nat) (env : PEnv) : Bool := match env[i]? with
  | some (.m _) => true
  | _ => false
/-- x[i], x owned or not -/
def pIxN (i : Nat) (pi : PX) : PX := pCase (ownedAt i) (pIxM i pi) (pE (pOp2 ixD (pName i) pi))
theorem l_ixN (i : Nat) {x : Str} {px pos : Pos} {b : Expr} {pi : PX} (hs : PlainIx b) (h : PE X (.Name x px) (tVar i)) (hN : i < X.N.length) (hb : PE X b (liftE X.K E pi)) : PE X (.Subscript (.Name x px) b pos) (liftE X.K E (pIxN i pi)) :=
  l_case _ (l_ixM i hs h hN hb) (l_e (l_ix hs (l_name i h hN) hb))
def pSliceN (i : Nat) (pl ph : PBd) : PO := pCaseO (ownedAt i) (pSliceM i pl ph) (pSlice (pName i) pl ph)
theorem l_sliceN (i : Nat) {x : Str} {px : Pos} {lo hi : Option Expr} {p2 pos : Pos} {pl ph : PBd} (h : PE X (.Name x px) (tVar i)) (hN : i < X.N.length) (hl : L2.PO X lo (liftB X.K E pl)) (hu : L2.PO X hi (liftB X.K E ph)) : PE X (.Subscript (.Name x px) (.Slice lo hi none p2) pos) (liftO X.K E (pSliceN i pl ph)) :=
  l_caseO _ (l_sliceM i h hN hl hu) (l_slice (l_name i h hN) hl hu)
theorem fix_all {fx : List Nat} {n : Nat} {l : List Nat} (hfx : ∀ i, i ∉ fx → E.fix i = none) (h : (l.all fun i => decide (i < n) && !fx.contains i) = true) : ∀ i ∈ l, i < n ∧ E.fix i = none := fun i hi => by
  have z := List.all_eq_true.mp h i hi
  rw [Bool.and_eq_true] at z
  refine ⟨of_decide_eq_true z.1, hfx i fun q => ?_⟩
  have := z.2
  rw [List.contains_iff_mem.mpr q] at this
  cases this
theorem mem_all {l m : List Nat} (h : (l.all fun i => m.contains i) = true) : ∀ i ∈ l, i ∈ m := fun i hi => List.contains_iff_mem.mp (List.all_eq_true.mp h i hi)
theorem un65 {k : Nat} {A : Around} (r : Room k A) : A.units + 65 < cLine := by have := r.un; omega
theorem un64 {k : Nat} {A : Around} (r : Room k A) : A.units + 64 < cLine := by have := r.un; omega
end

/-! ### 32b. slots that are read no more are forgotten -/
def pB (vs : List Nat) (p : PSt) : PSt := fun D env => p D (wipeP env vs)
def pW (vs : List Nat) (p : PSt) : PSt := fun D env => p { D with nx := fun e => D.nx (wipeP e vs), ct := fun e => D.ct (wipeP e vs) } env
section
variable {K : PySem.W.Frag} {E : Ent} {F H : Hp} {X : Cx}
theorem SR.blank {σ : L2.St} {env : PEnv} {As : Nat → List Addr} (S : SR K E F H σ env As) (i : Nat) : SR K E F H σ (env.set i .un) (setA As i []) where
  sub := S.sub
  f0 := S.f0
  grow := S.grow
  keep := S.keep
  len := by rw [List.length_set]; exact S.len
  slot := fun j s e => by
    rcases getElem?_set_of e with ⟨rfl, rfl, hl⟩ | ⟨ne, e⟩
    · obtain ⟨x, h1, _⟩ := S.slot i _ (List.getElem?_eq_getElem hl)
      exact ⟨x, h1, by unfold setA; rw [if_pos rfl]; rfl⟩
    · obtain ⟨x, h1, h2⟩ := S.slot j s e
      exact ⟨x, h1, by unfold setA; rw [if_neg fun z => ne z.symm]; exact h2⟩
  out := fun j h => by
    unfold setA
    split
    · rfl
    · exact S.out j (by rw [List.length_set] at h; exact h)
  own := fun j a h => by
    unfold setA at h
    split at h
    · cases h
    · exact S.own j a h
  nd := fun j => by
    unfold setA
    split
    · exact List.nodup_nil
    · exact S.nd j
  disj := fun j k a ne h h' => by
    unfold setA at h h'
    split at h
    · cases h
    · split at h'
      · cases h'
      · exact S.disj j k a ne h h'
  fix := S.fix
theorem SR.blanks {σ : L2.St} {env : PEnv} {As : Nat → List Addr} (S : SR K E F H σ env As) : ∀ vs : List Nat, ∃ As', SR K E F H σ (wipeP env vs) As'
  | [] => ⟨As, S⟩
  | v :: vs => by
    obtain ⟨As', S'⟩ := SR.blanks S vs
    exact ⟨_, S'.blank v⟩
theorem ls_B {st : Stmt} {p : PSt} (vs : List Nat) (h : PS X st (liftS X.K E p)) : PS X st (liftS X.K E (pB vs p)) := ps_w h fun D σ H ⟨F, env, As, D', S, fx, p, k⟩ => by
  obtain ⟨As', S'⟩ := S.blanks vs
  exact ⟨F, _, As', D', S', fx, p, k⟩
theorem ls_W {st : List Stmt} {p : PSt} (vs : List Nat) (h : PSs X st (liftS X.K E p)) : PSs X st (liftS X.K E (pW vs p)) := pss_w h fun D σ H ⟨F, env, As, D', S, fx, p, k⟩ => by
  refine ⟨F, env, As, _, S, fx, p, ⟨fun σ' F' H' env' As' hl S' f q => ?_, k.bk, fun σ' F' H' env' As' hl S' f q => ?_, k.rt⟩⟩
  · obtain ⟨As2, S2⟩ := S'.blanks vs
    exact k.nx σ' F' H' _ As2 hl S2 f q
  · obtain ⟨As2, S2⟩ := S'.blanks vs
    exact k.ct σ' F' H' _ As2 hl S2 f q
end

/-! ### 33. the end of a law -/
section
variable {P : Program} {w : World} {K : PySem.W.Frag} {mg mb : Str → Option Value} {k : Nat} {fa a : Addr} {fd : FuncData} {x : Str} {sp : Sp} {st : Shared} {vs : List Value} {ns : List Int}
/-- the call, from a heap of which the script alone may be tracked -/
theorem call_from {H : Hp} (kx : K.In st.heap) (hm : st.heap.Ns mainGlobals mg) (hb : st.heap.Ns builtinsNs mb) (hbb : ∀ y : Str, y ≠ "__name__" → mb y = bootBuiltins y) (lim : st.heap.NoLimit) (hg : st.gens = #[])
    (ha : st.heap.get? a = some { cls := .type "list", data := .seq vs.toArray }) (hr : Room k callerA)
    (Fn : ∀ base : Heap, K.In base → base.Ns mainGlobals mg → FnG P w K mg base CX0 k fa fd [x] sp) (hbind : ∀ (s : Shared) (u : Value), BindsTo s fd ⟨[u], []⟩ [(x, u)])
    (only : Only H) (alone : ∀ b, H b ≠ none → b = a) (apart : H a ≠ none → K.lookup a = none) (ok : HOk P w H st.heap) (hsp : sp [.ref a] H (fun v _ => v = .bl true) fun _ _ _ => False) :
    codeAny (model P w) callerA (.call (.ref fa) ⟨[.ref a], []⟩) (fun r s' => r = .ok (.ret (.bool true)) ∧ OldK st.heap s'.heap ∧ s'.os = st.os ∧ AllBare s'.gens) st := by
  -- what is no list stands untracked
  have off : ∀ {b : Addr} {o : Obj}, st.heap.get? b = some o → (∀ q n, o.data ≠ .seq q n) → H b = none := fun {b o} e ne => by
    refine Classical.byContradiction fun hn => ?_
    have eb := alone b hn
    subst eb
    have z := Option.some.inj (ha.symm.trans e)
    exact ne vs.toArray _ (by rw [← z])
  have spaces : ∀ {b : Addr} {m : Str → Option Value}, st.heap.Ns b m → (hidT st.heap H).Ns b m := by
    rintro b m ⟨o, es, ep, e, d, r⟩
    exact ⟨o, es, ep, hidT_get e (off e fun q n z => by rw [d] at z; cases z), d, r⟩
  have kb : K.In (hidT st.heap H) := by
    intro b o e
    refine hidT_get (kx b o e) (Classical.byContradiction fun hn => ?_)
    have eb := alone b hn
    subst eb
    rw [apart hn] at e
    cases e
  have md : Mod K mg (hidT st.heap H) := by
    refine ⟨kb, spaces hm, ⟨mb, spaces hb, hbb⟩, ?_⟩
    obtain ⟨mc, q1, q2⟩ := lim
    exact ⟨mc, spaces q1, q2⟩
  have en : Env0 P w K mg (hidT st.heap H) callerA [] st H := by
    refine ⟨rfl, md, fun b o e => of_hidT e, ?_, trivial, ?_, ok, AllBare.of_eq hg⟩
    · rw [hidT_size]; exact Nat.le_refl _
    · intro b hbm; cases hbm
  have run := (Fn _ kb (spaces hm)).run callerA [] st H ⟨[.ref a], []⟩ [.ref a] [.ref a] _ _ hr rfl en (hbind st (.ref a)) (.cons rfl .nil) hsp
  refine codeAny_mono run fun r s' h => ?_
  cases r with
  | error e => exact False.elim h
  | ok fl =>
    cases fl with
    | ret u =>
      obtain ⟨v, H', h1, h2, un, ok', rv, rfl⟩ := h
      obtain rfl : u = Value.bool true := rv
      refine ⟨rfl, OldK.of_keep ?_, h1, h2⟩
      intro b o e
      cases q : H b with
      | none => exact un.keep b o e q (fun z => by cases z) (fun z => by cases z)
      | some y =>
        obtain z | ⟨ob, xs, z⟩ := only b
        · exact absurd z (by rw [q]; exact fun z => by cases z)
        · have e1 := (ok b _ z).1
          have e2 := (ok' b _ (un.frzs b ob _ z)).1
          rw [e] at e1
          rw [e2, ← Option.some.inj e1]
    | next => exact False.elim h
    | brk => exact False.elim h
    | cont => exact False.elim h
theorem law_callG (kx : K.In st.heap) (hm : st.heap.Ns mainGlobals mg) (hb : st.heap.Ns builtinsNs mb) (hbb : ∀ y : Str, y ≠ "__name__" → mb y = bootBuiltins y) (lim : st.heap.NoLimit) (hg : st.gens = #[])
    (ha : st.heap.get? a = some { cls := .type "list", data := .seq vs.toArray }) (hi : IntsAre vs ns) (hl : ns.length ≤ sizeLine) (hr : Room k callerA)
    (Fn : ∀ base : Heap, K.In base → base.Ns mainGlobals mg → FnG P w K mg base CX0 k fa fd [x] sp) (hbind : ∀ (s : Shared) (u : Value), BindsTo s fd ⟨[u], []⟩ [(x, u)])
    (hsp : ∀ H : Hp, Only H → SqL K H a (ns.map V.int) → sp [.ref a] H (fun v _ => v = .bl true) fun _ _ _ => False) :
    codeAny (model P w) callerA (.call (.ref fa) ⟨[.ref a], []⟩) (fun r s' => r = .ok (.ret (.bool true)) ∧ OldK st.heap s'.heap ∧ s'.os = st.os ∧ AllBare s'.gens) st := by
  have rv := vals_ints hi
  cases hk : K.lookup a with
  | some o =>
    have e := Option.some.inj (ha.symm.trans (kx a o hk))
    refine call_from (H := fun _ => none) kx hm hb hbb lim hg ha hr Fn hbind (fun b => .inl rfl) (fun b z => absurd rfl z) (fun z => absurd rfl z) (fun b u z => by cases z) (hsp _ (fun b => .inl rfl) (.inr ?_))
    refine ⟨o, vs.toArray, 0, hk, by rw [← e], by rw [← e], by rw [← e], ?_, by simpa using rv⟩
    rw [List.size_toArray, hi.length]
    exact hl
  | none =>
    let Hs : Hp := fun b => if b = a then some (.frz { cls := .type "list", data := .seq vs.toArray } (.lst (ns.map V.int))) else none
    have at_ : Hs a = some (.frz { cls := .type "list", data := .seq vs.toArray } (.lst (ns.map V.int))) := if_pos rfl
    have out : ∀ {b : Addr}, b ≠ a → Hs b = none := fun h => if_neg h
    have on : Only Hs := fun b => by
      by_cases h : b = a
      · rw [h]; exact .inr ⟨_, _, at_⟩
      · exact .inl (out h)
    refine call_from (H := Hs) kx hm hb hbb lim hg ha hr Fn hbind on (fun b z => Classical.byContradiction fun h => z (out h)) (fun _ => hk) (fun b u z => ?_) (hsp Hs on (.inl (.inr ⟨_, at_⟩)))
    by_cases h : b = a
    · subst h
      rw [at_] at z
      cases z
      exact ⟨ha, by rw [List.length_map]; exact hl, vs, 0, rv, ha⟩
    · rw [out h] at z
      cases z
end
/-- what k_head leaves, from the law's heap-free meaning -/
theorem walk_pl {l : PySem.W.OpenLaw} {n k : Nat} {q : Program} {loose : List Str} {XP : (Str → Option Value) → Heap → Prop} {YP : World → Heap → Prop} {d : DefRec} {K : Params → PySem.W.Frag} {sp : SpP} {x : Str}
    (hn : l.most = some n) (hn2 : n ≤ sizeLine) (hdf : d.params.defaults = []) (hr : Room k callerA) (hY : ∀ (w : World) (h : Heap), YP w h → (K w.params).In h)
    (Fn : ∀ (w : World) (mg : Str → Option Value) (fa : Addr) (h : Heap), (K w.params).In h → h.Ns mainGlobals mg → mg d.name = some (.ref fa) →
      ∃ fd : FuncData, (∀ (s : Shared) (u : Value), BindsTo s fd ⟨[u], []⟩ [(x, u)]) ∧ ∀ base : Heap, (K w.params).In base → base.Ns mainGlobals mg → FnG l.prog w (K w.params) mg base CX0 k fa fd [x] (liftSp (K w.params) 1 [0] sp))
    (hsp : ∀ ns : List Int, ns.length ≤ n → sp [.m (.scr ns)] fun r _ => r = .v (.bool true)) : PySem.W.WalkO q loose XP YP l.row.toRowW d [] (fun f vs => PySem.call f vs) := by
  refine Att.attach_call hn hdf ?_
  intro w s0 st mg mb fa o pm cd doc a vs ns G Y ho hd hcd hmg hobj hints hlen hg
  have kx := hY w _ Y
  obtain ⟨fd, hb, hF⟩ := Fn w mg fa _ kx G.T.g hmg
  refine law_callG kx G.T.g G.T.b G.T.builtins G.T.nolimit hg hobj hints (Nat.le_trans hlen hn2) hr hF hb fun H on hs => ?_
  -- nothing stands still at the entry but the script
  refine ⟨rfl, H, [.m (.scr ns)], fun _ => [], _, fun i c e => ?_, ?_, hsp ns hlen, ?_⟩
  · have := (List.getElem?_eq_some_iff.mp e).1
    have e0 : i = 0 := by simp at this; exact this
    rw [e0]
    exact List.mem_singleton.mpr rfl
  · refine ⟨Same.refl H, Same.refl H, fun b z => .inl z, fun b o e _ => e, rfl, fun i s e => ?_, fun i _ => rfl, fun i b z => absurd z (by simp), fun i => List.nodup_nil, fun i j b _ z => absurd z (by simp), fun i v e => ?_⟩
    · have := (List.getElem?_eq_some_iff.mp e).1
      have e0 : i = 0 := by simp at this; exact this
      subst e0
      cases e
      exact ⟨some (.ref a), rfl, .ref a, rfl, .scr hs⟩
    · have e' : (if i ∈ [0] then ([V.ref a] : List V)[i]? else none) = some v := e
      split at e'
      · rename_i hi
        have e0 : i = 0 := by simpa using hi
        subst e0
        cases e'
        rfl
      · cases e'
  · intro v r ar F' H' args' As' S' R e
    subst e
    obtain ⟨v', e1, h1, _⟩ := R.1
    cases e1
    exact h1.bl_inv
end PL

namespace PL
open PySem PySem.Spec PyProof.Rows L2

/-! ### 34. keywords, three names at once, more in-place operators, longer chains -/
section
variable {K : PySem.W.Frag}
theorem kbi_of {x qual : Str} {st : Stmt} {f : Addr} {fd : FuncData} {ps ks : List Str} {np : Nat} {ix : List Nat} (F : Fun K x qual st f fd)
    (h : ∀ (kV doc pm : Value) (an : Option Addr) (cdv ct : Value) (us ws : List Value), us.length = np → ws.length = ks.length → bindArgs (PySem.W.fnOf x qual (defArgs st) (defBody st) (defScope st) .none kV doc pm an cdv ct) ⟨us, ks.zip ws⟩ = pure (ps.zip (perm ix (us ++ ws)))) : KBi K fd ps ks np ix := by
  obtain ⟨oc, od, kV, doc, pm, an, cdv, ct, osl, rfl, lk, hcd⟩ := F.ex
  exact fun s us ws _ h1 h2 => .of_eq (h kV doc pm an cdv ct us ws h1 h2)
end
section
variable {X : Cx} {E : Ent} {K : PySem.W.Frag}
theorem ls_par3 {i j k : Nat} {tg ev : Expr} {pos : Pos} {es : List Expr} {pr : POs} (hi : ∀ m ∈ [i, j, k], m < X.N.length ∧ E.fix m = none) (h : ∀ ta, PA X es ta → PS X (.Assign [tg] ev pos) (tPar3 i j k ta)) (ha : PA X es (liftAO X.K E pr)) : PS X (.Assign [tg] ev pos) (liftS X.K E (pPar [i, j, k] pr)) := by
  refine ⟨fun pins s σ H D I ⟨F, env, As, D', S, fx, p, kk⟩ => (h _ ha).run pins s σ H D I ⟨[], F, env, As, _, app_nil_SR S, fx, p, fun vs rs ar F1 H1 env1 As1 S1 f1 A ⟨hl, q⟩ => ?_⟩⟩
  have S1' := nil_app_SR S1
  have le : env1.length = X.N.length := by rw [← S1'.len]; exact I.len
  obtain ⟨As', S2⟩ := SR.setAll S1' A (is := [i, j, k]) (fun m hm => by
    rw [le]
    exact hi m hm) hl
  have lv := RsAll.lengths A.1
  match vs, lv, hl, S2 with
  | [v, w, z], _, _, S2 => exact ⟨v, w, z, rfl, kk.nx _ F1 H1 _ As' (by rw [List.length_set, List.length_set, List.length_set]) S2 f1 q⟩
  | [], lv, hl, _ => rw [← lv] at hl; cases hl
  | [_], lv, hl, _ => rw [← lv] at hl; cases hl
  | [_, _], lv, hl, _ => rw [← lv] at hl; cases hl
  | _ :: _ :: _ :: _ :: _, lv, hl, _ => rw [← lv] at hl; simp at hl
theorem ip_mulW : PIp X .Mult (rI CMulW fun i j => .int (i * j)) := by
  intro pins s σ H x y v u Q I r1 r2 h
  obtain ⟨i, j, e1, e2, c, q⟩ := h
  subst e1; subst e2
  obtain ⟨t, rfl⟩ := r1
  obtain ⟨t', rfl⟩ := r2
  exact imul_int ⟨.int _, H, I.tok _, ⟨_, rfl⟩, q⟩ c.ok
theorem o_imul : Op2 K (rI CMulW fun i j => .int (i * j)) imulD := op2_I (gd := fun i j => .int (i * j)) (fun _ _ _ => .int _) fun d e P p => by
  unfold imulD at p
  split at p
  · exact ⟨_, _, rfl, rfl, p.1, p.2⟩
  · exact p.elim
theorem ip_fdivW : PIp X .FloorDiv (rI CDivW fun i j => .int (i / j)) := fun pins s σ H x y v u Q I r1 r2 h => iop_fdivW pins s σ H x y v u Q I r1 r2 h
theorem o_ifdiv : Op2 K (rI CDivW fun i j => .int (i / j)) fdivD := o_fdiv
end
end PL

namespace PL
open PySem PySem.W L2

/-! ### 35. the plain side: each reading at an environment -/
section
variable {i j n : Nat} {D : PEnds} {env : PEnv}
theorem a_seq {p q : PSt} : pSeq p q D env = p { D with nx := q D } env := rfl
theorem a_next : pNext D env = D.nx env := rfl
theorem a_set {p : PO} : pSet i p D env = p env fun r e => D.nx (e.set i r) := rfl
theorem a_drop {p : PO} : pDrop p D env = p env fun _ e => D.nx e := rfl
theorem a_ret {p : PO} : pRet p D env = p env D.rt := rfl
theorem a_retName : pRetName i D env = match env[i]? with
  | some (.un) => False
  | some r => D.rt r (env.set i .un)
  | none => False := rfl
theorem a_retN : pRetN D env = D.rt (.v .none) env := rfl
theorem a_ifS {t : PTt} {a b : PSt} : pIfS t a b D env = t env fun c e => sel c (a D e) (b D e) := rfl
theorem a_brk : pBrk D env = D.bk env := rfl
theorem a_cnt : pCnt D env = D.ct env := rfl
theorem a_for {pi : PIt} {t : Tg} {b : PSt} : pFor pi t b D env = pi env fun ds e => forL t b D ds e := rfl
theorem a_unp {t : Tg} {pe : PX} : pUnp t pe D env = pe env fun d e => tgP t d e D.nx := rfl
theorem a_aug {rp : PyData → PyData → (Sl → Prop) → Prop} {pe : PX} : pAug i rp pe D env = match env[i]? with
  | some (.v d0) => pe env fun d e => rp d0 d fun r => match r with
    | .v x => D.nx (e.set i (.v x))
    | _ => False
  | _ => False := rfl
theorem a_par {is : List Nat} {pr : POs} : pPar is pr D env = pr env fun rs e => is.length = rs.length ∧ D.nx (setAll e is rs) := rfl
theorem a_setIx {pj pe : PX} : pSetIx i pj pe D env = pe env fun d e => setIx i pj d e D.nx := rfl
theorem a_set2 {pj pj2 pe pg : PX} : pSet2 i pj j pj2 pe pg D env = pe env fun d e => pg e fun d2 e2 => setIx i pj d e2 fun e3 => setIx j pj2 d2 e3 D.nx := rfl
variable {Q : PyData → PEnv → Prop} {Qo : Sl → PEnv → Prop} {Qt : Bool → PEnv → Prop} {Qa : List Ag → PEnv → Prop} {Qi : List PyData → PEnv → Prop}
theorem a_C {d : PyData} : pC d env Q = Q d env := rfl
theorem a_name : pName i env Q = match env[i]? with
  | some (.v d) => Q d env
  | some (.m c) => match c.d? with
    | some d => Q d (env.set i (.v d))
    | none => False
  | _ => False := rfl
theorem a_E {p : PO} : pE p env Q = p env fun r e => match r.d? with
  | some d => Q d e
  | none => False := rfl
theorem a_V {p : PX} : pV p env Qo = p env fun d e => Qo (.v d) e := rfl
theorem a_1 {rp : PyData → (Sl → Prop) → Prop} {pa : PX} : pOp1 rp pa env Qo = pa env fun d e => rp d fun r => Qo r e := rfl
theorem a_2 {rp : PyData → PyData → (Sl → Prop) → Prop} {pa pb : PX} : pOp2 rp pa pb env Qo = pa env fun d e => pb e fun d2 e2 => rp d d2 fun r => Qo r e2 := rfl
theorem a_tst {p : PO} : pTst p env Qt = p env fun r e => match r with
  | .v (.bool k) => Qt k e
  | _ => False := rfl
theorem a_chain {rp rp' : PyData → PyData → (Sl → Prop) → Prop} {pa pb pc : PX} : pChain rp rp' pa pb pc env Qo = pa env fun d e1 => pb e1 fun e e2 => rp d e fun r => match r with
  | .v (.bool true) => pc e2 fun g e3 => rp' e g fun r' => Qo r' e3
  | .v (.bool false) => Qo (.v (.bool false)) e2
  | _ => False := rfl
theorem a_and {t u : PTt} : pAnd t u env Qt = t env fun c e => sel c (u e Qt) (Qt false e) := rfl
theorem a_or {t u : PTt} : pOr t u env Qt = t env fun c e => sel c (Qt true e) (u e Qt) := rfl
theorem a_not {t : PTt} : pNot t env Qt = t env fun c e => Qt (!c) e := rfl
theorem a_if {t : PTt} {a b : PX} : pIf t a b env Q = t env fun c e => sel c (a e Q) (b e Q) := rfl
theorem a_andV {pa pb : PX} : pAndV pa pb env Q = pa env fun d e => match d with
  | .bool true => pb e Q
  | .bool false => Q (.bool false) e
  | _ => False := rfl
theorem a_orV {pa pb : PX} : pOrV pa pb env Q = pa env fun d e => match d with
  | .bool false => pb e Q
  | .bool true => Q (.bool true) e
  | _ => False := rfl
theorem a_notV {pa : PX} : pNotV pa env Q = pa env fun d e => match d with
  | .bool k => Q (.bool (!k)) e
  | _ => False := rfl
theorem a_yes : pYes env Qt = Qt true env := rfl
theorem a_anil : pANil env Qa = Qa [] env := rfl
theorem a_acons {pa : PX} {pr : PAs} : pACons pa pr env Qa = pa env fun d e => pr e fun gs e2 => Qa (.d d :: gs) e2 := rfl
theorem a_alend {pr : PAs} : pALend i pr env Qa = ((∃ c, env[i]? = some (.m c)) ∧ pr env fun gs e2 => Qa (.s i :: gs) e2) := rfl
theorem a_callL {rp : List PyData → (Sl → Prop) → Prop} {pa : PAs} : pCallL rp pa env Qo = pa env fun gs e => match agD? gs with
  | some ds => rp ds fun r => Qo r e
  | none => False := rfl
theorem a_call {fx : List Nat} {sp : SpP} {pa : PAs} : pCall n fx sp pa env Qo = pa env fun gs e => gs.length = n ∧ (lentIn fx 0 gs = true ∧ (lents gs).Nodup) ∧ sp (argsOf e gs) fun r as => Qo r (backA e gs as) := rfl
theorem a_perm {ix : List Nat} {pa pk : PAs} : pPerm ix pa pk env Qa = pa env fun gs e => pk e fun hs e2 => Qa (perm ix (gs ++ hs)) e2 := rfl
theorem a_keep {pa : PAs} : pKeep n pa env Qa = pa env fun gs e => gs.length = n ∧ Qa gs e := rfl
variable {Qs : List Sl → PEnv → Prop}
theorem a_onil : pONil env Qs = Qs [] env := rfl
theorem a_ocons {pa : PO} {pr : POs} : pOCons pa pr env Qs = pa env fun r e => pr e fun rs e2 => Qs (r :: rs) e2 := rfl
theorem a_itList {pa : PX} : itList pa env Qi = pa env fun d e => match d with
  | .list ds => Qi ds e
  | _ => False := rfl
theorem a_itTup {pa : PX} : itTup pa env Qi = pa env fun d e => match d with
  | .tuple ds => Qi ds e
  | _ => False := rfl
theorem a_rng1 {pa : PAs} : itRng1 pa env Qi = pa env fun gs e => match gs with
  | [.d (.int j)] => (-(2 ^ 62) ≤ j ∧ j < 2 ^ 62) ∧ Qi (rangeD 0 1 j.toNat) e
  | _ => False := rfl
theorem a_rng2 {pa : PAs} : itRng2 pa env Qi = pa env fun gs e => match gs with
  | [.d (.int i), .d (.int j)] => (-(2 ^ 62) ≤ i ∧ i < 2 ^ 62 ∧ -(2 ^ 62) ≤ j ∧ j < 2 ^ 62) ∧ Qi (rangeD i 1 (j - i).toNat) e
  | _ => False := rfl
theorem a_rng3 {pa : PAs} : itRng3 pa env Qi = pa env fun gs e => match gs with
  | [.d (.int i), .d (.int j), .d (.int c)] => (c = -1 ∧ -(2 ^ 62) ≤ i ∧ i < 2 ^ 62 ∧ -(2 ^ 62) ≤ j ∧ j < 2 ^ 62) ∧ Qi (rangeD i (-1) (i - j).toNat) e
  | _ => False := rfl
theorem a_enum {pa : PAs} : itEnum pa env Qi = pa env fun gs e => match gs with
  | [.d (.list ds)] => Qi (enumD 0 ds) e
  | _ => False := rfl
theorem a_zip {pa : PAs} : itZip pa env Qi = pa env fun gs e => match gs with
  | [.d (.list ds), .d (.list es)] => Qi (zipD ds es) e
  | _ => False := rfl
theorem a_rev {pa : PAs} : itRev pa env Qi = pa env fun gs e => match gs with
  | [.d (.list ds)] => Qi ds.reverse e
  | _ => False := rfl
theorem a_scr : itScr i env Qi = match env[i]? with
  | some (.m (.scr ns)) => Qi (ns.map .int) env
  | _ => False := rfl
theorem a_lc {pi : PIt} {t : Tg} {tt : PTt} {te : PX} {vs : List Nat} : pLc pi t tt te vs env Qo = pi env fun ds e => stillAt e vs = true ∧ compK t tt te vs ds [] e fun acc e2 => Qo (.m (.ol acc)) (backP e e2 vs) := rfl
theorem a_sortedR {pa pk : PAs} : pSortedR pa pk env Qo = pa env fun gs e => pk e fun hs e2 => match agD? gs, agD? hs with
  | some ds, some [b] => sortedRD ds b fun r => Qo r e2
  | _, _ => False := rfl
theorem a_listRng {pa : PAs} : pListRng pa env Qo = pa env fun gs e => match gs with
  | [.d (.int j)] => RgOk 0 j ∧ Qo (.m (.ol (rangeD 0 1 j.toNat))) e
  | [.d (.int i), .d (.int j)] => RgOk i j ∧ Qo (.m (.ol (rangeD i 1 (j - i).toNat))) e
  | [.d (.int i), .d (.int j), .d (.int c)] => (c = -1 ∧ RgOk j i) ∧ Qo (.m (.ol (rangeD i (-1) (i - j).toNat))) e
  | _ => False := rfl
variable {Qb : Option Int → PEnv → Prop}
theorem a_noB : pNoB env Qb = Qb none env := rfl
theorem a_bd {pa : PX} : pBd pa env Qb = pa env fun d e => match d with
  | .int k => Qb (some k) e
  | _ => False := rfl
theorem a_slice {pa : PX} {pl ph : PBd} : pSlice pa pl ph env Qo = pa env fun d e1 => pl e1 fun lo e2 => ph e2 fun hi e3 => match d with
  | .list ds => Qo (.m (.ol (cutD ds lo hi))) e3
  | _ => False := rfl
theorem a_sliceM {pl ph : PBd} : pSliceM i pl ph env Qo = (isM env i ∧ pl env fun lo e2 => ph e2 fun hi e3 => match e3[i]? with
  | some (.m (.ol ds)) => Qo (.m (.ol (cutD ds lo hi))) e3
  | some (.m (.scr ns)) => Qo (.m (.ol (cutD (ns.map .int) lo hi))) e3
  | _ => False) := rfl
theorem a_sliceN {pl ph : PBd} : pSliceN i pl ph env Qo = match ownedAt i env with
  | true => pSliceM i pl ph env Qo
  | false => pSlice (pName i) pl ph env Qo := rfl
theorem a_ixM {pi : PX} : pIxM i pi env Q = (isM env i ∧ pi env fun d e => match e[i]?, d with
  | some (.m c), .int k => ∃ x, itemM c k = some x ∧ Q x e
  | _, _ => False) := rfl
theorem a_ixN {pi : PX} : pIxN i pi env Q = match ownedAt i env with
  | true => pIxM i pi env Q
  | false => pE (pOp2 ixD (pName i) pi) env Q := rfl
theorem a_lenM : pLenM i env Q = match env[i]? with
  | some (.m c) => ∃ n, lenM c = some n ∧ Q (.int n) env
  | some (.v (.list ds)) => Q (.int ds.length) env
  | some (.v (.tuple ds)) => Q (.int ds.length) env
  | some (.v (.str z)) => z.length ≤ sizeLine ∧ Q (.int z.length) env
  | _ => False := rfl
theorem a_meth {rp : RpM} {pa : PAs} : pMeth i rp pa env Q = (isOL env i ∧ pa env fun gs e => match agD? gs, e[i]? with
  | some es, some (.m (.ol ds)) => rp ds es fun d ds' => Q d (e.set i (.m (.ol ds')))
  | _, _ => False) := rfl
theorem a_meth0 {rp : RpM} : pMeth0 i rp env Q = match env[i]? with
  | some (.m (.ol ds)) => rp ds [] fun d ds' => Q d (env.set i (.m (.ol ds')))
  | _ => False := rfl
theorem a_stx {pj : PX} {d : PyData} {R : PEnv → Prop} : setIx i pj d env R = (isM env i ∧ pj env fun ix e => match e[i]?, ix with
  | some (.m c), .int k => ∃ c', setM c k d = some c' ∧ R (e.set i (.m c'))
  | _, _ => False) := rfl
theorem a_bor {S : List Nat} {p : PX} : pBor S p env Q = p (frzP S env) fun d e => (flatD d = true ∧ okB S env e = true) ∧ Q d (backB S env e) := rfl
theorem a_borT {S : List Nat} {p : PTt} : pBorT S p env Qt = p (frzP S env) fun d e => okB S env e = true ∧ Qt d (backB S env e) := rfl
theorem a_lstO {pr : POs} : pLstO pr env Qo = pr env fun rs e => match slMs rs with
  | some cs => rs.length ≤ sizeLine ∧ Qo (.m (.lst cs)) e
  | none => False := rfl
end

/-! ### 36. loops -/
theorem forL_inv {t : Tg} {body : PSt} {D : PEnds} {ds : List PyData} {env : PEnv} (I : Nat → PEnv → Prop) (h0 : I 0 env)
    (hs : ∀ i d e (G : PEnv → Prop), ds[i]? = some d → I i e → (∀ e', I (i + 1) e' → G e') → tgP t d e fun e1 => body { D with nx := G, ct := G, bk := D.nx } e1)
    (he : ∀ e, I ds.length e → D.nx e) : forL t body D ds env := by
  have z : ∀ (l : List PyData) (k : Nat) (e : PEnv), ds.drop k = l → k ≤ ds.length → I k e → forL t body D l e := by
    intro l
    induction l with
    | nil =>
      intro k e hd hk hI
      have : k = ds.length := by
        have := congrArg List.length hd
        rw [List.length_drop] at this
        simp at this
        omega
      subst this
      rw [forL_n]
      exact he e hI
    | cons d r ih =>
      intro k e hd hk hI
      have hlt : k < ds.length := by
        have := congrArg List.length hd
        rw [List.length_drop] at this
        simp at this
        omega
      have hdk : ds[k]? = some d := by
        have q := List.getElem?_drop (xs := ds) (i := k) (j := 0)
        rw [hd] at q
        simpa using q.symm
      have hr : ds.drop (k + 1) = r := by
        rw [← List.drop_drop, hd]
        rfl
      rw [forL_c]
      exact hs k d e (forL t body D r) hdk hI fun e' h' => ih (k + 1) e' hr hlt h'
  exact z ds 0 env rfl (Nat.zero_le _) h0
theorem forL_nil {t : Tg} {body : PSt} {D : PEnds} {env : PEnv} (h : D.nx env) : forL t body D [] env := by rw [forL_n]; exact h
theorem forL_cons {t : Tg} {body : PSt} {D : PEnds} {d : PyData} {ds : List PyData} {env : PEnv} (h : tgP t d env fun e1 => body { D with nx := forL t body D ds, ct := forL t body D ds, bk := D.nx } e1) : forL t body D (d :: ds) env := by rw [forL_c]; exact h
theorem while_inv {c : PTt} {body : PSt} {D : PEnds} {env : PEnv} (I : Nat → PEnv → Prop) (m : Nat) (h0 : I m env)
    (hs : ∀ m e, I m e → c e fun b e1 => sel b (body { D with nx := fun e => ∃ m', m' < m ∧ I m' e, ct := fun e => ∃ m', m' < m ∧ I m' e, bk := D.nx } e1) (D.nx e1)) : pWhile c body D env := by
  unfold pWhile
  exact ⟨I, ⟨m, h0⟩, hs⟩
/-- a comprehension, item by item -/
theorem compK_inv {t : Tg} {tt : PTt} {te : PX} {vs : List Nat} {ds : List PyData} {env : PEnv} {Q : List PyData → PEnv → Prop} (I : Nat → List PyData → PEnv → Prop) (h0 : I 0 [] env)
    (hs : ∀ i d acc e (G : List PyData → PEnv → Prop), ds[i]? = some d → I i acc e → (∀ acc' e', I (i + 1) acc' e' → G acc' e') →
      tgP t d (wipeP e vs) fun e1 => tt e1 fun b e2 => sel b (te e2 fun x e3 => (acc.length < sizeLine ∧ stillAt e3 vs = true) ∧ G (acc ++ [x]) e3) (stillAt e2 vs = true ∧ G acc e2))
    (he : ∀ acc e, I ds.length acc e → Q acc e) : compK t tt te vs ds [] env Q := by
  have z : ∀ (l : List PyData) (k : Nat) (acc : List PyData) (e : PEnv), ds.drop k = l → k ≤ ds.length → I k acc e → compK t tt te vs l acc e Q := by
    intro l
    induction l with
    | nil =>
      intro k acc e hd hk hI
      have : k = ds.length := by
        have := congrArg List.length hd
        rw [List.length_drop] at this
        simp at this
        omega
      subst this
      exact he acc e hI
    | cons d r ih =>
      intro k acc e hd hk hI
      have hlt : k < ds.length := by
        have := congrArg List.length hd
        rw [List.length_drop] at this
        simp at this
        omega
      have hdk : ds[k]? = some d := by
        have q := List.getElem?_drop (xs := ds) (i := k) (j := 0)
        rw [hd] at q
        simpa using q.symm
      have hr : ds.drop (k + 1) = r := by
        rw [← List.drop_drop, hd]
        rfl
      exact hs k d acc e (fun a' e' => compK t tt te vs r a' e' Q) hdk hI fun a' e' h' => ih (k + 1) a' e' hr hlt h'
  exact z ds 0 [] env rfl (Nat.zero_le _) h0
/-- a comprehension that changes nothing but its own names: what it gathers -/
theorem compK_pure {α : Type} {t : Tg} {tt : PTt} {te : PX} {vs : List Nat} {env : PEnv} {Q : List PyData → PEnv → Prop} (xs : List α) (enc : α → PyData) (keep : α → Bool) (out : α → PyData) (sh : PEnv → Prop) (h0 : sh env) (hl : xs.length ≤ sizeLine)
    (hs : ∀ x ∈ xs, ∀ e, sh e → ∀ (A : PEnv → Prop) (B : PyData → PEnv → Prop), (keep x = false → ∀ e', sh e' → stillAt e' vs = true → A e') → (keep x = true → ∀ e', sh e' → stillAt e' vs = true → B (out x) e') →
      tgP t (enc x) (wipeP e vs) fun e1 => tt e1 fun b e2 => sel b (te e2 fun y e3 => B y e3) (A e2))
    (he : ∀ e, sh e → Q ((xs.filter keep).map out) e) : compK t tt te vs (xs.map enc) [] env Q := by
  have z : ∀ (l : List α) (acc : List PyData) (e : PEnv), sh e → acc.length + l.length ≤ sizeLine → (∀ x ∈ l, x ∈ xs) → (∀ e, sh e → Q (acc ++ (l.filter keep).map out) e) → compK t tt te vs (l.map enc) acc e Q := by
    intro l
    induction l with
    | nil =>
      intro acc e h1 h2 hm h3
      have := h3 e h1
      simpa [compK] using this
    | cons x r ih =>
      intro acc e h1 h2 hm h3
      rw [List.length_cons] at h2
      have hr : ∀ y ∈ r, y ∈ xs := fun y hy => hm y (List.mem_cons_of_mem _ hy)
      refine hs x (hm x List.mem_cons_self) e h1 (fun e2 => stillAt e2 vs = true ∧ compK t tt te vs (r.map enc) acc e2 Q) (fun y e3 => (acc.length < sizeLine ∧ stillAt e3 vs = true) ∧ compK t tt te vs (r.map enc) (acc ++ [y]) e3 Q) ?_ ?_
      · intro ek e' h' hst
        refine ⟨hst, ih acc e' h' (by omega) hr fun e2 h4 => ?_⟩
        have := h3 e2 h4
        rwa [List.filter_cons, ek, if_neg Bool.false_ne_true] at this
      · intro ek e' h' hst
        refine ⟨⟨by omega, hst⟩, ih (acc ++ [out x]) e' h' (by rw [List.length_append]; simp; omega) hr fun e2 h4 => ?_⟩
        have := h3 e2 h4
        rw [List.filter_cons, ek, if_pos rfl, List.map_cons] at this
        rwa [List.append_assoc]
  simpa using z xs [] env h0 (by simpa using hl) (fun _ h => h) he
end PL

namespace PL
open PySem PySem.W L2

/-! ### 37. data: numbers, lists of numbers -/
abbrev li (l : List Int) : PyData := .list (l.map .int)
abbrev ll (l : List (List Int)) : PyData := .list (l.map li)
theorem li_toD (l : List Int) : li l = Datum.toD l := rfl
theorem okd_datum {α : Type} [DecidableEq α] [Datum α] (h : Datum.depth α ≤ 60) (a : α) : okd (Datum.toD a) = true := by
  unfold okd
  rw [Datum.plain a, Bool.true_and]
  exact decide_eq_true (Nat.le_trans (Datum.depth_le a) h)
theorem d_ol (ds : List PyData) : (MO.ol ds).d? = some (.list ds) := rfl
theorem okd_int (i : Int) : okd (.int i) = true := rfl
theorem okd_str (s : Str) : okd (.str s) = true := rfl
theorem okd_bool (b : Bool) : okd (.bool b) = true := rfl
theorem okd_none : okd .none = true := rfl
theorem okd_li (l : List Int) : okd (.list (l.map .int)) = true := okd_datum (α := List Int) (by decide) l
theorem okd_ll (l : List (List Int)) : okd (.list (l.map fun x => .list (x.map .int))) = true := okd_datum (α := List (List Int)) (by decide) l
theorem okd_nil : okd (.list []) = true := rfl
theorem eqv_int (i j : Int) : PyData.eqv (.int i) (.int j) = decide (i = j) := Datum.eqv i j
theorem eqv_str (i j : Str) : PyData.eqv (.str i) (.str j) = decide (i = j) := Datum.eqv i j
theorem eqv_bool (i j : Bool) : PyData.eqv (.bool i) (.bool j) = decide (i = j) := Datum.eqv i j
theorem eqv_li (a b : List Int) : PyData.eqv (.list (a.map .int)) (.list (b.map .int)) = decide (a = b) := Datum.eqv a b
theorem eqv_ll (a b : List (List Int)) : PyData.eqv (.list (a.map fun x => .list (x.map .int))) (.list (b.map fun x => .list (x.map .int))) = decide (a = b) := Datum.eqv a b
theorem eqv_li_nil (a : List Int) : PyData.eqv (.list (a.map .int)) (.list []) = decide (a = []) := Datum.eqv a []
theorem eqv_ss (s : Str) : PyData.eqv (.str s) (.str s) = true := by rw [eqv_str]; exact decide_eq_true rfl
theorem eqv_ii (s : Int) : PyData.eqv (.int s) (.int s) = true := by rw [eqv_int]; exact decide_eq_true rfl
theorem log2_lt_of {n k : Nat} (h : n < 2 ^ k) (hk : 0 < k) : n.log2 < k := by
  by_cases e : n = 0
  · subst e
    simpa using hk
  · exact (Nat.log2_lt e).mpr h
theorem mul_ok {i j : Int} (a : i.natAbs < 2 ^ 250) (b : j.natAbs < 2 ^ 250) : i.natAbs.log2 + j.natAbs.log2 < 1000000 := by
  have h1 := log2_lt_of a (by decide)
  have h2 := log2_lt_of b (by decide)
  omega
theorem pow_ok {i j : Int} (a : i.natAbs < 2 ^ 250) (h : 0 ≤ j) (h' : j ≤ 1000) : 0 ≤ j ∧ (i.natAbs.log2 + 1) * j.toNat ≤ 2 ^ 27 := by
  have h1 := log2_lt_of a (by decide)
  refine ⟨h, Nat.le_trans (Nat.mul_le_mul (show i.natAbs.log2 + 1 ≤ 251 by omega) (show j.toNat ≤ 1000 by omega)) (by decide)⟩
theorem div_ok {j : Int} (h : 0 < j) (a : j.natAbs < 2 ^ 250) : 0 < j ∧ j.natAbs.log2 < 9000 := ⟨h, Nat.lt_trans (log2_lt_of a (by decide)) (by decide)⟩
/-- an index from the front -/
theorem atI_nat {α : Type} {xs : List α} {i : Int} (h0 : 0 ≤ i) (h1 : i < xs.length) : atI xs i = xs[i.toNat]? := by
  unfold atI ixN
  rw [if_pos h0, if_pos h1]
  rfl
theorem atI_map {α β : Type} (f : α → β) (xs : List α) (i : Int) : atI (xs.map f) i = (atI xs i).map f := by
  unfold atI
  rw [List.length_map]
  cases ixN xs.length i with
  | none => rfl
  | some j => exact List.getElem?_map ..
theorem atI_0 {α : Type} {x : α} {r : List α} : atI (x :: r) 0 = some x := by
  rw [atI_nat (Int.le_refl 0) (by simp only [List.length_cons]; omega)]
  rfl
theorem atI_1 {α : Type} {x y : α} {r : List α} : atI (x :: y :: r) 1 = some y := by
  rw [atI_nat (by omega) (by simp only [List.length_cons]; omega)]
  rfl
theorem atI_2 {α : Type} {x y z : α} {r : List α} : atI (x :: y :: z :: r) 2 = some z := by
  rw [atI_nat (by omega) (by simp only [List.length_cons]; omega)]
  rfl
theorem atI_3 {α : Type} {x y z w : α} {r : List α} : atI (x :: y :: z :: w :: r) 3 = some w := by
  rw [atI_nat (by omega) (by simp only [List.length_cons]; omega)]
  rfl
theorem ixN_nat {n : Nat} {i : Int} (h0 : 0 ≤ i) (h1 : i < n) : ixN n i = some i.toNat := by
  unfold ixN
  rw [if_pos h0, if_pos h1]
theorem setM_nat {ds : List PyData} {i : Int} {d : PyData} (h0 : 0 ≤ i) (h1 : i < ds.length) : setM (.ol ds) i d = some (.ol (ds.set i.toNat d)) := by
  simp only [setM, ixN_nat h0 h1, Option.map_some]
theorem atI_at {α β : Type} {f : α → β} {xs : List α} {i : Int} {n : Nat} {x : α} (h : i = n) (e : xs[n]? = some x) : atI (xs.map f) i = some (f x) := by
  have hn := (List.getElem?_eq_some_iff.mp e).1
  rw [atI_map, atI_nat (by omega) (by omega), h, Int.toNat_natCast, e]
  rfl
theorem setM_at {α : Type} {f : α → PyData} {xs : List α} {i : Int} {n : Nat} {x : α} (h : i = n) (hn : n < xs.length) : setM (.ol (xs.map f)) i (f x) = some (.ol ((xs.set n x).map f)) := by
  rw [setM_nat (by omega) (by rw [List.length_map]; omega), h, Int.toNat_natCast, List.map_set]
theorem setM_0 {x d : PyData} {r : List PyData} : setM (.ol (x :: r)) 0 d = some (.ol (d :: r)) := setM_nat (Int.le_refl 0) (by simp only [List.length_cons]; omega)
theorem setM_1 {x y d : PyData} {r : List PyData} : setM (.ol (x :: y :: r)) 1 d = some (.ol (x :: d :: r)) := setM_nat (by omega) (by simp only [List.length_cons]; omega)
theorem setM_2 {x y z d : PyData} {r : List PyData} : setM (.ol (x :: y :: z :: r)) 2 d = some (.ol (x :: y :: d :: r)) := setM_nat (by omega) (by simp only [List.length_cons]; omega)
theorem seqIndex_nat {i : Int} {n : Nat} (h0 : 0 ≤ i) (h1 : i < n) : seqIndex? i n = some i.toNat := PySem.seqIndex_of h0 h1
theorem showAll_ints {l : List Int} (h : ∀ x ∈ l, x.natAbs < 2 ^ 120) : PyData.showableAll (l.map .int) = true ∧ PyData.hasDictAll (l.map .int) = false ∧ PyData.depthAll (l.map .int) = 0 ∧ PyData.leavesShortAll 200 (l.map .int) = true ∧ PyData.bulkAll (l.map .int) = l.length := by
  induction l with
  | nil => exact ⟨rfl, rfl, rfl, rfl, rfl⟩
  | cons x l ih =>
    obtain ⟨h1, h2, h3, h4, h5⟩ := ih fun y hy => h y (List.mem_cons_of_mem _ hy)
    have hx := h x List.mem_cons_self
    have lx := log2_lt_of hx (by decide)
    refine ⟨?_, ?_, ?_, ?_, ?_⟩
    · rw [List.map_cons, PyData.showableAll, h1, PyData.showable, Bool.and_true]
      exact decide_eq_true (by omega)
    · rw [List.map_cons, PyData.hasDictAll, h2, PyData.hasDict]
      rfl
    · rw [List.map_cons, PyData.depthAll, h3, PyData.depth]
      rfl
    · rw [List.map_cons, PyData.leavesShortAll, h4, PyData.leavesShort, Bool.and_true]
      refine decide_eq_true ?_
      have e := int_text_length_le (a := x) (k := 120) (by decide) lx
      have e2 : (PyData.shown (.int x)).length = (toString x).length := by
        rw [PyData.shown]
        exact ofString_length _
      simp only [PyData.shown] at e2 ⊢
      omega
    · rw [List.map_cons, PyData.bulkAll, h5, PyData.bulk, List.length_cons]
      omega
/-- what repr asks of a list of numbers -/
theorem repr_li {l : List Int} (h : ∀ x ∈ l, x.natAbs < 2 ^ 120) (hl : l.length ≤ 50000) : PyData.showable (.list (l.map .int)) = true ∧ PyData.hasDict (.list (l.map .int)) = false ∧ PyData.depth (.list (l.map .int)) ≤ 60 ∧ (PyData.shown (.list (l.map .int))).length ≤ sizeLine := by
  obtain ⟨h1, h2, h3, h4, h5⟩ := showAll_ints h
  refine ⟨by rw [PyData.showable]; exact h1, by rw [PyData.hasDict]; exact h2, by rw [PyData.depth, h3]; decide, ?_⟩
  have e := PyData.shown_le_bulk 200 (by decide) (.list (l.map .int)) (by rw [PyData.leavesShort]; exact h4)
  rw [PyData.bulk, h5] at e
  rw [sizeLine_eq]
  omega
theorem lt_line {n : Nat} (h : n ≤ 100000) : n < sizeLine := Nat.lt_of_le_of_lt h (by decide)
theorem le_line {n : Nat} (h : n ≤ 100000) : n ≤ sizeLine := Nat.le_of_lt (lt_line h)
theorem get_map {α β : Type} {f : α → β} {xs : List α} {i : Nat} (h : i < xs.length) : (xs.map f)[i]? = some (f xs[i]) := by
  rw [List.getElem?_map, List.getElem?_eq_getElem h]
  rfl
theorem erase_map {α β : Type} (f : α → β) (xs : List α) (i : Nat) : (xs.map f).eraseIdx i = (xs.eraseIdx i).map f := by
  rw [List.eraseIdx_eq_take_drop_succ, List.eraseIdx_eq_take_drop_succ, List.map_append, List.map_take, List.map_drop]
theorem intsOf_f {α : Type} (f : α → Int) (l : List α) : intsOf (l.map fun p => .int (f p)) = some (l.map f) := by
  have := intsOf_map (l.map f)
  rw [List.map_map] at this
  exact this
theorem blsOf_f {α : Type} (f : α → Bool) (l : List α) : blsOf (l.map fun p => .bool (f p)) = some (l.map f) := by
  have := blsOf_map (l.map f)
  rw [List.map_map] at this
  exact this
theorem sum_cast {α : Type} (g : α → Nat) (l : List α) : (l.map fun p => ((g p : Nat) : Int)).sum = ((l.map g).sum : Nat) := by
  induction l with
  | nil => rfl
  | cons x l ih =>
    rw [List.map_cons, List.sum_cons, ih, List.map_cons, List.sum_cons]
    omega
theorem sumD_ints {ns : List Int} {P : Sl → Prop} : sumD [.list (ns.map .int)] P = P (.v (.int ns.sum)) := by
  simp only [sumD, intsOf_map]
theorem sortedD_ints {ns : List Int} {P : Sl → Prop} : sortedD [.list (ns.map .int)] P = P (.m (.ol ((sortI ns).map .int))) := by
  simp only [sortedD, intsOf_map]
theorem sortedRD_ints {ns : List Int} {P : Sl → Prop} : sortedRD [.list (ns.map .int)] (.bool true) P = P (.m (.ol ((sortI ns).reverse.map .int))) := by
  simp only [sortedRD, intsOf_map]
theorem anyD_bls {ns : List Bool} {P : Sl → Prop} : anyD [.list (ns.map .bool)] P = P (.v (.bool (ns.any id))) := by
  simp only [anyD, blsOf_map]
theorem allD_bls {ns : List Bool} {P : Sl → Prop} : allD [.list (ns.map .bool)] P = P (.v (.bool (ns.all id))) := by
  simp only [allD, blsOf_map]
theorem enumD_eq : ∀ (n : Nat) (ds : List PyData), enumD n ds = (ds.zipIdx n).map fun p => .tuple [.int p.2, p.1]
  | _, [] => rfl
  | n, d :: ds => by
    rw [enumD, enumD_eq (n + 1) ds]
    rfl
theorem enumD_map {α : Type} (f : α → PyData) (n : Nat) (xs : List α) : enumD n (xs.map f) = (xs.zipIdx n).map fun p => .tuple [.int p.2, f p.1] := by
  rw [enumD_eq, List.zipIdx_map, List.map_map]
  rfl
theorem zipD_map {α β : Type} (f : α → PyData) (g : β → PyData) : ∀ (xs : List α) (ys : List β), zipD (xs.map f) (ys.map g) = (xs.zip ys).map fun p => .tuple [f p.1, g p.2]
  | [], _ => rfl
  | _ :: _, [] => rfl
  | x :: xs, y :: ys => by
    rw [List.map_cons, List.map_cons, zipD, zipD_map f g xs ys]
    rfl
theorem cutD_map {α : Type} (f : α → PyData) (xs : List α) (lo hi : Option Int) : cutD (xs.map f) lo hi = ((xs.drop (HT.sIx xs.length 0 lo)).take (HT.sIx xs.length xs.length hi - HT.sIx xs.length 0 lo)).map f := by
  unfold cutD
  rw [List.length_map, List.map_take, List.map_drop]
theorem sIx_nn {n d : Nat} {v : Int} (h : 0 ≤ v) : HT.sIx n d (some v) = min v.toNat n := by
  show (if v < 0 then _ else min v.toNat n) = _
  rw [if_neg (by omega)]
theorem sIx_neg {n d : Nat} {v : Int} (h : v < 0) : HT.sIx n d (some v) = (v + n).toNat := by
  show (if v < 0 then (v + n).toNat else _) = _
  rw [if_pos h]
/-- xs[v:] -/
theorem cut_from {α : Type} (f : α → PyData) (xs : List α) {v : Int} (h : 0 ≤ v) : cutD (xs.map f) (some v) none = (xs.drop v.toNat).map f := by
  rw [cutD_map, sIx_nn h]
  show List.map f (((xs.drop (min v.toNat xs.length))).take (xs.length - min v.toNat xs.length)) = _
  by_cases e : v.toNat ≤ xs.length
  · rw [Nat.min_eq_left e, List.take_of_length_le (by rw [List.length_drop]; exact Nat.le_refl _)]
  · rw [Nat.min_eq_right (by omega), List.drop_of_length_le (Nat.le_refl _), List.drop_of_length_le (by omega)]
    simp
/-- xs[:v] -/
theorem cut_to {α : Type} (f : α → PyData) (xs : List α) {v : Int} (h : 0 ≤ v) : cutD (xs.map f) none (some v) = (xs.take v.toNat).map f := by
  rw [cutD_map, sIx_nn h]
  show List.map f ((xs.drop 0).take (min v.toNat xs.length - 0)) = _
  rw [List.drop_zero, Nat.sub_zero]
  by_cases e : v.toNat ≤ xs.length
  · rw [Nat.min_eq_left e]
  · rw [Nat.min_eq_right (by omega), List.take_of_length_le (Nat.le_refl _), List.take_of_length_le (by omega)]
/-- xs[u:v] -/
theorem cut_mid {α : Type} (f : α → PyData) (xs : List α) {u v : Int} (hu : 0 ≤ u) (h : 0 ≤ v) : cutD (xs.map f) (some u) (some v) = ((xs.take v.toNat).drop u.toNat).map f := by
  rw [cutD_map, sIx_nn h, sIx_nn hu]
  congr 1
  by_cases e : u.toNat ≤ xs.length
  · rw [Nat.min_eq_left e, List.drop_take]
    by_cases e2 : v.toNat ≤ xs.length
    · rw [Nat.min_eq_left e2]
    · rw [Nat.min_eq_right (by omega), List.take_of_length_le (i := xs.length - u.toNat) (by rw [List.length_drop]; exact Nat.le_refl _), List.take_of_length_le (by rw [List.length_drop]; omega)]
  · have z : min u.toNat xs.length = xs.length := Nat.min_eq_right (by omega)
    rw [z, List.drop_of_length_le (Nat.le_refl _), List.drop_of_length_le (i := u.toNat) (by rw [List.length_take]; omega)]
    simp
theorem cut_all {α : Type} (f : α → PyData) (xs : List α) : cutD (xs.map f) none none = xs.map f := by
  rw [cutD_map]
  show List.map f ((xs.drop 0).take (xs.length - 0)) = _
  rw [List.drop_zero, Nat.sub_zero, List.take_of_length_le (Nat.le_refl _)]
theorem rangeD_len (lo c : Int) (n : Nat) : (rangeD lo c n).length = n := by unfold rangeD; simp
theorem rangeD_map (lo c : Int) (n : Nat) : rangeD lo c n = ((List.range n).map fun i => lo + (i : Nat) * c).map .int := by
  unfold rangeD
  rw [List.map_map]
  rfl
theorem rangeD_at {lo c : Int} {n i : Nat} {d : PyData} (h : (rangeD lo c n)[i]? = some d) : i < n ∧ d = .int (lo + i * c) := by
  unfold rangeD at h
  rw [List.getElem?_map] at h
  by_cases e : i < n
  · rw [List.getElem?_range e] at h
    exact ⟨e, (Option.some.inj h).symm⟩
  · rw [List.getElem?_eq_none (by simp; omega)] at h
    cases h
theorem map_get {α β : Type} {f : α → β} {xs : List α} {i : Nat} {d : β} (h : (xs.map f)[i]? = some d) : ∃ x, xs[i]? = some x ∧ d = f x := by
  rw [List.getElem?_map] at h
  obtain ⟨x, h1, h2⟩ := Option.map_eq_some_iff.mp h
  exact ⟨x, h1, h2.symm⟩
end PL

namespace PL
open PySem PySem.Spec PyProof.Rows L2

/-! ### 38. dicts that are owned -/
def keyD : PyData → Option Key
  | .int i => some (.inl i)
  | .str s => some (.inr s)
  | _ => none
def getK {α : Type} (ms : List (Key × α)) (k : Key) : Option α := (ms.find? fun kv => decide (kv.1 = k)).map (·.2)
/-- in its place, or at the end -/
def setK {α : Type} (ms : List (Key × α)) (k : Key) (c : α) : List (Key × α) :=
  if (ms.any fun kv => decide (kv.1 = k)) = true then ms.map (fun kv => if kv.1 = k then (kv.1, c) else kv) else ms ++ [(k, c)]
/-- the first of its key -/
def updK {α : Type} : List (Key × α) → Key → α → List (Key × α)
  | [], _, _ => []
  | kv :: r, k, c => if kv.1 = k then (kv.1, c) :: r else kv :: updK r k c
theorem getK_put {α : Type} (ms : List (Key × α)) (k j : Key) (c : α) : getK (setK ms k c) j = if j = k then some c else getK ms j := by
  unfold setK
  split
  · rename_i h
    induction ms with
    | nil => cases h
    | cons kv r ih =>
      unfold getK at ih ⊢
      rw [List.map_cons, List.find?_cons, List.find?_cons]
      by_cases e : kv.1 = k
      · rw [if_pos e]
        by_cases e2 : kv.1 = j
        · rw [decide_eq_true e2]
          rw [if_pos (e2.symm.trans e)]
          rfl
        · rw [decide_eq_false e2]
          have ne : ¬ j = k := fun z => e2 (e.trans z.symm)
          rw [if_neg ne]
          by_cases any : (r.any fun kv => decide (kv.1 = k)) = true
          · have := ih any
            rw [if_neg ne] at this
            exact this
          · have same : r.map (fun kv => if kv.1 = k then (kv.1, c) else kv) = r := by
              rw [List.map_congr_left (g := id) fun x hx => ?_, List.map_id]
              rw [if_neg fun z => any (List.any_eq_true.mpr ⟨x, hx, decide_eq_true z⟩)]
              rfl
            rw [same]
      · rw [if_neg e]
        rw [List.any_cons, decide_eq_false e, Bool.false_or] at h
        have := ih h
        by_cases e2 : kv.1 = j
        · rw [decide_eq_true e2]
          have ne : ¬ j = k := fun z => e (e2.trans z)
          rw [if_neg ne]
        · rw [decide_eq_false e2]
          exact this
  · rename_i h
    unfold getK
    rw [List.find?_append]
    by_cases e : j = k
    · subst e
      rw [if_pos rfl]
      have : (ms.find? fun kv => decide (kv.1 = j)) = none := by
        rw [List.find?_eq_none]
        exact fun x hx z => h (List.any_eq_true.mpr ⟨x, hx, z⟩)
      rw [this]
      simp
    · rw [if_neg e]
      cases (ms.find? fun kv => decide (kv.1 = j)) with
      | some x => rfl
      | none => simp [show ¬ k = j from fun z => e z.symm]
section
variable {K : PySem.W.Frag} {F H : Hp}
theorem MpKV.any (k : Key) : ∀ {kvs : List (Key × V)} {ms : List (Key × MO)} {as : List Addr}, MpKV K F H kvs ms as → (kvs.any fun kv => decide (kv.1 = k)) = ms.any fun kv => decide (kv.1 = k)
  | _, _, _, .nil => rfl
  | _, _, _, .cons h r => by rw [List.any_cons, List.any_cons, MpKV.any k r]
theorem MpKV.has (k : Key) : ∀ {kvs : List (Key × V)} {ms : List (Key × MO)} {as : List Addr}, MpKV K F H kvs ms as → (valV kvs k).isSome = (getK ms k).isSome
  | _, _, _, .nil => rfl
  | _, _, _, .cons (k := j) h r => by
    have ih := MpKV.has k r
    unfold valV getK at ih ⊢
    rw [List.find?_cons, List.find?_cons]
    by_cases e : j = k
    · rw [decide_eq_true e]
      rfl
    · rw [decide_eq_false e]
      exact ih
theorem MpKV.length : ∀ {kvs : List (Key × V)} {ms : List (Key × MO)} {as : List Addr}, MpKV K F H kvs ms as → kvs.length = ms.length
  | _, _, _, .nil => rfl
  | _, _, _, .cons h r => by rw [List.length_cons, List.length_cons, MpKV.length r]
/-- what stands under a key, and what may stand there -/
theorem MpKV.get {k : Key} {c : MO} : ∀ {kvs : List (Key × V)} {ms : List (Key × MO)} {as : List Addr}, MpKV K F H kvs ms as → getK ms k = some c → ∃ v a1 a2 a3, valV kvs k = some v ∧ Mp K F H v c a2 ∧ as = a1 ++ (a2 ++ a3) ∧
    ∀ {F' H' : Hp} {c' : MO} {a2' : List Addr}, Same F F' → (∀ a ∈ a1 ++ a3, H' a = H a) → Mp K F' H' v c' a2' → MpKV K F' H' kvs (updK ms k c') (a1 ++ (a2' ++ a3))
  | _, _, _, .nil, e => by cases e
  | _, _, _, .cons (k := j) (v := v) (vs := vs) (c := c0) (cs := cs) (as := as) (bs := bs) h r, e => by
    unfold getK at e
    rw [List.find?_cons] at e
    by_cases ej : j = k
    · rw [show decide ((j, c0).1 = k) = true from decide_eq_true ej] at e
      have e' : c0 = c := Option.some.inj e
      subst e'
      refine ⟨v, [], as, bs, ?_, h, rfl, fun {F' H' c' a2'} f kk h' => ?_⟩
      · unfold valV
        rw [List.find?_cons, show decide ((j, v).1 = k) = true from decide_eq_true ej]
        rfl
      · unfold updK
        rw [if_pos ej]
        exact (show MpKV K F' H' _ _ (a2' ++ bs) from .cons h' (r.to f fun a ha => kk a (List.mem_append_right _ ha)))
    · rw [show decide ((j, c0).1 = k) = false from decide_eq_false ej] at e
      obtain ⟨w, a1, a2, a3, q1, q2, rfl, q4⟩ := MpKV.get r (show getK cs k = some c from e)
      refine ⟨w, as ++ a1, a2, a3, ?_, q2, by rw [List.append_assoc], fun {F' H' c' a2'} f kk h' => ?_⟩
      · unfold valV at q1 ⊢
        rw [List.find?_cons, show decide ((j, v).1 = k) = false from decide_eq_false ej]
        exact q1
      · unfold updK
        rw [if_neg ej, List.append_assoc]
        exact .cons (h.to f fun a ha => kk a (List.mem_append_left _ (List.mem_append_left _ ha))) (q4 f (fun a ha => kk a (by
          rcases List.mem_append.mp ha with z | z
          · exact List.mem_append_left _ (List.mem_append_right _ z)
          · exact List.mem_append_right _ z)) h')
theorem MpKV.app : ∀ {kvs : List (Key × V)} {ms : List (Key × MO)} {as : List Addr} {kvs2 : List (Key × V)} {ms2 : List (Key × MO)} {as2 : List Addr}, MpKV K F H kvs ms as → MpKV K F H kvs2 ms2 as2 → MpKV K F H (kvs ++ kvs2) (ms ++ ms2) (as ++ as2)
  | _, _, _, _, _, _, .nil, h => h
  | _, _, _, _, _, _, .cons h r, h2 => by
    rw [List.append_assoc]
    exact .cons h (MpKV.app r h2)
theorem MpKV.repl {k : Key} {w : V} {d : PyData} (hw : Fp F w d) : ∀ {kvs : List (Key × V)} {ms : List (Key × MO)} {as : List Addr}, MpKV K F H kvs ms as → ∃ as', MpKV K F H (kvs.map fun kv => if kv.1 = k then (kv.1, w) else kv) (ms.map fun kv => if kv.1 = k then (kv.1, MO.fz d) else kv) as' ∧ List.Sublist as' as
  | _, _, _, .nil => ⟨[], .nil, List.Sublist.refl _⟩
  | _, _, _, .cons (k := j) (v := v) (c := c) (as := as) h r => by
    obtain ⟨as', q1, q2⟩ := MpKV.repl hw r
    rw [List.map_cons, List.map_cons]
    by_cases e : j = k
    · rw [if_pos (show (j, v).1 = k from e), if_pos (show (j, c).1 = k from e)]
      exact ⟨[] ++ as', .cons (.fz hw) q1, List.Sublist.trans q2 (List.sublist_append_right ..)⟩
    · rw [if_neg (show ¬ (j, v).1 = k from e), if_neg (show ¬ (j, c).1 = k from e)]
      exact ⟨as ++ as', .cons h q1, List.Sublist.append_left q2 as⟩
/-- a still value under a key -/
theorem MpKV.put {k : Key} {w : V} {d : PyData} (hw : Fp F w d) {kvs : List (Key × V)} {ms : List (Key × MO)} {as : List Addr} (h : MpKV K F H kvs ms as) : ∃ as', MpKV K F H (putK kvs k w) (setK ms k (.fz d)) as' ∧ List.Sublist as' as := by
  unfold putK setK
  rw [h.any k]
  split
  · exact MpKV.repl hw h
  · exact ⟨as ++ ([] ++ []), h.app (.cons (.fz hw) .nil), by simp⟩
end
theorem Fp.key {F : Hp} {v : V} {d : PyData} {k : Key} (h : Fp F v d) (e : keyD d = some k) : v = kV k := by
  cases h with
  | int i => cases e; rfl
  | str x => cases e; rfl
  | _ => cases e
def pDNew : PO := fun env Q => Q (.m (.dk [])) env
def pDIn (i : Nat) (pk : PX) : PO := fun env Q => pk env fun kd env1 => match env1[i]?, keyD kd with
  | some (.m (.dk ms)), some k => Q (.v (.bool (getK ms k).isSome)) env1
  | _, _ => False
def pDNotIn (i : Nat) (pk : PX) : PO := fun env Q => pk env fun kd env1 => match env1[i]?, keyD kd with
  | some (.m (.dk ms)), some k => Q (.v (.bool (!(getK ms k).isSome))) env1
  | _, _ => False
/-- d[k], a still value -/
def pDGet (i : Nat) (pk : PX) : PX := fun env Q => isM env i ∧ pk env fun kd env1 => match env1[i]?, keyD kd with
  | some (.m (.dk ms)), some k => ∃ x, getK ms k = some (.fz x) ∧ Q x env1
  | _, _ => False
/-- d[k] = v, a still value -/
def pDPut (i : Nat) (pk pv : PX) : PSt := fun D env => pv env fun d env1 => isM env1 i ∧ pk env1 fun kd env2 => match env2[i]?, keyD kd with
  | some (.m (.dk ms)), some k => ms.length < sizeLine ∧ D.nx (env2.set i (.m (.dk (setK ms k (.fz d)))))
  | _, _ => False
/-- d[k] op= v -/
def pDAug (i : Nat) (pk : PX) (rp : PyData → PyData → (Sl → Prop) → Prop) (pv : PX) : PSt := fun D env => isM env i ∧ pk env fun kd env1 => match env1[i]?, keyD kd with
  | some (.m (.dk ms)), some k => ∃ x, getK ms k = some (.fz x) ∧ pv env1 fun d env2 => rp x d fun r => match r, env2[i]? with
    | .v z, some (.m (.dk ms2)) => ms2.length < sizeLine ∧ D.nx (env2.set i (.m (.dk (setK ms2 k (.fz z)))))
    | _, _ => False
  | _, _ => False
section
variable {X : Cx} {E : Ent} {K : PySem.W.Frag} {x : Str} {px pos : Pos} {b e : Expr} {pk pv : PX}
theorem l_dnew : PE X (.Dict [] [] pos) (liftO X.K E pDNew) := pe_w pe_dnewK fun σ H Q ⟨ts, F, env, As, Q', S, fx, p, k⟩ => fun a ha =>
  k (.ref a) (.m (.dk [])) [a] F _ env As (S.gr (Gr.made (o := HO.dK []) S.sub ha)) (Same.refl F) ⟨⟨_, rfl, .dk upd_same .nil⟩, by simp, fun b hb => by
    rw [List.mem_singleton.mp hb]
    exact ⟨S.sub.free ha, (S.free ha).symm⟩, fun i b hb z => by
    rw [List.mem_singleton.mp hb] at z
    exact S.live i a z ha⟩ p
theorem mp_dk {F H : Hp} {v : V} {ms : List (Key × MO)} {as : List Addr} (h : Mp K F H v (.dk ms) as) : ∃ a kvs as', v = .ref a ∧ as = a :: as' ∧ H a = some (.dK kvs) ∧ MpKV K F H kvs ms as' := by
  cases h with
  | dk h1 h2 => exact ⟨_, _, _, rfl, rfl, h1, h2⟩
theorem le_din {ts : L2.St} {F : Hp} {env : PEnv} {As : Nat → List Addr} {i : Nat} {σ : L2.St} {H : Hp} {R : Bool → Hp → Prop} {P : Bool → PEnv → Prop} (hi : i < σ.length) (S : SR K E F H (σ ++ ts) env As) (fx : FixIn E σ)
    (p : pk env fun kd env1 => match env1[i]?, keyD kd with
      | some (.m (.dk ms)), some k => P (getK ms k).isSome env1
      | _, _ => False)
    (kk : ∀ b F' H' env' As', SR K E F' H' (σ ++ ts) env' As' → Same F F' → P b env' → R b H') : liftE K E pk σ H fun y H1 => ∃ v, σ[i]? = some (some v) ∧ ∃ a o, v = .ref a ∧ DGet H1 a y o ∧ R o.isSome H1 := by
  refine ⟨ts, F, env, As, _, S, fx, p, fun y d F1 H1 env1 As1 S1 f1 hd q => ?_⟩
  split at q
  · rename_i ms k e1 e2
    obtain ⟨v, hv, h2⟩ := S1.mslot hi e1
    obtain ⟨a, kvs, as', rfl, ea, ha, hk⟩ := mp_dk h2
    refine ⟨_, hv, a, _, rfl, (hd.key e2) ▸ DGet.k ha, ?_⟩
    rw [hk.has k]
    exact kk _ F1 H1 env1 As1 S1 f1 q
  · exact q.elim
theorem l_din (i : Nat) (hu : X.A.units + 64 < cLine) (h : PE X (.Name x px) (tVar i)) (hN : i < X.N.length) (hk : PE X b (liftE X.K E pk)) (hm : behindInMarks .In (.Name x px) = false := by rfl) : PE X (.Compare b [.In] [.Name x px] pos) (liftO X.K E (pDIn i pk)) :=
  ⟨fun pins s σ H Q I ⟨ts, F, env, As, Q', S, fx, p, k⟩ => (pe_cmp (pc_din (by omega) hk h) hm).run pins s σ H Q I (le_din (by rw [I.len]; exact hN) S fx p fun b F' H' env' As' S' f q => k _ (.v (.bool b)) [] F' H' env' As' S' f (RsOk.v (.bl b)) q)⟩
theorem l_dnotin (i : Nat) (hu : X.A.units + 64 < cLine) (h : PE X (.Name x px) (tVar i)) (hN : i < X.N.length) (hk : PE X b (liftE X.K E pk)) (hm : behindInMarks .NotIn (.Name x px) = false := by rfl) : PE X (.Compare b [.NotIn] [.Name x px] pos) (liftO X.K E (pDNotIn i pk)) :=
  ⟨fun pins s σ H Q I ⟨ts, F, env, As, Q', S, fx, p, k⟩ => (pe_cmp (pc_dnotin (by omega) hk h) hm).run pins s σ H Q I (le_din (P := fun b e => Q' (.v (.bool (!b))) e) (by rw [I.len]; exact hN) S fx p fun b F' H' env' As' S' f q => k _ (.v (.bool (!b))) [] F' H' env' As' S' f (RsOk.v (.bl _)) q)⟩
theorem lt_din (i : Nat) (hu : X.A.units + 64 < cLine) (h : PE X (.Name x px) (tVar i)) (hN : i < X.N.length) (hk : PE X b (liftE X.K E pk)) (hm : behindInMarks .In (.Name x px) = false := by rfl) : PT X (.Compare b [.In] [.Name x px] pos) (liftT X.K E (pTst (pDIn i pk))) :=
  ⟨fun pins s σ H Q I ⟨ts, F, env, As, Q', S, fx, p, k⟩ => (pt_cmp (pc_din (by omega) hk h) hm).run pins s σ H Q I (le_din (R := fun b H1 => ∃ c, V.bl b = .bl c ∧ Q c H1) (by rw [I.len]; exact hN) S fx p fun b F' H' env' As' S' f q => ⟨b, rfl, k b F' H' env' As' S' f q⟩)⟩
theorem lt_dnotin (i : Nat) (hu : X.A.units + 64 < cLine) (h : PE X (.Name x px) (tVar i)) (hN : i < X.N.length) (hk : PE X b (liftE X.K E pk)) (hm : behindInMarks .NotIn (.Name x px) = false := by rfl) : PT X (.Compare b [.NotIn] [.Name x px] pos) (liftT X.K E (pTst (pDNotIn i pk))) :=
  ⟨fun pins s σ H Q I ⟨ts, F, env, As, Q', S, fx, p, k⟩ => (pt_cmp (pc_dnotin (by omega) hk h) hm).run pins s σ H Q I (le_din (R := fun b H1 => ∃ c, V.bl (!b) = .bl c ∧ Q c H1) (P := fun b e => Q' (!b) e) (by rw [I.len]; exact hN) S fx p fun b F' H' env' As' S' f q => ⟨!b, rfl, k (!b) F' H' env' As' S' f q⟩)⟩
theorem l_dget (i : Nat) (hu : X.A.units + 64 < cLine) (h : PE X (.Name x px) (tVar i)) (hN : i < X.N.length) (hs : NoSl b) (hk : PE X b (liftE X.K E pk)) : PE X (.Subscript (.Name x px) b pos) (liftE X.K E (pDGet i pk)) := by
  refine ⟨fun pins s σ H Q I ⟨ts, F, env, As, Q', S, fx, ⟨⟨c, ec⟩, p⟩, k⟩ => ?_⟩
  have hi' : i < σ.length := by rw [I.len]; exact hN
  obtain ⟨v, hv, _⟩ := S.mslot hi' ec
  refine (pe_dget (by omega) h hk hs).run pins s σ H Q I ⟨v, hv, ts, F, env, As, _, S, fx, p, fun y d F1 H1 env1 As1 S1 f1 hd q => ?_⟩
  split at q
  · rename_i ms kk e1 e2
    obtain ⟨w, hw, h2⟩ := S1.mslot hi' e1
    rw [hv] at hw
    cases hw
    obtain ⟨a, kvs, as', rfl, ea, ha, hk⟩ := mp_dk h2
    obtain ⟨z, ez, q⟩ := q
    obtain ⟨w, a1, a2, a3, g1, g2, _⟩ := hk.get ez
    have g := DGet.k (k := kk) ha
    rw [g1] at g
    cases g2 with
    | fz g2 => exact ⟨a, w, rfl, (hd.key e2) ▸ g, k w z F1 H1 env1 As1 S1 f1 g2 q⟩
  · exact q.elim
/-- an owned dict rewritten -/
theorem SR.dput {F H : Hp} {σ ts : L2.St} {env : PEnv} {As : Nat → List Addr} (S : SR K E F H (σ ++ ts) env As) {i : Nat} (hi : i < σ.length) {ms : List (Key × MO)} (e : env[i]? = some (.m (.dk ms))) {k : Key} {d : PyData} {w : V} (hw : Fp F w d) :
    ∃ a kvs, σ[i]? = some (some (.ref a)) ∧ H a = some (.dK kvs) ∧ kvs.length = ms.length ∧ ∃ As', SR K E F (upd H a (.dK (putK kvs k w))) (σ ++ ts) (env.set i (.m (.dk (setK ms k (.fz d))))) As' := by
  obtain ⟨v, hv, h2⟩ := S.mslot hi e
  have nd := S.nd i
  generalize hA : As i = ai at h2 nd
  obtain ⟨a, kvs, as', rfl, rfl, ha, hk⟩ := mp_dk h2
  obtain ⟨as2, g1, g2⟩ := hk.put (k := k) hw
  have na : a ∉ as' := (List.nodup_cons.mp nd).1
  refine ⟨a, kvs, hv, ha, hk.length, _, S.write (H' := upd H a (.dK (putK kvs k w))) (as' := a :: as2) (List.getElem?_eq_some_iff.mp e).1 (by rw [List.getElem?_append_left hi]; exact hv)
    (.dk upd_same (g1.to (Same.refl F) fun b hb => upd_ne fun z => na (by rw [← z]; exact g2.subset hb))) ?_ (fun b hb => .inl ?_) fun b hb _ => upd_ne fun z => hb (by rw [hA, z]; exact List.mem_cons_self)⟩
  · exact List.nodup_cons.mpr ⟨fun z => na (g2.subset z), (List.nodup_cons.mp nd).2.sublist g2⟩
  · rw [hA]
    rcases List.mem_cons.mp hb with z | z
    · rw [z]; exact List.mem_cons_self
    · exact List.mem_cons_of_mem _ (g2.subset z)
theorem ls_dput (i : Nat) {tpos : Pos} (hu : X.A.units + 64 < cLine) (h : PE X (.Name x px) (tVar i)) (hN : i < X.N.length) (hk : PE X b (liftE X.K E pk)) (hv : PE X e (liftE X.K E pv)) (hs : swapsWith e (some (.Subscript (.Name x px) b tpos)) pos.line X.env = pure false := by rfl) :
    PS X (.Assign [.Subscript (.Name x px) b tpos] e pos) (liftS X.K E (pDPut i pk pv)) := by
  refine ⟨fun pins s σ H D I ⟨F, env, As, D', S, fx, p, k⟩ => (ps_dput (by omega) h hk hv hs).run pins s σ H D I ⟨[], F, env, As, _, app_nil_SR S, fx, p, fun v d F1 H1 env1 As1 S1 f1 hd ⟨⟨c, ec⟩, q⟩ => ?_⟩⟩
  have hi' : i < σ.length := by rw [I.len]; exact hN
  obtain ⟨u, hu', _⟩ := S1.mslot hi' ec
  refine ⟨u, hu', [], F1, env1, As1, _, S1, fx, q, fun y kd F2 H2 env2 As2 S2 f2 hkd q => ?_⟩
  split at q
  · rename_i ms kk e1 e2
    obtain ⟨a, kvs, g1, g2, g3, As3, g4⟩ := S2.dput hi' e1 (k := kk) (hd.to f2)
    rw [hu'] at g1
    cases g1
    exact ⟨a, _, rfl, (hkd.key e2) ▸ DPut.k g2 (by rw [g3]; exact q.1), k.nx σ F2 _ _ As3 rfl (nil_app_SR g4) (f1.trans f2) q.2⟩
  · exact q.elim
theorem ls_daug (i : Nat) {tpos : Pos} {op : Operator} {rd : V → V → Hp → VK → Prop} {rp : PyData → PyData → (Sl → Prop) → Prop} (hop : PIp X op rd) (hr : Op2 X.K rd rp) (hu : X.A.units + 64 < cLine) (h : PE X (.Name x px) (tVar i)) (hN : i < X.N.length) (hk : PE X b (liftE X.K E pk)) (hv : PE X e (liftE X.K E pv))
    (ha : ∀ ov iv new, augStore b ov iv new = (do holding [new, ov, iv] (setItem ov iv new); release [new, ov, iv] []; pure .next) := by intro _ _ _; rfl) :
    PS X (.AugAssign (.Subscript (.Name x px) b tpos) op e pos) (liftS X.K E (pDAug i pk rp pv)) := by
  refine ⟨fun pins s σ H D I ⟨F, env, As, D', S, fx, ⟨⟨c, ec⟩, p⟩, k⟩ => (ps_daug (by omega) h hk hv (fun pins s σ H x y u v Q I rx ry q => hop pins s σ H x y u v Q I rx ry q) ha).run pins s σ H D I ?_⟩
  have hi' : i < σ.length := by rw [I.len]; exact hN
  obtain ⟨u, hu', _⟩ := (app_nil_SR S).mslot hi' ec
  refine ⟨u, hu', [], F, env, As, _, app_nil_SR S, fx, p, fun y kd F1 H1 env1 As1 S1 f1 hkd q => ?_⟩
  split at q
  · rename_i ms kk e1 e2
    obtain ⟨w, hw, h2⟩ := S1.mslot hi' e1
    rw [hu'] at hw
    cases hw
    obtain ⟨a, kvs, as', rfl, ea, haa, hkk⟩ := mp_dk h2
    obtain ⟨z, ez, q⟩ := q
    obtain ⟨w, a1, a2, a3, g1, g2, _⟩ := hkk.get ez
    have g := DGet.k (k := kk) haa
    rw [g1] at g
    cases g2 with
    | fz g2 =>
      refine ⟨a, w, rfl, (hkd.key e2) ▸ g, [], F1, env1, As1, _, S1, fx, q, fun y2 d F2 H2 env2 As2 S2 f2 hd q => ?_⟩
      refine hr F2 H2 w y2 z d _ _ S2.sub (g2.to f2) hd q fun r rz ar F3 H3 g3 n q => ?_
      split at q
      · rename_i rz' z' ms2 _ e3
        have S3 := S2.gr g3
        obtain ⟨v', ev, hz, _⟩ := n.1
        cases ev
        obtain ⟨a', kvs', k1, k2, k3, As4, k4⟩ := S3.dput hi' e3 (k := kk) hz
        rw [hu'] at k1
        cases k1
        exact ⟨_, (hkd.key e2) ▸ DPut.k k2 (by rw [k3]; exact q.1), k.nx σ F3 _ _ As4 rfl (nil_app_SR k4) ((f1.trans f2).trans g3.ff) q.2⟩
      · exact q.elim
  · exact q.elim
end
end PL

namespace PL
open PySem PySem.Spec PyProof.Rows L2

/-! ### 39. a thing within an owned thing -/
def subM : MO → PyData → Option MO
  | .lst cs, .int i => atI cs i
  | .dk ms, d => (keyD d).bind (getK ms)
  | _, _ => none
def putM : MO → PyData → MO → MO
  | .lst cs, .int i, c => match ixN cs.length i with
    | some j => .lst (cs.set j c)
    | none => .lst cs
  | .dk ms, d, c => match keyD d with
    | some k => .dk (updK ms k c)
    | none => .dk ms
  | m, _, _ => m
section
variable {K : PySem.W.Frag} {E : Ent} {F H : Hp}
theorem Mp.subL {v : V} {cs : List MO} {as : List Addr} {i : Int} {c1 : MO} (h : Mp K F H v (.lst cs) as) (e : subM (.lst cs) (.int i) = some c1) : ∃ a vs w a1 a2 a3, v = .ref a ∧ H a = some (.lst vs) ∧ atI vs i = some w ∧ Mp K F H w c1 a2 ∧ as = a :: (a1 ++ (a2 ++ a3)) ∧
    ∀ {F' H' : Hp} {c1' : MO} {a2' : List Addr}, Same F F' → H' a = H a → (∀ b ∈ a1 ++ a3, H' b = H b) → Mp K F' H' w c1' a2' → Mp K F' H' v (putM (.lst cs) (.int i) c1') (a :: (a1 ++ (a2' ++ a3))) := by
  cases h with
  | @lst a vs cs as ha r =>
    have e0 : atI cs i = some c1 := e
    unfold atI at e0
    cases q : ixN cs.length i with
    | none => rw [q] at e0; cases e0
    | some j =>
      rw [q] at e0
      obtain ⟨w, a1, a2, a3, q1, q2, rfl, q4⟩ := r.get (show cs[j]? = some c1 from e0)
      refine ⟨a, vs, w, a1, a2, a3, rfl, ha, ?_, q2, rfl, fun {F' H' c1' a2'} f k1 k2 h' => ?_⟩
      · unfold atI
        rw [r.length, q]
        exact q1
      · have z := q4 f k2 h' (v' := w)
        have e2 : vs.set j w = vs := by
          obtain ⟨hj, hw⟩ := List.getElem?_eq_some_iff.mp q1
          rw [← hw]
          exact List.set_getElem_self hj
        rw [e2] at z
        have e3 : putM (.lst cs) (.int i) c1' = .lst (cs.set j c1') := by simp only [putM, q]
        rw [e3]
        exact .lst (by rw [k1]; exact ha) z
theorem Mp.subD {v : V} {ms : List (Key × MO)} {as : List Addr} {d : PyData} {k : Key} {c1 : MO} (h : Mp K F H v (.dk ms) as) (ek : keyD d = some k) (e : subM (.dk ms) d = some c1) : ∃ a kvs w a1 a2 a3, v = .ref a ∧ H a = some (.dK kvs) ∧ valV kvs k = some w ∧ Mp K F H w c1 a2 ∧ as = a :: (a1 ++ (a2 ++ a3)) ∧
    ∀ {F' H' : Hp} {c1' : MO} {a2' : List Addr}, Same F F' → H' a = H a → (∀ b ∈ a1 ++ a3, H' b = H b) → Mp K F' H' w c1' a2' → Mp K F' H' v (putM (.dk ms) d c1') (a :: (a1 ++ (a2' ++ a3))) := by
  cases h with
  | @dk a kvs ms as ha r =>
    have e0 : getK ms k = some c1 := by
      have : (keyD d).bind (getK ms) = some c1 := e
      rw [ek] at this
      exact this
    obtain ⟨w, a1, a2, a3, q1, q2, rfl, q4⟩ := r.get e0
    refine ⟨a, kvs, w, a1, a2, a3, rfl, ha, q1, q2, rfl, fun {F' H' c1' a2'} f k1 k2 h' => ?_⟩
    have e3 : putM (.dk ms) d c1' = .dk (updK ms k c1') := by simp only [putM, ek]
    rw [e3]
    exact .dk (by rw [k1]; exact ha) (q4 f k2 h')
/-- an inner list rewritten -/
theorem SR.inner {σ ts : L2.St} {env : PEnv} {As : Nat → List Addr} (S : SR K E F H (σ ++ ts) env As) {i : Nat} (hi : i < σ.length) {c : MO} (e : env[i]? = some (.m c)) {a : Addr} {w : V} {ds : List PyData} {a1 a2 a3 : List Addr} {f : MO → MO} (hv : σ[i]? = some (some (.ref a)))
    (ea : As i = a :: (a1 ++ (a2 ++ a3))) (m : Mp K F H w (.ol ds) a2)
    (up : ∀ {F' H' : Hp} {c1' : MO} {a2' : List Addr}, Same F F' → H' a = H a → (∀ b ∈ a1 ++ a3, H' b = H b) → Mp K F' H' w c1' a2' → Mp K F' H' (.ref a) (f c1') (a :: (a1 ++ (a2' ++ a3)))) :
    ∃ b us, w = .ref b ∧ H b = some (.lst us) ∧ FpAll F us ds ∧ ∀ us' ds', FpAll F us' ds' → ∃ As', SR K E F (upd H b (.lst us')) (σ ++ ts) (env.set i (.m (f (.ol ds')))) As' := by
  obtain ⟨b, us, rfl, rfl, hb, ra⟩ := mp_ol m
  have nd := S.nd i
  rw [ea] at nd
  have n1 := List.nodup_cons.mp nd
  have nab : a ≠ b := fun z => n1.1 (by rw [z]; simp)
  have n2 := List.nodup_append.mp n1.2
  have n3 := List.nodup_append.mp n2.2.1
  refine ⟨b, us, rfl, hb, ra, fun us' ds' h' => ⟨_, S.write (H' := upd H b (.lst us')) (as' := a :: (a1 ++ ([b] ++ a3))) (List.getElem?_eq_some_iff.mp e).1 (by rw [List.getElem?_append_left hi]; exact hv)
    (up (Same.refl F) (upd_ne nab) (fun d hd => upd_ne fun z => ?_) (.ol upd_same h')) nd (fun d hd => .inl (by rw [ea]; exact hd)) fun d hd _ => upd_ne fun z => hd (by rw [ea, z]; simp)⟩⟩
  rcases List.mem_append.mp hd with hd | hd
  · exact n2.2.2 d hd b (by simp) z
  · exact n3.2.2 b (by simp) d hd z.symm
end
/-- x[k].m(constants) of an inner list -/
def pMethL (i : Nat) (rp : RpM) (es : List PyData) (pk : PX) : PX := fun env Q => isM env i ∧ pk env fun kd env1 => match env1[i]?, kd with
  | some (.m (.lst cs)), .int j => match atI cs j with
    | some (.ol ds) => rp ds es fun d ds' => Q d (env1.set i (.m (putM (.lst cs) (.int j) (.ol ds'))))
    | _ => False
  | _, _ => False
def pMethD (i : Nat) (rp : RpM) (es : List PyData) (pk : PX) : PX := fun env Q => isM env i ∧ pk env fun kd env1 => match env1[i]?, keyD kd with
  | some (.m (.dk ms)), some k => match getK ms k with
    | some (.ol ds) => rp ds es fun d ds' => Q d (env1.set i (.m (.dk (updK ms k (.ol ds')))))
    | _ => False
  | _, _ => False
/-- len(x[k]) of an inner list -/
def pLenL (i : Nat) (pk : PX) : PX := fun env Q => isM env i ∧ pk env fun kd env1 => match env1[i]?, kd with
  | some (.m (.lst cs)), .int j => match atI cs j with
    | some (.ol ds) => Q (.int ds.length) env1
    | _ => False
  | _, _ => False
def pLenD (i : Nat) (pk : PX) : PX := fun env Q => isM env i ∧ pk env fun kd env1 => match env1[i]?, keyD kd with
  | some (.m (.dk ms)), some k => match getK ms k with
    | some (.ol ds) => Q (.int ds.length) env1
    | _ => False
  | _, _ => False
section
variable {X : Cx} {E : Ent} {x : Str} {px p2 pos : Pos} {b e : Expr} {pk : PX} {r : V → List V → Hp → VK → Prop} {rp : RpM}
theorem l_methL (i : Nat) {es : List PyData} {vs : List V} {t : TA} (hr : OpM X.K r rp) (hes : ∀ F : Hp, FpAll F vs es) (ht : ∀ σ H Q, Q vs H → t σ H Q) (hs : PlainIx b) (h : PE X (.Name x px) (tVar i)) (hN : i < X.N.length) (hk : PE X b (liftE X.K E pk))
    (hm : ∀ to, PE X (.Subscript (.Name x px) b p2) to → PE X e (tBM X.K "list" r to t)) : PE X e (liftE X.K E (pMethL i rp es pk)) := by
  refine ⟨fun pins s σ H Q I ⟨ts, F, env, As, Q', S, fx, ⟨⟨c0, ec⟩, p⟩, k⟩ => ?_⟩
  have hi : i < σ.length := by rw [I.len]; exact hN
  obtain ⟨v, hv, _⟩ := S.mslot hi ec
  refine (hm _ (pe_ix ix_list h hk hs)).run pins s σ H Q I ⟨v, hv, ts, F, env, As, _, S, fx, p, fun kv kd F1 H1 env1 As1 S1 f1 hd q => ?_⟩
  split at q
  · rename_i cs j e1
    split at q
    · rename_i ds e2
      obtain ⟨w0, hw0, m⟩ := S1.mslot hi e1
      rw [hv] at hw0
      cases hw0
      generalize hA : As1 i = ai at m
      obtain ⟨a, vs1, w, a1, a2, a3, rfl, g1, g2, g3, rfl, up⟩ := m.subL (i := j) e2
      obtain ⟨bb, us, rfl, g4, ra, wr⟩ := S1.inner (f := putM (.lst cs) (.int j)) hi e1 hv hA g3 up
      refine ⟨a, vs1, j, _, rfl, hd.int_inv, SqL.of g1, g2, .inl ⟨rfl, _, SqL.of g4⟩, ht _ _ _ ?_⟩
      refine hr F1 H1 _ us ds vs es Q _ S1.sub g4 ra (hes F1) q fun z d vs' ds' h1 h2 q => ?_
      obtain ⟨As', S'⟩ := wr vs' ds' h1
      exact k z d F1 _ _ As' S' f1 h2 q
    · exact q.elim
  · exact q.elim
theorem l_methD (i : Nat) {es : List PyData} {vs : List V} {t : TA} (hr : OpM X.K r rp) (hes : ∀ F : Hp, FpAll F vs es) (ht : ∀ σ H Q, Q vs H → t σ H Q) (hu : X.A.units + 64 < cLine) (hs : NoSl b) (h : PE X (.Name x px) (tVar i)) (hN : i < X.N.length) (hk : PE X b (liftE X.K E pk))
    (hm : ∀ to, PE X (.Subscript (.Name x px) b p2) to → PE X e (tBM X.K "list" r to t)) : PE X e (liftE X.K E (pMethD i rp es pk)) := by
  refine ⟨fun pins s σ H Q I ⟨ts, F, env, As, Q', S, fx, ⟨⟨c0, ec⟩, p⟩, k⟩ => ?_⟩
  have hi : i < σ.length := by rw [I.len]; exact hN
  obtain ⟨v, hv, _⟩ := S.mslot hi ec
  refine (hm _ (pe_dget (by omega) h hk hs)).run pins s σ H Q I ⟨v, hv, ts, F, env, As, _, S, fx, p, fun kv kd F1 H1 env1 As1 S1 f1 hd q => ?_⟩
  split at q
  · rename_i ms kk e1 ek
    split at q
    · rename_i ds e2
      obtain ⟨w0, hw0, m⟩ := S1.mslot hi e1
      rw [hv] at hw0
      cases hw0
      generalize hA : As1 i = ai at m
      have e3 : subM (.dk ms) kd = some (.ol ds) := by
        show (keyD kd).bind (getK ms) = _
        rw [ek]
        exact e2
      obtain ⟨a, kvs, w, a1, a2, a3, rfl, g1, g2, g3, rfl, up⟩ := m.subD ek e3
      obtain ⟨bb, us, rfl, g4, ra, wr⟩ := S1.inner (f := putM (.dk ms) kd) hi e1 hv hA g3 up
      have g := DGet.k (k := kk) g1
      rw [g2] at g
      refine ⟨a, .ref bb, rfl, (hd.key ek) ▸ g, .inl ⟨rfl, _, SqL.of g4⟩, ht _ _ _ ?_⟩
      refine hr F1 H1 _ us ds vs es Q _ S1.sub g4 ra (hes F1) q fun z d vs' ds' h1 h2 q => ?_
      obtain ⟨As', S'⟩ := wr vs' ds' h1
      have e4 : putM (.dk ms) kd (.ol ds') = .dk (updK ms kk (.ol ds')) := by simp only [putM, ek]
      rw [e4] at S'
      exact k z d F1 _ _ As' S' f1 h2 q
    · exact q.elim
  · exact q.elim
theorem l_lenL (i : Nat) {y : Str} {p : Pos} (hs : PlainIx b) (h : PE X (.Name x px) (tVar i)) (hN : i < X.N.length) (hk : PE X b (liftE X.K E pk)) (hg : Gl X y) (hm : X.mg y = none) (hv : bootBuiltins y = some (.builtin "len")) (hn : y ≠ "__name__" := by decide) (hdb : (y == ("__debug__" : Str)) = false := by decide)
    (he : starEach [.Subscript (.Name x px) b p2] X.env = (false, eval (.Subscript (.Name x px) b p2) X.env) :: starEach [] X.env := by rfl) (hpl : (backTo pos (starEach [] X.env)).any (·.1) = false := by rfl) : PE X (.Call (.Name y p) [.Subscript (.Name x px) b p2] [] pos) (liftE X.K E (pLenL i pk)) := by
  refine ⟨fun pins s σ H Q I ⟨ts, F, env, As, Q', S, fx, ⟨⟨c0, ec⟩, p⟩, k⟩ => ?_⟩
  have hi : i < σ.length := by rw [I.len]; exact hN
  obtain ⟨v, hv', _⟩ := S.mslot hi ec
  refine (pe_callB c_len hg hm hv (pa_cons (pe_ix ix_list h hk hs) pa_nil he) hn hdb he hpl).run pins s σ H Q I ⟨v, hv', ts, F, env, As, _, S, fx, p, fun kv kd F1 H1 env1 As1 S1 f1 hd q => ?_⟩
  split at q
  · rename_i cs j e1
    split at q
    · rename_i ds e2
      obtain ⟨w0, hw0, m⟩ := S1.mslot hi e1
      rw [hv'] at hw0
      cases hw0
      generalize hA : As1 i = ai at m
      obtain ⟨a, vs1, w, a1, a2, a3, rfl, g1, g2, g3, rfl, up⟩ := m.subL (i := j) e2
      obtain ⟨bb, us, rfl, rfl, hb, ra⟩ := mp_ol g3
      refine ⟨a, vs1, j, _, rfl, hd.int_inv, SqL.of g1, g2, .inl ⟨bb, us, rfl, .inl (SqL.of hb), ?_⟩⟩
      rw [ra.length]
      exact k (.int _) _ F1 H1 env1 As1 S1 f1 (.int _) q
    · exact q.elim
  · exact q.elim
theorem l_lenD (i : Nat) {y : Str} {p : Pos} (hu : X.A.units + 64 < cLine) (hs : NoSl b) (h : PE X (.Name x px) (tVar i)) (hN : i < X.N.length) (hk : PE X b (liftE X.K E pk)) (hg : Gl X y) (hm : X.mg y = none) (hv : bootBuiltins y = some (.builtin "len")) (hn : y ≠ "__name__" := by decide) (hdb : (y == ("__debug__" : Str)) = false := by decide)
    (he : starEach [.Subscript (.Name x px) b p2] X.env = (false, eval (.Subscript (.Name x px) b p2) X.env) :: starEach [] X.env := by rfl) (hpl : (backTo pos (starEach [] X.env)).any (·.1) = false := by rfl) : PE X (.Call (.Name y p) [.Subscript (.Name x px) b p2] [] pos) (liftE X.K E (pLenD i pk)) := by
  refine ⟨fun pins s σ H Q I ⟨ts, F, env, As, Q', S, fx, ⟨⟨c0, ec⟩, p⟩, k⟩ => ?_⟩
  have hi : i < σ.length := by rw [I.len]; exact hN
  obtain ⟨v, hv', _⟩ := S.mslot hi ec
  refine (pe_callB c_len hg hm hv (pa_cons (pe_dget (by omega) h hk hs) pa_nil he) hn hdb he hpl).run pins s σ H Q I ⟨v, hv', ts, F, env, As, _, S, fx, p, fun kv kd F1 H1 env1 As1 S1 f1 hd q => ?_⟩
  split at q
  · rename_i ms kk e1 ek
    split at q
    · rename_i ds e2
      obtain ⟨w0, hw0, m⟩ := S1.mslot hi e1
      rw [hv'] at hw0
      cases hw0
      generalize hA : As1 i = ai at m
      have e3 : subM (.dk ms) kd = some (.ol ds) := by
        show (keyD kd).bind (getK ms) = _
        rw [ek]
        exact e2
      obtain ⟨a, kvs, w, a1, a2, a3, rfl, g1, g2, g3, rfl, up⟩ := m.subD ek e3
      obtain ⟨bb, us, rfl, rfl, hb, ra⟩ := mp_ol g3
      have g := DGet.k (k := kk) g1
      rw [g2] at g
      refine ⟨a, .ref bb, rfl, (hd.key ek) ▸ g, .inl ⟨bb, us, rfl, .inl (SqL.of hb), ?_⟩⟩
      rw [ra.length]
      exact k (.int _) _ F1 H1 env1 As1 S1 f1 (.int _) q
    · exact q.elim
  · exact q.elim
end

/-! ### 39b. a method of a new thing that no slot holds -/
theorem SR.poke {K : PySem.W.Frag} {E : Ent} {F H : Hp} {σ : L2.St} {env : PEnv} {As : Nat → List Addr} (S : SR K E F H σ env As) {a : Addr} {o : HO} (hF : F a = none) (hB : E.B a ∨ E.H0 a = none) (hA : ∀ i, a ∉ As i) : SR K E F (upd H a o) σ env As where
  sub := fun b u e => by rw [upd_ne (ne_of_none e hF)]; exact S.sub b u e
  f0 := S.f0
  grow := S.grow
  keep := fun b u e n => by
    have ne : b ≠ a := fun z => by
      rw [z] at e n
      rcases hB with h | h
      · exact n h
      · rw [h] at e; cases e
    rw [upd_ne ne]
    exact S.keep b u e n
  len := S.len
  slot := fun i s e => by
    obtain ⟨x, h1, h2⟩ := S.slot i s e
    exact ⟨x, h1, h2.to (Same.refl F) fun b hb => upd_ne fun z => hA i (by rw [← z]; exact hb)⟩
  out := S.out
  own := S.own
  nd := S.nd
  disj := S.disj
  fix := S.fix
def pMethT (rp : RpM) (es : List PyData) (po : PO) : PX := fun env Q => po env fun r env1 => match r with
  | .m (.ol ds) => rp ds es fun d _ => Q d env1
  | _ => False
theorem l_methT {X : Cx} {E : Ent} {o e : Expr} {r : V → List V → Hp → VK → Prop} {rp : RpM} {es : List PyData} {vs : List V} {t : TA} {po : PO} (hr : OpM X.K r rp) (hes : ∀ F : Hp, FpAll F vs es) (ht : ∀ σ H Q, Q vs H → t σ H Q) (ho : PE X o (liftO X.K E po))
    (hm : ∀ to, PE X o to → PE X e (tBM X.K "list" r to t)) : PE X e (liftE X.K E (pMethT rp es po)) := by
  refine ⟨fun pins s σ H Q I ⟨ts, F, env, As, Q', S, fx, p, k⟩ => (hm _ ho).run pins s σ H Q I ⟨ts, F, env, As, _, S, fx, p, fun v r0 ar F1 H1 env1 As1 S1 f1 R q => ?_⟩⟩
  split at q
  · rename_i ds
    obtain ⟨v', e1, m⟩ := R.1
    cases e1
    obtain ⟨a, us, rfl, rfl, ha, ra⟩ := mp_ol m
    have own := R.2.2.1 a (List.mem_singleton.mpr rfl)
    refine ⟨.inl ⟨rfl, _, SqL.of ha⟩, ht _ _ _ ?_⟩
    refine hr F1 H1 a us ds vs es Q _ S1.sub ha ra (hes F1) q fun z d vs' ds' h1 h2 q => ?_
    exact k z d F1 _ env1 As1 (S1.poke own.1 own.2 fun i => R.2.2.2 i a (List.mem_singleton.mpr rfl)) f1 h2 q
  · exact q.elim

/-- m() of a list that was just made -/
theorem l_methT0 {X : Cx} {E : Ent} {o e : Expr} {r : V → List V → Hp → VK → Prop} {rp : RpM} {po : PO} (hr : OpM X.K r rp) (ho : PE X o (liftO X.K E po))
    (hm : ∀ to, PE X o to → PE X e (tBM0 X.K "list" r to)) : PE X e (liftE X.K E (pMethT rp [] po)) := by
  refine ⟨fun pins s σ H Q I ⟨ts, F, env, As, Q', S, fx, p, k⟩ => (hm _ ho).run pins s σ H Q I ⟨ts, F, env, As, _, S, fx, p, fun v r0 ar F1 H1 env1 As1 S1 f1 R q => ?_⟩⟩
  split at q
  · rename_i ds
    obtain ⟨v', e1, m⟩ := R.1
    cases e1
    obtain ⟨a, us, rfl, rfl, ha, ra⟩ := mp_ol m
    have own := R.2.2.1 a (List.mem_singleton.mpr rfl)
    refine ⟨.inl ⟨rfl, _, SqL.of ha⟩, ?_⟩
    refine hr F1 H1 a us ds [] [] Q _ S1.sub ha ra .nil q fun z d vs' ds' h1 h2 q => ?_
    exact k z d F1 _ env1 As1 (S1.poke own.1 own.2 fun i => R.2.2.2 i a (List.mem_singleton.mpr rfl)) f1 h2 q
  · exact q.elim

/-! ### 40. a op1 b op2 c op3 d -/
def tChain3 (r r' r3 : R2) (ta tb tc td : TE) : TE := fun σ H Q => ta σ H fun x H1 => tb σ H1 fun y H2 => r x y H2 fun z H3 => ∃ k, z = .bl k ∧
  (if k = true then tc σ H3 fun w' H4 => r' y w' H4 fun z2 H5 => ∃ k2, z2 = .bl k2 ∧ (if k2 = true then td σ H5 fun u H6 => r3 w' u H6 Q else Q (.bl false) H5) else Q (.bl false) H3)
def pChain3 (rp rp' rp3 : PyData → PyData → (Sl → Prop) → Prop) (pa pb pc pd : PX) : PO := fun env Q => pa env fun d env1 => pb env1 fun e env2 => rp d e fun r => match r with
  | .v (.bool true) => pc env2 fun g env3 => rp' e g fun r' => match r' with
    | .v (.bool true) => pd env3 fun f env4 => rp3 g f fun r3 => Q r3 env4
    | .v (.bool false) => Q (.v (.bool false)) env3
    | _ => False
  | .v (.bool false) => Q (.v (.bool false)) env2
  | _ => False
section
variable {X : Cx} {E : Ent} {K : PySem.W.Frag} {a b c d : Expr} {ta tb tc td : TE} {pos : Pos} {pa pb pc pd : PX}
theorem pe_chain3 {op op' op3 : CmpOp} {r r' r3 : R2} (ho : OpR X (compareOp op) r) (ho' : OpR X (compareOp op') r') (ho3 : OpR X (compareOp op3) r3) (ha : PE X a ta) (hb : PE X b tb) (hc : PE X c tc) (hd : PE X d td)
    (hm : lastMarks [op, op', op3] [b, c, d] = false := by with_unfolding_all rfl) : PE X (.Compare a [op, op', op3] [b, c, d] pos) (tChain3 r r' r3 ta tb tc td) := by
  refine ⟨fun pins s σ H Q I h => ?_⟩
  refine Compare_chain (thn (ha.run pins s σ H _ I h) fun v s1 ⟨x, H1, I1, r1, q1⟩ => chain_link (thn (hb.run pins s1 σ H1 _ I1 q1) fun u s2 ⟨y, H2, I2, r2, q2⟩ =>
    thn (ho pins s2 σ H2 x y v u _ I2 r1 r2 q2) fun d s3 ⟨z, H3, I3, r3, k, e, q3⟩ => ?_)) hm
  subst e
  cases r3
  refine wpAny_truthy_bool ?_
  cases k with
  | false => exact ite_ff ⟨.bl false, H3, I3, rfl, q3⟩
  | true =>
    refine ite_tt (chain_link (thn (hc.run pins s3 σ H3 _ I3 q3) fun w' s4 ⟨z', H4, I4, r4, q4⟩ => thn (ho' pins s4 σ H4 y z' u w' _ I4 r2 r4 q4) fun d' s5 ⟨z2, H5, I5, r5, k2, e2, q5⟩ => ?_))
    subst e2
    cases r5
    refine wpAny_truthy_bool ?_
    cases k2 with
    | false => exact ite_ff ⟨.bl false, H5, I5, rfl, q5⟩
    | true => exact ite_tt (chain_last (thn (hd.run pins s5 σ H5 _ I5 q5) fun w2 s6 ⟨z3, H6, I6, r6, q6⟩ => ho3 pins s6 σ H6 z' z3 w' w2 Q I6 r4 r6 q6))
theorem pt_chain3 {op op' op3 : CmpOp} {r r' r3 : R2} (ho : OpR X (compareOp op) r) (ho' : OpR X (compareOp op') r') (ho3 : OpR X (compareOp op3) r3) (ha : PE X a ta) (hb : PE X b tb) (hc : PE X c tc) (hd : PE X d td)
    (hm : lastMarks [op, op', op3] [b, c, d] = false := by with_unfolding_all rfl) : PT X (.Compare a [op, op', op3] [b, c, d] pos) (tTest (tChain3 r r' r3 ta tb tc td)) := by
  refine ⟨fun pins s σ H Q I h => ?_⟩
  refine isTrue_chain (thn (ha.run pins s σ H _ I h) fun v s1 ⟨x, H1, I1, r1, q1⟩ => test_link (thn (hb.run pins s1 σ H1 _ I1 q1) fun u s2 ⟨y, H2, I2, r2, q2⟩ =>
    thn (ho pins s2 σ H2 x y v u _ I2 r1 r2 q2) fun d s3 ⟨z, H3, I3, r3, k, e, q3⟩ => ?_)) hm
  subst e
  cases r3
  refine wpAny_truthy_bool ?_
  cases k with
  | false =>
    obtain ⟨k', e', q'⟩ := q3
    cases e'
    exact ite_ff ⟨H3, I3, q'⟩
  | true =>
    refine ite_tt (test_link (thn (hc.run pins s3 σ H3 _ I3 q3) fun w' s4 ⟨z', H4, I4, r4, q4⟩ => thn (ho' pins s4 σ H4 y z' u w' _ I4 r2 r4 q4) fun d' s5 ⟨z2, H5, I5, r5, k2, e2, q5⟩ => ?_))
    subst e2
    cases r5
    refine wpAny_truthy_bool ?_
    cases k2 with
    | false =>
      obtain ⟨k', e', q'⟩ := q5
      cases e'
      exact ite_ff ⟨H5, I5, q'⟩
    | true =>
      refine ite_tt (test_last (thn (hd.run pins s5 σ H5 _ I5 q5) fun w2 s6 ⟨z3, H6, I6, r6, q6⟩ => thn (ho3 pins s6 σ H6 z' z3 w' w2 _ I6 r4 r6 q6) fun d2 s7 ⟨z4, H7, I7, r7, k3, e3, q7⟩ => ?_))
      subst e3
      cases r7
      exact wpAny_truthy_bool ⟨H7, I7, q7⟩
theorem le_chain3 {r r' r3 : R2} {rp rp' rp3 : PyData → PyData → (Sl → Prop) → Prop} (hr : Op2 K r rp) (hr' : Op2 K r' rp') (hr3 : Op2 K r3 rp3) : Le (liftO K E (pChain3 rp rp' rp3 pa pb pc pd)) (tChain3 r r' r3 (liftE K E pa) (liftE K E pb) (liftE K E pc) (liftE K E pd)) := fun σ H Q ⟨ts, F, env, As, Q', S, fx, p, k⟩ => by
  refine l_two' S fx p fun x y d e F' H' env' As' S' f h1 h2 q => hr F' H' x y d e _ _ S'.sub h1 h2 q fun z rz ar F2 H2 g n q => ?_
  split at q
  · have S2 := S'.gr g
    refine ⟨true, bl_of n, ?_⟩
    rw [if_pos rfl]
    refine ⟨ts, F2, env', As', _, S2, fx, q, fun w' g' F3 H3 env3 As3 S3 f3 h3 q3 => hr' F3 H3 y w' e g' _ _ S3.sub ((h2.to g.ff).to f3) h3 q3 fun z2 rz2 ar2 F4 H4 g4 n4 q4 => ?_⟩
    split at q4
    · have S4 := S3.gr g4
      refine ⟨true, bl_of n4, ?_⟩
      rw [if_pos rfl]
      exact ⟨ts, F4, env3, As3, _, S4, fx, q4, fun w2 g2 F5 H5 env5 As5 S5 f5 h5 q5 => hr3 F5 H5 w' w2 g' g2 Q _ S5.sub ((h3.to g4.ff).to f5) h5 q5 (KN.ko' k S5 ((((f.trans g.ff).trans f3).trans g4.ff).trans f5))⟩
    · refine ⟨false, bl_of n4, ?_⟩
      rw [if_neg Bool.false_ne_true]
      exact k _ (.v (.bool false)) [] F4 H4 env3 As3 (S3.gr g4) (((f.trans g.ff).trans f3).trans g4.ff) (.v (.bl false)) q4
    · exact q4.elim
  · refine ⟨false, bl_of n, ?_⟩
    rw [if_neg Bool.false_ne_true]
    exact k _ (.v (.bool false)) [] F2 H2 env' As' (S'.gr g) (f.trans g.ff) (.v (.bl false)) q
  · exact q.elim
theorem l_chain3 {op op' op3 : CmpOp} {r r' r3 : R2} {rp rp' rp3 : PyData → PyData → (Sl → Prop) → Prop} (ho : OpR X (compareOp op) r) (hr : Op2 X.K r rp) (ho' : OpR X (compareOp op') r') (hr' : Op2 X.K r' rp') (ho3 : OpR X (compareOp op3) r3) (hr3 : Op2 X.K r3 rp3) (ha : PE X a (liftE X.K E pa)) (hb : PE X b (liftE X.K E pb)) (hc : PE X c (liftE X.K E pc)) (hd : PE X d (liftE X.K E pd))
    (hm : lastMarks [op, op', op3] [b, c, d] = false := by with_unfolding_all rfl) : PE X (.Compare a [op, op', op3] [b, c, d] pos) (liftO X.K E (pChain3 rp rp' rp3 pa pb pc pd)) := pe_w (pe_chain3 ho ho' ho3 ha hb hc hd hm) (le_chain3 hr hr' hr3)
theorem lt_chain3 {op op' op3 : CmpOp} {r r' r3 : R2} {rp rp' rp3 : PyData → PyData → (Sl → Prop) → Prop} (ho : OpR X (compareOp op) r) (hr : Op2 X.K r rp) (ho' : OpR X (compareOp op') r') (hr' : Op2 X.K r' rp') (ho3 : OpR X (compareOp op3) r3) (hr3 : Op2 X.K r3 rp3) (ha : PE X a (liftE X.K E pa)) (hb : PE X b (liftE X.K E pb)) (hc : PE X c (liftE X.K E pc)) (hd : PE X d (liftE X.K E pd))
    (hm : lastMarks [op, op', op3] [b, c, d] = false := by with_unfolding_all rfl) : PT X (.Compare a [op, op', op3] [b, c, d] pos) (liftT X.K E (pTst (pChain3 rp rp' rp3 pa pb pc pd))) := pt_w (pt_chain3 ho ho' ho3 ha hb hc hd hm) (le_tst (le_chain3 hr hr' hr3))
end

/-! ### 41. more data facts -/
theorem zipIdx_at {α : Type} {l : List α} {i : Nat} {p : α × Nat} (h : (l.zipIdx)[i]? = some p) : l[i]? = some p.1 ∧ p.2 = i := by
  rw [List.getElem?_zipIdx] at h
  obtain ⟨a, h1, rfl⟩ := Option.map_eq_some_iff.mp h
  exact ⟨h1, Nat.zero_add i⟩
theorem zip_at {α β : Type} {l : List α} {m : List β} {i : Nat} {p : α × β} (h : (l.zip m)[i]? = some p) : l[i]? = some p.1 ∧ m[i]? = some p.2 := by
  rw [List.getElem?_zip_eq_some] at h
  exact h
theorem enumD_at {α : Type} {f : α → PyData} {xs : List α} {i : Nat} {d : PyData} (h : (enumD 0 (xs.map f))[i]? = some d) : ∃ v, xs[i]? = some v ∧ d = .tuple [.int i, f v] := by
  rw [enumD_map] at h
  obtain ⟨⟨v, j⟩, hx, rfl⟩ := map_get h
  obtain ⟨hv, hj⟩ := zipIdx_at hx
  cases hj
  exact ⟨v, hv, rfl⟩
theorem zipD_at {α β : Type} {f : α → PyData} {g : β → PyData} {xs : List α} {ys : List β} {i : Nat} {d : PyData} (h : (zipD (xs.map f) (ys.map g))[i]? = some d) : ∃ v w, xs[i]? = some v ∧ ys[i]? = some w ∧ d = .tuple [f v, g w] := by
  rw [zipD_map] at h
  obtain ⟨⟨v, w⟩, hx, rfl⟩ := map_get h
  obtain ⟨h1, h2⟩ := zip_at hx
  exact ⟨v, w, h1, h2, rfl⟩
theorem enumD_len (n : Nat) (ds : List PyData) : (enumD n ds).length = ds.length := by rw [enumD_eq, List.length_map, List.length_zipIdx]
theorem zipD_len {α β : Type} (f : α → PyData) (g : β → PyData) (xs : List α) (ys : List β) : (zipD (xs.map f) (ys.map g)).length = min xs.length ys.length := by rw [zipD_map, List.length_map, List.length_zip]
theorem enumD_range (F : Nat → PyData) (m : Nat) : enumD 0 ((List.range m).map F) = (List.range m).map fun b => .tuple [.int b, F b] := by
  rw [enumD_map]
  refine List.ext_getElem? fun i => ?_
  rw [List.getElem?_map, List.getElem?_map, List.getElem?_zipIdx]
  by_cases h : i < m
  · rw [List.getElem?_range h]
    show some (PyData.tuple [.int ((0 + i : Nat) : Int), F i]) = _
    rw [Nat.zero_add]
    rfl
  · rw [List.getElem?_eq_none (by simp; omega)]
    rfl
theorem zipD_same {α : Type} (F G : α → PyData) : ∀ l : List α, zipD (l.map F) (l.map G) = l.map fun b => .tuple [F b, G b]
  | [] => rfl
  | x :: l => by rw [List.map_cons, List.map_cons, zipD, zipD_same F G l, List.map_cons]
theorem agD_star (a : List PyData) (gs : List Ag) : agD? (dsAg a ++ gs) = (agD? gs).map (a ++ ·) := by
  induction a with
  | nil =>
    show agD? gs = _
    cases agD? gs <;> rfl
  | cons x a ih =>
    show (agD? (dsAg a ++ gs)).map (x :: ·) = _
    rw [ih]
    cases agD? gs <;> rfl
theorem agD_star0 (a : List PyData) : agD? (dsAg a ++ []) = some (a ++ []) := by rw [agD_star]; rfl
theorem setK_le {α : Type} (ms : List (Key × α)) (k : Key) (c : α) : (setK ms k c).length ≤ ms.length + 1 := by
  unfold setK
  split
  · rw [List.length_map]
    omega
  · rw [List.length_append]
    exact Nat.le_refl _
theorem atI_last {α : Type} {xs : List α} {x : α} : atI (xs ++ [x]) (-1) = some x := by
  unfold atI ixN
  rw [List.length_append, List.length_singleton, if_neg (by omega), if_pos (by omega)]
  show (xs ++ [x])[((-1 : Int) + ((xs.length + 1 : Nat) : Int)).toNat]? = some x
  rw [show ((-1 : Int) + ((xs.length + 1 : Nat) : Int)).toNat = xs.length by omega, List.getElem?_append_right (Nat.le_refl _), Nat.sub_self]
  rfl
theorem showAll_bools (l : List Bool) : PyData.showableAll (l.map .bool) = true ∧ PyData.hasDictAll (l.map .bool) = false ∧ PyData.depthAll (l.map .bool) = 0 ∧ PyData.leavesShortAll 200 (l.map .bool) = true ∧ PyData.bulkAll (l.map .bool) = l.length := by
  induction l with
  | nil => exact ⟨rfl, rfl, rfl, rfl, rfl⟩
  | cons x l ih =>
    obtain ⟨h1, h2, h3, h4, h5⟩ := ih
    refine ⟨?_, ?_, ?_, ?_, ?_⟩
    · rw [List.map_cons, PyData.showableAll, h1, PyData.showable]; rfl
    · rw [List.map_cons, PyData.hasDictAll, h2, PyData.hasDict]; rfl
    · rw [List.map_cons, PyData.depthAll, h3, PyData.depth]; rfl
    · rw [List.map_cons, PyData.leavesShortAll, h4, PyData.leavesShort]; rfl
    · rw [List.map_cons, PyData.bulkAll, h5, PyData.bulk, List.length_cons]; omega
theorem repr_lb (l : List Bool) (hl : l.length ≤ 50000) : PyData.showable (.list (l.map .bool)) = true ∧ PyData.hasDict (.list (l.map .bool)) = false ∧ PyData.depth (.list (l.map .bool)) ≤ 60 ∧ (PyData.shown (.list (l.map .bool))).length ≤ sizeLine := by
  obtain ⟨h1, h2, h3, h4, h5⟩ := showAll_bools l
  refine ⟨by rw [PyData.showable]; exact h1, by rw [PyData.hasDict]; exact h2, by rw [PyData.depth, h3]; decide, ?_⟩
  have e := PyData.shown_le_bulk 200 (by decide) (.list (l.map .bool)) (by rw [PyData.leavesShort]; exact h4)
  rw [PyData.bulk, h5] at e
  rw [sizeLine_eq]
  omega
/-- repr of a list of lists of numbers -/
theorem repr_ll {l : List (List Int)} (h : ∀ x ∈ l, (∀ y ∈ x, y.natAbs < 2 ^ 120) ∧ x.length ≤ 200) (hl : l.length ≤ 200) : PyData.showable (.list (l.map fun x => .list (x.map .int))) = true ∧ PyData.hasDict (.list (l.map fun x => .list (x.map .int))) = false ∧ PyData.depth (.list (l.map fun x => .list (x.map .int))) ≤ 60 ∧ (PyData.shown (.list (l.map fun x => .list (x.map .int)))).length ≤ sizeLine := by
  have key : ∀ l : List (List Int), (∀ x ∈ l, (∀ y ∈ x, y.natAbs < 2 ^ 120) ∧ x.length ≤ 200) → PyData.showableAll (l.map fun x => .list (x.map .int)) = true ∧ PyData.hasDictAll (l.map fun x => .list (x.map .int)) = false ∧ PyData.depthAll (l.map fun x => .list (x.map .int)) ≤ 1 ∧ PyData.leavesShortAll 200 (l.map fun x => .list (x.map .int)) = true ∧ PyData.bulkAll (l.map fun x => .list (x.map .int)) ≤ 201 * l.length := by
    intro l
    induction l with
    | nil => intro _; exact ⟨rfl, rfl, by decide, rfl, Nat.le_refl _⟩
    | cons x l ih =>
      intro h
      obtain ⟨h1, h2, h3, h4, h5⟩ := ih fun y hy => h y (List.mem_cons_of_mem _ hy)
      obtain ⟨g1, g2⟩ := h x List.mem_cons_self
      obtain ⟨k1, k2, k3, k4, k5⟩ := showAll_ints g1
      refine ⟨?_, ?_, ?_, ?_, ?_⟩
      · rw [List.map_cons, PyData.showableAll, h1, PyData.showable, k1]; rfl
      · rw [List.map_cons, PyData.hasDictAll, h2, PyData.hasDict, k2]; rfl
      · rw [List.map_cons, PyData.depthAll, PyData.depth, k3]; omega
      · rw [List.map_cons, PyData.leavesShortAll, h4, PyData.leavesShort, k4]; rfl
      · rw [List.map_cons, PyData.bulkAll, PyData.bulk, k5, List.length_cons]; omega
  obtain ⟨h1, h2, h3, h4, h5⟩ := key l h
  refine ⟨by rw [PyData.showable]; exact h1, by rw [PyData.hasDict]; exact h2, by rw [PyData.depth]; omega, ?_⟩
  have e := PyData.shown_le_bulk 200 (by decide) (.list (l.map fun x => .list (x.map .int))) (by rw [PyData.leavesShort]; exact h4)
  rw [PyData.bulk] at e
  rw [sizeLine_eq]
  omega

/-! ### 42. what repr asks, piece by piece -/
structure RD (d : PyData) (k B : Nat) : Prop where
  sh : PyData.showable d = true
  hd : PyData.hasDict d = false
  dp : PyData.depth d ≤ k
  lv : PyData.leavesShort 200 d = true
  bk : PyData.bulk d ≤ B
structure RDA (ds : List PyData) (k B : Nat) : Prop where
  sh : PyData.showableAll ds = true
  hd : PyData.hasDictAll ds = false
  dp : PyData.depthAll ds ≤ k
  lv : PyData.leavesShortAll 200 ds = true
  bk : PyData.bulkAll ds ≤ B
theorem RD.mono {d : PyData} {k B k' B' : Nat} (h : RD d k B) (hk : k ≤ k') (hB : B ≤ B') : RD d k' B' := ⟨h.sh, h.hd, Nat.le_trans h.dp hk, h.lv, Nat.le_trans h.bk hB⟩
theorem RDA.nil {k B : Nat} : RDA [] k B := ⟨rfl, rfl, Nat.zero_le _, rfl, Nat.zero_le _⟩
theorem RDA.cons {d : PyData} {ds : List PyData} {k B C : Nat} (h : RD d k B) (r : RDA ds k C) : RDA (d :: ds) k (B + 1 + C) := by
  refine ⟨?_, ?_, ?_, ?_, ?_⟩
  · rw [PyData.showableAll, h.sh, r.sh]; rfl
  · rw [PyData.hasDictAll, h.hd, r.hd]; rfl
  · rw [PyData.depthAll]; exact Nat.max_le.mpr ⟨h.dp, r.dp⟩
  · rw [PyData.leavesShortAll, h.lv, r.lv]; rfl
  · rw [PyData.bulkAll]
    have := h.bk
    have := r.bk
    omega
theorem RDA.map {α : Type} {f : α → PyData} {k B : Nat} : ∀ {l : List α}, (∀ x ∈ l, RD (f x) k B) → RDA (l.map f) k (l.length * (B + 1))
  | [], _ => .nil
  | x :: l, h => by
    have z := RDA.cons (h x List.mem_cons_self) (RDA.map (l := l) fun y hy => h y (List.mem_cons_of_mem _ hy))
    refine ⟨z.sh, z.hd, z.dp, z.lv, Nat.le_trans z.bk ?_⟩
    rw [List.length_cons, Nat.add_mul]
    omega
theorem RD.list {ds : List PyData} {k B : Nat} (h : RDA ds k B) : RD (.list ds) (k + 1) B :=
  ⟨by rw [PyData.showable]; exact h.sh, by rw [PyData.hasDict]; exact h.hd, by rw [PyData.depth]; exact Nat.succ_le_succ h.dp, by rw [PyData.leavesShort]; exact h.lv, by rw [PyData.bulk]; exact h.bk⟩
theorem RD.tup {ds : List PyData} {k B : Nat} (h : RDA ds k B) : RD (.tuple ds) (k + 1) B :=
  ⟨by rw [PyData.showable]; exact h.sh, by rw [PyData.hasDict]; exact h.hd, by rw [PyData.depth]; exact Nat.succ_le_succ h.dp, by rw [PyData.leavesShort]; exact h.lv, by rw [PyData.bulk]; exact h.bk⟩
theorem RD.int {x : Int} {k B : Nat} (h : x.natAbs < 2 ^ 120) : RD (.int x) k B := by
  obtain ⟨h1, h2, h3, h4, h5⟩ := showAll_ints (l := [x]) fun y hy => by rw [List.mem_singleton.mp hy]; exact h
  rw [List.map_cons, List.map_nil] at h1 h2 h4
  refine ⟨?_, rfl, Nat.zero_le _, ?_, Nat.zero_le _⟩
  · rw [PyData.showableAll, Bool.and_eq_true] at h1
    exact h1.1
  · rw [PyData.leavesShortAll, Bool.and_eq_true] at h4
    exact h4.1
theorem RD.bool {x : Bool} {k B : Nat} : RD (.bool x) k B := ⟨rfl, rfl, Nat.zero_le _, rfl, Nat.zero_le _⟩
theorem RD.none {k B : Nat} : RD .none k B := ⟨rfl, rfl, Nat.zero_le _, rfl, Nat.zero_le _⟩
theorem RD.li {l : List Int} {k B : Nat} (h : ∀ x ∈ l, x.natAbs < 2 ^ 120) (hl : l.length ≤ B) : RD (.list (l.map .int)) (k + 1) B := by
  have z := RDA.map (f := PyData.int) (l := l) (k := k) (B := 0) fun x hx => RD.int (h x hx)
  exact (RD.list z).mono (Nat.le_refl _) (by omega)
theorem RD.fin {d : PyData} {k B : Nat} (h : RD d k B) (hk : k ≤ 60) (hB : B ≤ 80000) : PyData.showable d = true ∧ PyData.hasDict d = false ∧ PyData.depth d ≤ 60 ∧ (PyData.shown d).length ≤ sizeLine := by
  refine ⟨h.sh, h.hd, Nat.le_trans h.dp hk, ?_⟩
  have e := PyData.shown_le_bulk 200 (by decide) d h.lv
  have b := h.bk
  have m : (200 + 2) * d.bulk ≤ 202 * 80000 := Nat.mul_le_mul (by decide) (by omega)
  rw [sizeLine_eq]
  omega
end PL

/-! plain facts about rows, commands, scripts: counts of small values among the first places -/
namespace PL
open PySem PySem.W L2

/-! ### 43. commands and scripts as data -/
abbrev ct (c : Int × Int) : PyData := .tuple [.int c.1, .int c.2]
abbrev lc (cs : List (Int × Int)) : PyData := .list (cs.map ct)
theorem okd_lc (cs : List (Int × Int)) : okd (.list (cs.map ct)) = true := okd_datum (α := List (Int × Int)) (by decide) cs
theorem okd_ct (c : Int × Int) : okd (ct c) = true := okd_datum (α := Int × Int) (by decide) c
theorem eqv_ct (c d : Int × Int) : PyData.eqv (ct c) (ct d) = decide (c = d) := Datum.eqv c d
theorem eqv_lc_nil (cs : List (Int × Int)) : PyData.eqv (.list (cs.map ct)) (.list []) = decide (cs = []) := Datum.eqv cs []
theorem eqv_lc (cs ds : List (Int × Int)) : PyData.eqv (.list (cs.map ct)) (.list (ds.map ct)) = decide (cs = ds) := Datum.eqv cs ds
def Fit (n : Nat) (c : Int × Int) : Prop := 1 ≤ c.1 ∧ c.1 ≤ c.2 ∧ c.2 ≤ n
def stretch (row : List Int) (c : Int × Int) : List Int := row.take (c.1 - 1).toNat ++ sortI ((row.take c.2.toNat).drop (c.1 - 1).toNat) ++ row.drop c.2.toNat
def runs (row : List Int) (cs : List (Int × Int)) : List Int := cs.foldl stretch row
theorem cut_parts {c : Int × Int} (row : List Int) (h : 1 ≤ c.1 ∧ c.1 ≤ c.2) : row.take (c.1 - 1).toNat ++ (row.take c.2.toNat).drop (c.1 - 1).toNat ++ row.drop c.2.toNat = row := by
  have e1 : row.take (c.1 - 1).toNat = (row.take c.2.toNat).take (c.1 - 1).toNat := by rw [List.take_take, Nat.min_eq_left (by omega)]
  rw [e1, List.take_append_drop, List.take_append_drop]
theorem stretch_perm {row : List Int} {c : Int × Int} (h : 1 ≤ c.1 ∧ c.1 ≤ c.2) : (stretch row c).Perm row := by
  refine List.Perm.trans ?_ (List.Perm.of_eq (cut_parts row h))
  exact List.Perm.append_right _ (List.Perm.append_left _ (sortI_perm _))
theorem runs_perm {n : Nat} : ∀ {cs : List (Int × Int)} {row : List Int}, (∀ c ∈ cs, Fit n c) → (runs row cs).Perm row
  | [], _, _ => List.Perm.refl _
  | c :: cs, row, h => by
    have h1 := h c List.mem_cons_self
    exact (runs_perm (cs := cs) (row := stretch row c) fun x hx => h x (List.mem_cons_of_mem _ hx)).trans (stretch_perm ⟨h1.1, h1.2.1⟩)
theorem runs_nil (row : List Int) : runs row [] = row := rfl
theorem runs_cons (row : List Int) (c : Int × Int) (cs : List (Int × Int)) : runs row (c :: cs) = runs (stretch row c) cs := rfl
theorem runs_app (row : List Int) (a b : List (Int × Int)) : runs row (a ++ b) = runs (runs row a) b := List.foldl_append
theorem runs_one (row : List Int) (c : Int × Int) : runs row [c] = stretch row c := rfl
theorem runs_step {row : List Int} {cs : List (Int × Int)} {i : Nat} {c : Int × Int} (h : cs[i]? = some c) : stretch (runs row (cs.take i)) c = runs row (cs.take (i + 1)) := by
  rw [List.take_add_one, h, runs_app]
  rfl
theorem runs_len {n : Nat} {cs : List (Int × Int)} {row : List Int} (h : ∀ c ∈ cs, Fit n c) : (runs row cs).length = row.length := (runs_perm h).length_eq
theorem stretch_len {row : List Int} {c : Int × Int} (h : 1 ≤ c.1 ∧ c.1 ≤ c.2) : (stretch row c).length = row.length := (stretch_perm h).length_eq
theorem fit_take {n : Nat} {cs : List (Int × Int)} (h : ∀ c ∈ cs, Fit n c) (i : Nat) : ∀ c ∈ cs.take i, Fit n c := fun c hc => h c (List.mem_of_mem_take hc)
theorem fit_drop {n : Nat} {cs : List (Int × Int)} (h : ∀ c ∈ cs, Fit n c) (i : Nat) : ∀ c ∈ cs.drop i, Fit n c := fun c hc => h c (List.mem_of_mem_drop hc)
theorem fit_app {n : Nat} {as bs : List (Int × Int)} (h : ∀ c ∈ as, Fit n c) (h2 : ∀ c ∈ bs, Fit n c) : ∀ c ∈ as ++ bs, Fit n c := fun c hc => (List.mem_append.mp hc).elim (h c) (h2 c)
theorem fit_nil {n : Nat} : ∀ c ∈ ([] : List (Int × Int)), Fit n c := fun c hc => by cases hc
theorem fit_cons {n : Nat} {c : Int × Int} {cs : List (Int × Int)} (h : Fit n c) (h2 : ∀ c ∈ cs, Fit n c) : ∀ d ∈ c :: cs, Fit n d := fun d hd => (List.mem_cons.mp hd).elim (fun e => e ▸ h) (h2 d)
theorem fit_one {n : Nat} {c : Int × Int} (h : Fit n c) : ∀ d ∈ [c], Fit n d := fit_cons h fit_nil

/-! ### 44. the whole numbers from 1 on -/
def deck (wd : Nat) : List Int := (List.range wd).map fun i : Nat => (i : Int) + 1
theorem deck_mem {n : Nat} {v : Int} : v ∈ deck n ↔ 1 ≤ v ∧ v ≤ n := by
  simp only [deck, List.mem_map, List.mem_range]
  constructor
  · rintro ⟨i, h, rfl⟩
    omega
  · rintro ⟨h1, h2⟩
    exact ⟨(v - 1).toNat, by omega, by omega⟩
theorem deck_len (n : Nat) : (deck n).length = n := by simp [deck]
theorem deck_get {n i : Nat} (h : i < n) : (deck n)[i]? = some ((i : Int) + 1) := by
  unfold deck
  rw [List.getElem?_map, List.getElem?_range h]
  rfl
theorem deck_nodup (wd : Nat) : (deck wd).Nodup := by
  unfold deck
  rw [List.nodup_iff_pairwise_ne, List.pairwise_map]
  exact List.Pairwise.imp (fun h e => h (by omega)) List.nodup_range
theorem deck_sorted (n : Nat) : (deck n).Pairwise (· ≤ ·) := by
  unfold deck
  rw [List.pairwise_map]
  exact List.Pairwise.imp (fun h => by omega) List.pairwise_lt_range
/-- an arrangement of n -/
abbrev Arr (n : Nat) (p : List Int) : Prop := p.Perm (deck n)
theorem Arr.len {n : Nat} {p : List Int} (h : Arr n p) : p.length = n := by rw [h.length_eq, deck_len]
theorem Arr.mem {n : Nat} {p : List Int} (h : Arr n p) {v : Int} : v ∈ p ↔ 1 ≤ v ∧ v ≤ n := by rw [h.mem_iff, deck_mem]
theorem Arr.nodup {n : Nat} {p : List Int} (h : Arr n p) : p.Nodup := h.nodup_iff.mpr (deck_nodup n)
/-- numbers that are not great -/
def Small (p : List Int) : Prop := ∀ x ∈ p, x.natAbs < 2 ^ 120
theorem Small.perm {p q : List Int} (h : Small p) (e : q.Perm p) : Small q := fun x hx => h x (e.mem_iff.mp hx)
theorem deck_small {wd : Nat} (hw : wd ≤ 1000) {p : List Int} (h : p.Perm (deck wd)) : Small p := fun x hx => by
  have := (Arr.mem h).mp hx
  omega
/-- the falling row -/
def falls (n : Nat) : List Int := (deck n).reverse
theorem falls_perm (n : Nat) : (falls n).Perm (deck n) := List.reverse_perm _
theorem falls_len (n : Nat) : (falls n).length = n := by rw [(falls_perm n).length_eq, deck_len]
theorem down_falls (n : Nat) : rangeD (n : Int) (-1) ((n : Int) - 0).toNat = (falls n).map PyData.int := by
  rw [rangeD_map, show ((n : Int) - 0).toNat = n by omega]
  congr 1
  unfold falls deck
  refine List.ext_getElem (by simp) fun i h1 h2 => ?_
  simp only [List.length_map, List.length_range] at h1
  rw [List.getElem_map, List.getElem_range, List.getElem_reverse, List.getElem_map, List.getElem_range]
  simp only [List.length_map, List.length_range]
  omega
theorem up_deck (n : Nat) : rangeD 1 1 ((n : Int) + 1 - 1).toNat = (deck n).map PyData.int := by
  rw [rangeD_map, show ((n : Int) + 1 - 1).toNat = n by omega]
  congr 1
  unfold deck
  exact List.map_congr_left fun i _ => by omega
theorem perm_erase {α : Type} {xs : List α} {i : Nat} (h : i < xs.length) : ([xs[i]] ++ xs.eraseIdx i).Perm xs := by
  rw [List.eraseIdx_eq_take_drop_succ]
  have e : xs = xs.take i ++ (xs[i] :: xs.drop (i + 1)) := by
    rw [← List.drop_eq_getElem_cons h, List.take_append_drop]
  refine List.Perm.trans ?_ (List.Perm.of_eq e.symm)
  show (xs[i] :: (xs.take i ++ xs.drop (i + 1))).Perm _
  exact List.perm_middle.symm

/-! ### 45. how many are at most v among the first p -/
def cntv (l : List Int) (v : Int) : Nat := l.countP fun x => decide (x ≤ v)
def zc (row : List Int) (v : Int) (p : Nat) : Nat := cntv (row.take p) v
theorem cntv_nil (v : Int) : cntv [] v = 0 := rfl
theorem cntv_cons (x : Int) (l : List Int) (v : Int) : cntv (x :: l) v = cntv l v + (if x ≤ v then 1 else 0) := by
  unfold cntv
  rw [List.countP_cons]
  simp
theorem cntv_app (a b : List Int) (v : Int) : cntv (a ++ b) v = cntv a v + cntv b v := List.countP_append
theorem cntv_perm {a b : List Int} (h : a.Perm b) (v : Int) : cntv a v = cntv b v := h.countP_eq _
theorem cntv_le (l : List Int) (v : Int) : cntv l v ≤ l.length := List.countP_le_length
theorem cntv_mono (l : List Int) {v w : Int} (h : v ≤ w) : cntv l v ≤ cntv l w := by
  unfold cntv
  exact List.countP_mono_left fun x _ hx => decide_eq_true (Int.le_trans (of_decide_eq_true hx) h)
theorem zc_0 (row : List Int) (v : Int) : zc row v 0 = 0 := by unfold zc; rw [List.take_zero]; rfl
theorem zc_succ {row : List Int} {p : Nat} {x : Int} (v : Int) (h : row[p]? = some x) : zc row v (p + 1) = zc row v p + (if x ≤ v then 1 else 0) := by
  unfold zc
  rw [List.take_add_one, h, cntv_app]
  show _ + cntv [x] v = _
  rw [cntv_cons, cntv_nil]
  omega
theorem zc_all {row : List Int} {p : Nat} (v : Int) (h : row.length ≤ p) : zc row v p = cntv row v := by unfold zc; rw [List.take_of_length_le h]
theorem zc_one (row : List Int) (v : Int) (p : Nat) : zc row v p ≤ zc row v (p + 1) ∧ zc row v (p + 1) ≤ zc row v p + 1 := by
  by_cases h : p < row.length
  · rw [zc_succ v (List.getElem?_eq_getElem h)]
    split <;> omega
  · rw [zc_all v (show row.length ≤ p by omega), zc_all v (show row.length ≤ p + 1 by omega)]
    omega
/-- counts that grow by at most one -/
structure Zf (z : Nat → Nat) : Prop where
  z0 : z 0 = 0
  st : ∀ p, z p ≤ z (p + 1) ∧ z (p + 1) ≤ z p + 1
theorem Zf.to {z : Nat → Nat} (h : Zf z) {p q : Nat} (e : p ≤ q) : z p ≤ z q ∧ z q ≤ z p + (q - p) := by
  obtain ⟨k, rfl⟩ : ∃ k, q = p + k := ⟨q - p, by omega⟩
  clear e
  induction k with
  | zero => exact ⟨Nat.le_refl _, Nat.le_add_right _ _⟩
  | succ k ih =>
    have := h.st (p + k)
    rw [show p + (k + 1) = p + k + 1 by omega]
    omega
theorem Zf.le {z : Nat → Nat} (h : Zf z) (p : Nat) : z p ≤ p := by
  have := h.to (Nat.zero_le p)
  rw [h.z0] at this
  omega
theorem zc_zf (row : List Int) (v : Int) : Zf (zc row v) := ⟨zc_0 row v, zc_one row v⟩
theorem zc_ext {a b : List Int} (hl : a.length = b.length) (h : ∀ v p, p ≤ a.length → zc a v p = zc b v p) : a = b := by
  refine List.ext_getElem hl fun i h1 h2 => ?_
  have k : ∀ v, (a[i] ≤ v ↔ b[i] ≤ v) := fun v => by
    have e1 := zc_succ v (List.getElem?_eq_getElem h1)
    have e2 := zc_succ v (List.getElem?_eq_getElem h2)
    have q1 := h v i (by omega)
    have q2 := h v (i + 1) (by omega)
    constructor
    · intro z
      rw [if_pos z] at e1
      by_cases y : b[i] ≤ v
      · exact y
      · rw [if_neg y] at e2; omega
    · intro z
      rw [if_pos z] at e2
      by_cases y : a[i] ≤ v
      · exact y
      · rw [if_neg y] at e1; omega
  have := (k b[i]).mpr (Int.le_refl _)
  have := (k a[i]).mp (Int.le_refl _)
  omega
theorem take_sorted {s : List Int} (v : Int) (h : s.Pairwise (· ≤ ·)) : ∀ p, zc s v p = min p (cntv s v) := by
  induction s with
  | nil => intro p; unfold zc; rw [List.take_nil, cntv_nil]; omega
  | cons x s ih =>
    intro p
    obtain ⟨h1, h2⟩ := List.pairwise_cons.mp h
    cases p with
    | zero => rw [zc_0]; omega
    | succ p =>
      unfold zc at ih ⊢
      rw [List.take_succ_cons, cntv_cons, cntv_cons, ih h2]
      by_cases e : x ≤ v
      · rw [if_pos e]; omega
      · rw [if_neg e]
        have z : cntv s v = 0 := by
          unfold cntv
          rw [List.countP_eq_zero]
          intro y hy
          have := h1 y hy
          simp
          omega
        omega
theorem take_falling {s : List Int} (v : Int) (h : s.Pairwise (· ≥ ·)) : ∀ p, p ≤ s.length → zc s v p = p - (s.length - cntv s v) := by
  induction s with
  | nil => intro p hp; unfold zc; rw [List.take_nil, cntv_nil]; simp at hp; omega
  | cons x s ih =>
    intro p hp
    obtain ⟨h1, h2⟩ := List.pairwise_cons.mp h
    cases p with
    | zero => rw [zc_0]; omega
    | succ p =>
      rw [List.length_cons] at hp ⊢
      have := cntv_le s v
      unfold zc at ih ⊢
      rw [List.take_succ_cons, cntv_cons, cntv_cons, ih h2 p (by omega)]
      by_cases e : x ≤ v
      · rw [if_pos e]
        have z : cntv s v = s.length := by
          unfold cntv
          rw [List.countP_eq_length]
          intro y hy
          have := h1 y hy
          simp
          omega
        omega
      · rw [if_neg e]; omega

/-! ### 46. commands on counts -/
/-- what sorting the places a+1 .. b does to counts -/
def cz (a b : Nat) (z : Nat → Nat) : Nat → Nat := fun p => if p ≤ a ∨ b ≤ p then z p else min (z b) (z a + (p - a))
/-- what sorting them falling does -/
def lz (a b : Nat) (z : Nat → Nat) : Nat → Nat := fun p => if p ≤ a ∨ b ≤ p then z p else max (z a) (z b - (b - p))
def lo (c : Int × Int) : Nat := (c.1 - 1).toNat
def hi (c : Int × Int) : Nat := c.2.toNat
theorem Fit.le {n : Nat} {c : Int × Int} (h : Fit n c) : lo c < hi c ∧ hi c ≤ n := by
  obtain ⟨h1, h2, h3⟩ := h
  unfold lo hi
  omega
theorem cz_in {a b p : Nat} {z : Nat → Nat} (h : Zf z) (h1 : a ≤ p) (h2 : p ≤ b) : cz a b z p = min (z b) (z a + (p - a)) := by
  unfold cz
  split
  · rename_i e
    rcases e with e | e
    · have e : p = a := by omega
      subst e
      have := h.to h2
      omega
    · have e : p = b := by omega
      subst e
      have := h.to h1
      omega
  · rfl
theorem cz_out {a b p : Nat} {z : Nat → Nat} (h1 : p ≤ a ∨ b ≤ p) : cz a b z p = z p := if_pos h1
theorem lz_out {a b p : Nat} {z : Nat → Nat} (h1 : p ≤ a ∨ b ≤ p) : lz a b z p = z p := if_pos h1
theorem lz_in {a b p : Nat} {z : Nat → Nat} (h : Zf z) (h1 : a ≤ p) (h2 : p ≤ b) : lz a b z p = max (z a) (z b - (b - p)) := by
  unfold lz
  split
  · rename_i e
    rcases e with e | e
    · have e : p = a := by omega
      subst e
      have := h.to h2
      omega
    · have e : p = b := by omega
      subst e
      have := h.to h1
      omega
  · rfl
theorem cz_zf {a b : Nat} {z : Nat → Nat} (hab : a ≤ b) (h : Zf z) : Zf (cz a b z) := by
  refine ⟨by rw [cz_out (.inl (Nat.zero_le _))]; exact h.z0, fun p => ?_⟩
  by_cases h1 : p < a
  · rw [cz_out (.inl (by omega)), cz_out (.inl (by omega))]; exact h.st p
  · by_cases h2 : b ≤ p
    · rw [cz_out (.inr (by omega)), cz_out (.inr (by omega))]; exact h.st p
    · rw [cz_in h (by omega) (by omega), cz_in h (by omega) (by omega)]; omega
theorem lz_zf {a b : Nat} {z : Nat → Nat} (hab : a ≤ b) (h : Zf z) : Zf (lz a b z) := by
  refine ⟨by rw [lz_out (.inl (Nat.zero_le _))]; exact h.z0, fun p => ?_⟩
  by_cases h1 : p < a
  · rw [lz_out (.inl (by omega)), lz_out (.inl (by omega))]; exact h.st p
  · by_cases h2 : b ≤ p
    · rw [lz_out (.inr (by omega)), lz_out (.inr (by omega))]; exact h.st p
    · rw [lz_in h (by omega) (by omega), lz_in h (by omega) (by omega)]; omega
theorem cz_mono {a b : Nat} {z w : Nat → Nat} (h : ∀ p, z p ≤ w p) (p : Nat) : cz a b z p ≤ cz a b w p := by
  unfold cz
  split
  · exact h p
  · have := h a
    have := h b
    omega
theorem cz_ge {a b : Nat} {z : Nat → Nat} (h : Zf z) (p : Nat) : z p ≤ cz a b z p := by
  unfold cz
  split
  · exact Nat.le_refl _
  · have := h.to (show a ≤ p by omega)
    have := h.to (show p ≤ b by omega)
    omega
theorem cz_idem {a b : Nat} {z : Nat → Nat} (hab : a ≤ b) (h : Zf z) (p : Nat) : cz a b (cz a b z) p = cz a b z p := by
  by_cases h1 : p ≤ a ∨ b ≤ p
  · rw [cz_out h1]
  · rw [cz_in (cz_zf hab h) (by omega) (by omega), cz_out (.inl (Nat.le_refl a)), cz_out (p := b) (.inr (Nat.le_refl b)), cz_in h (by omega) (by omega)]
theorem lz_mono {a b : Nat} {z w : Nat → Nat} (h : ∀ p, z p ≤ w p) (p : Nat) : lz a b z p ≤ lz a b w p := by
  unfold lz
  split
  · exact h p
  · have := h a
    have := h b
    omega
theorem lz_le {a b : Nat} {z : Nat → Nat} (h : Zf z) (p : Nat) : lz a b z p ≤ z p := by
  unfold lz
  split
  · exact Nat.le_refl _
  · have := h.to (show a ≤ p by omega)
    have := h.to (show p ≤ b by omega)
    omega
/-- sorting and sorting falling belong together -/
theorem cz_lz {a b : Nat} {z w : Nat → Nat} (hab : a ≤ b) (hz : Zf z) (hw : Zf w) : (∀ p, w p ≤ cz a b z p) ↔ (∀ p, lz a b w p ≤ z p) := by
  constructor
  · intro h p
    by_cases h1 : p ≤ a ∨ b ≤ p
    · rw [lz_out h1]
      have := h p
      rwa [cz_out h1] at this
    · rw [lz_in hw (by omega) (by omega)]
      have ha := h a
      rw [cz_out (.inl (Nat.le_refl a))] at ha
      have hb := h b
      rw [cz_out (.inr (Nat.le_refl b))] at hb
      have := hz.to (show a ≤ p by omega)
      have := hz.to (show p ≤ b by omega)
      omega
  · intro h p
    by_cases h1 : p ≤ a ∨ b ≤ p
    · rw [cz_out h1]
      have := h p
      rwa [lz_out h1] at this
    · rw [cz_in hz (by omega) (by omega)]
      have ha := h a
      rw [lz_out (.inl (Nat.le_refl a))] at ha
      have hb := h b
      rw [lz_out (.inr (Nat.le_refl b))] at hb
      have := hw.to (show a ≤ p by omega)
      have := hw.to (show p ≤ b by omega)
      omega
/-- a row with its places a+1 .. b put in order otherwise -/
theorem zc_mid {row s : List Int} {a b : Nat} (hab : a ≤ b) (hb : b ≤ row.length) (hs : s.Perm ((row.take b).drop a)) (v : Int) (p : Nat) :
    zc (row.take a ++ s ++ row.drop b) v p = if p ≤ a ∨ b ≤ p then zc row v p else zc row v a + zc s v (p - a) := by
  have ls : s.length = b - a := by rw [hs.length_eq, List.length_drop, List.length_take]; omega
  have la : (row.take a).length = a := by rw [List.length_take]; omega
  have e0 : row.take a ++ (row.take b).drop a = row.take b := by
    have : row.take a = (row.take b).take a := by rw [List.take_take, Nat.min_eq_left hab]
    rw [this, List.take_append_drop]
  unfold zc
  split
  · rename_i h
    rcases h with h | h
    · rw [List.append_assoc, List.take_append_of_le_length (by omega), List.take_take, Nat.min_eq_left h]
    · have lab : (row.take a ++ s).length = b := by rw [List.length_append, la, ls]; omega
      rw [List.take_append, lab, cntv_app, List.take_of_length_le (by omega), cntv_app, cntv_perm hs, ← cntv_app, e0]
      have e1 : row.take p = row.take b ++ (row.drop b).take (p - b) := by
        have : p = b + (p - b) := by omega
        rw [this, List.take_add, show b + (p - b) - b = p - b by omega]
      rw [e1, cntv_app]
  · rename_i h
    rw [List.take_append_of_le_length (by rw [List.length_append, la, ls]; omega), List.take_append, la, cntv_app, List.take_of_length_le (by omega)]
theorem mid_cnt {row : List Int} {a b : Nat} (hab : a ≤ b) (v : Int) : cntv ((row.take b).drop a) v = zc row v b - zc row v a := by
  have e0 : row.take a ++ (row.take b).drop a = row.take b := by
    have : row.take a = (row.take b).take a := by rw [List.take_take, Nat.min_eq_left hab]
    rw [this, List.take_append_drop]
  have e1 := congrArg (fun l => cntv l v) e0
  simp only [cntv_app] at e1
  unfold zc
  omega
theorem zc_stretch {row : List Int} {c : Int × Int} {n : Nat} (h : Fit n c) (hl : row.length = n) (v : Int) (p : Nat) : zc (stretch row c) v p = cz (lo c) (hi c) (zc row v) p := by
  have hh := h.le
  have := zc_mid (row := row) (a := lo c) (b := hi c) (s := sortI ((row.take (hi c)).drop (lo c))) (by omega) (by omega) (sortI_perm _) v p
  unfold stretch
  refine this.trans ?_
  unfold cz
  split
  · rfl
  · rename_i e
    rw [take_sorted v (sortI_sorted _), cntv_perm (sortI_perm _), mid_cnt (by omega)]
    have := (zc_zf row v).to (show lo c ≤ hi c by omega)
    omega
/-- the stretch sorted falling -/
def lift1 (row : List Int) (c : Int × Int) : List Int := row.take (c.1 - 1).toNat ++ (sortI ((row.take c.2.toNat).drop (c.1 - 1).toNat)).reverse ++ row.drop c.2.toNat
def lifts (row : List Int) (cs : List (Int × Int)) : List Int := cs.reverse.foldl lift1 row
theorem lift1_perm {row : List Int} {c : Int × Int} (h : 1 ≤ c.1 ∧ c.1 ≤ c.2) : (lift1 row c).Perm row := by
  refine List.Perm.trans ?_ (List.Perm.of_eq (cut_parts row h))
  exact List.Perm.append_right _ (List.Perm.append_left _ ((List.reverse_perm _).trans (sortI_perm _)))
theorem lift1_len {row : List Int} {c : Int × Int} (h : 1 ≤ c.1 ∧ c.1 ≤ c.2) : (lift1 row c).length = row.length := (lift1_perm h).length_eq
theorem zc_lift1 {row : List Int} {c : Int × Int} {n : Nat} (h : Fit n c) (hl : row.length = n) (v : Int) (p : Nat) : zc (lift1 row c) v p = lz (lo c) (hi c) (zc row v) p := by
  have hh := h.le
  have := zc_mid (row := row) (a := lo c) (b := hi c) (s := (sortI ((row.take (hi c)).drop (lo c))).reverse) (by omega) (by omega) ((List.reverse_perm _).trans (sortI_perm _)) v p
  unfold lift1
  refine this.trans ?_
  unfold lz
  split
  · rfl
  · rename_i e
    have ls : ((sortI ((row.take (hi c)).drop (lo c))).reverse).length = hi c - lo c := by rw [List.length_reverse, (sortI_perm _).length_eq, List.length_drop, List.length_take]; omega
    have sd : ((sortI ((row.take (hi c)).drop (lo c))).reverse).Pairwise (· ≥ ·) := List.pairwise_reverse.mpr ((sortI_sorted _).imp fun h => h)
    rw [take_falling v sd _ (by omega), ls, cntv_perm ((List.reverse_perm _).trans (sortI_perm _)), mid_cnt (by omega)]
    have := (zc_zf row v).to (show lo c ≤ hi c by omega)
    omega
end PL

namespace PL
open PySem PySem.W L2

/-! ### 47. scripts on counts -/
def czs (cs : List (Int × Int)) (z : Nat → Nat) : Nat → Nat := cs.foldl (fun z c => cz (lo c) (hi c) z) z
def lzs (cs : List (Int × Int)) (z : Nat → Nat) : Nat → Nat := cs.reverse.foldl (fun z c => lz (lo c) (hi c) z) z
theorem czs_cons (c : Int × Int) (cs : List (Int × Int)) (z : Nat → Nat) : czs (c :: cs) z = czs cs (cz (lo c) (hi c) z) := rfl
theorem czs_app (a b : List (Int × Int)) (z : Nat → Nat) : czs (a ++ b) z = czs b (czs a z) := List.foldl_append
theorem lzs_cons (c : Int × Int) (cs : List (Int × Int)) (z : Nat → Nat) : lzs (c :: cs) z = lz (lo c) (hi c) (lzs cs z) := by
  unfold lzs
  rw [List.reverse_cons, List.foldl_append]
  rfl
theorem lifts_cons (c : Int × Int) (cs : List (Int × Int)) (row : List Int) : lifts row (c :: cs) = lift1 (lifts row cs) c := by
  unfold lifts
  rw [List.reverse_cons, List.foldl_append]
  rfl
theorem lifts_nil (row : List Int) : lifts row [] = row := rfl
section
variable {n : Nat} {cs : List (Int × Int)}
theorem czs_zf : ∀ {cs : List (Int × Int)} {z : Nat → Nat}, (∀ c ∈ cs, Fit n c) → Zf z → Zf (czs cs z)
  | [], _, _, h => h
  | c :: cs, z, h, hz => by
    rw [czs_cons]
    exact czs_zf (fun x hx => h x (List.mem_cons_of_mem _ hx)) (cz_zf (Nat.le_of_lt (h c List.mem_cons_self).le.1) hz)
theorem lzs_zf : ∀ {cs : List (Int × Int)} {z : Nat → Nat}, (∀ c ∈ cs, Fit n c) → Zf z → Zf (lzs cs z)
  | [], _, _, h => h
  | c :: cs, z, h, hz => by
    rw [lzs_cons]
    exact lz_zf (Nat.le_of_lt (h c List.mem_cons_self).le.1) (lzs_zf (fun x hx => h x (List.mem_cons_of_mem _ hx)) hz)
theorem zc_runs : ∀ {cs : List (Int × Int)} {row : List Int}, (∀ c ∈ cs, Fit n c) → row.length = n → ∀ v, zc (runs row cs) v = czs cs (zc row v)
  | [], _, _, _, _ => rfl
  | c :: cs, row, h, hl, v => by
    have hc := h c List.mem_cons_self
    rw [runs_cons, czs_cons, zc_runs (cs := cs) (row := stretch row c) (fun x hx => h x (List.mem_cons_of_mem _ hx)) (by rw [stretch_len ⟨hc.1, hc.2.1⟩]; exact hl) v]
    congr 1
    funext p
    exact zc_stretch hc hl v p
theorem lifts_perm : ∀ {cs : List (Int × Int)} {row : List Int}, (∀ c ∈ cs, Fit n c) → (lifts row cs).Perm row
  | [], _, _ => List.Perm.refl _
  | c :: cs, row, h => by
    have hc := h c List.mem_cons_self
    rw [lifts_cons]
    exact (lift1_perm ⟨hc.1, hc.2.1⟩).trans (lifts_perm fun x hx => h x (List.mem_cons_of_mem _ hx))
theorem lifts_len {row : List Int} (h : ∀ c ∈ cs, Fit n c) : (lifts row cs).length = row.length := (lifts_perm h).length_eq
theorem zc_lifts : ∀ {cs : List (Int × Int)} {row : List Int}, (∀ c ∈ cs, Fit n c) → row.length = n → ∀ v, zc (lifts row cs) v = lzs cs (zc row v)
  | [], _, _, _, _ => rfl
  | c :: cs, row, h, hl, v => by
    have hc := h c List.mem_cons_self
    have h' : ∀ x ∈ cs, Fit n x := fun x hx => h x (List.mem_cons_of_mem _ hx)
    rw [lifts_cons, lzs_cons, ← zc_lifts h' hl v]
    funext p
    exact zc_lift1 hc ((lifts_len h').trans hl) v p
theorem czs_mono : ∀ {cs : List (Int × Int)} {z w : Nat → Nat}, (∀ p, z p ≤ w p) → ∀ p, czs cs z p ≤ czs cs w p
  | [], _, _, h, p => h p
  | c :: cs, z, w, h, p => by
    rw [czs_cons, czs_cons]
    exact czs_mono (fun q => cz_mono h q) p
theorem czs_ge : ∀ {cs : List (Int × Int)} {z : Nat → Nat}, (∀ c ∈ cs, Fit n c) → Zf z → ∀ p, z p ≤ czs cs z p
  | [], _, _, _, _ => Nat.le_refl _
  | c :: cs, z, h, hz, p => by
    rw [czs_cons]
    have z1 := cz_zf (Nat.le_of_lt (h c List.mem_cons_self).le.1) hz
    exact Nat.le_trans (cz_ge hz p) (czs_ge (fun x hx => h x (List.mem_cons_of_mem _ hx)) z1 p)
theorem czs_congr : ∀ {cs : List (Int × Int)} {z w : Nat → Nat}, (∀ c ∈ cs, Fit n c) → (∀ p, p ≤ n → z p = w p) → ∀ p, p ≤ n → czs cs z p = czs cs w p
  | [], _, _, _, e, p, hp => e p hp
  | c :: cs, z, w, h, e, p, hp => by
    rw [czs_cons, czs_cons]
    have hc := (h c List.mem_cons_self).le
    refine czs_congr (fun x hx => h x (List.mem_cons_of_mem _ hx)) (fun q hq => ?_) p hp
    unfold cz
    rw [e q hq, e _ hc.2, e (lo c) (by omega)]
/-- forward and backward -/
theorem czs_lzs : ∀ {cs : List (Int × Int)} {z w : Nat → Nat}, (∀ c ∈ cs, Fit n c) → Zf z → Zf w → ((∀ p, w p ≤ czs cs z p) ↔ (∀ p, lzs cs w p ≤ z p))
  | [], _, _, _, _, _ => Iff.rfl
  | c :: cs, z, w, h, hz, hw => by
    have hc := Nat.le_of_lt (h c List.mem_cons_self).le.1
    have h' : ∀ x ∈ cs, Fit n x := fun x hx => h x (List.mem_cons_of_mem _ hx)
    rw [czs_cons, lzs_cons, czs_lzs h' (cz_zf hc hz) hw]
    exact cz_lz hc hz (lzs_zf h' hw)

/-! a least sum -/
def Mp' (n : Nat) (z y : Nat → Nat) (Y : Nat → Nat → Nat) : Prop := ∀ p, p ≤ n → (∀ t, t ≤ n → y p ≤ z t + Y t p) ∧ ∃ t, t ≤ n ∧ y p = z t + Y t p
def et (t p : Nat) : Nat := p - t
theorem et_zf (t : Nat) : Zf (et t) := ⟨by unfold et; omega, fun p => by unfold et; omega⟩
theorem mp_start {z : Nat → Nat} (hz : Zf z) : Mp' n z z et := fun p hp => by
  refine ⟨fun t _ => ?_, p, hp, by unfold et; omega⟩
  unfold et
  by_cases h : t ≤ p
  · exact (hz.to h).2
  · have := (hz.to (show p ≤ t by omega)).1
    omega
theorem mp_step {z y : Nat → Nat} {Y : Nat → Nat → Nat} {a b : Nat} (hab : a ≤ b) (hb : b ≤ n) (hy : Zf y) (hY : ∀ t, Zf (Y t)) (m : Mp' n z y Y) : Mp' n z (cz a b y) fun t => cz a b (Y t) := fun p hp => by
  by_cases h : p ≤ a ∨ b ≤ p
  · have := m p hp
    simp only [cz_out h]
    exact this
  · have h1 : a ≤ p := by omega
    have h2 : p ≤ b := by omega
    obtain ⟨ma, ta, hta, ea⟩ := m a (by omega)
    obtain ⟨mb, tb, htb, eb⟩ := m b hb
    have up : ∀ t, t ≤ n → cz a b y p ≤ z t + cz a b (Y t) p := fun t ht => by
      rw [cz_in hy h1 h2, cz_in (hY t) h1 h2]
      have := ma t ht
      have := mb t ht
      omega
    refine ⟨up, ?_⟩
    by_cases q : y b ≤ y a + (p - a)
    · refine ⟨tb, htb, ?_⟩
      show _ = z tb + cz a b (Y tb) p
      have := up tb htb
      rw [cz_in hy h1 h2, cz_in (hY tb) h1 h2] at *
      omega
    · refine ⟨ta, hta, ?_⟩
      show _ = z ta + cz a b (Y ta) p
      have := up ta hta
      rw [cz_in hy h1 h2, cz_in (hY ta) h1 h2] at *
      omega
theorem mp_all {z : Nat → Nat} : ∀ {cs : List (Int × Int)} {y : Nat → Nat} {Y : Nat → Nat → Nat}, (∀ c ∈ cs, Fit n c) → Zf y → (∀ t, Zf (Y t)) → Mp' n z y Y → Mp' n z (czs cs y) fun t => czs cs (Y t)
  | [], _, _, _, _, _, m => m
  | c :: cs, y, Y, h, hy, hY, m => by
    have hc := (h c List.mem_cons_self).le
    simp only [czs_cons]
    exact mp_all (fun x hx => h x (List.mem_cons_of_mem _ hx)) (cz_zf (by omega) hy) (fun t => cz_zf (by omega) (hY t)) (mp_step (by omega) hc.2 hy hY m)
theorem czs_mp {z : Nat → Nat} (h : ∀ c ∈ cs, Fit n c) (hz : Zf z) : Mp' n z (czs cs z) fun t => czs cs (et t) := mp_all h hz et_zf (mp_start hz)

/-! the falling row -/
theorem cntv_deck (n v : Nat) : cntv (deck n) v = min v n := by
  induction n with
  | zero => show cntv [] _ = _; rw [cntv_nil]; omega
  | succ n ih =>
    have : deck (n + 1) = deck n ++ [(n : Int) + 1] := by unfold deck; rw [List.range_succ, List.map_append]; rfl
    rw [this, cntv_app, ih, cntv_cons, cntv_nil]
    split <;> omega
theorem cntv_deck_neg {n : Nat} {v : Int} (h : v ≤ 0) : cntv (deck n) v = 0 := by
  have := cntv_mono (deck n) h
  have e := cntv_deck n 0
  have e2 : ((0 : Nat) : Int) = 0 := rfl
  rw [e2] at e
  omega
theorem cntv_arr {p : List Int} (h : Arr n p) (v : Nat) : cntv p v = min v n := by rw [cntv_perm h, cntv_deck]
theorem falls_sorted (n : Nat) : (falls n).Pairwise (· ≥ ·) := List.pairwise_reverse.mpr ((deck_sorted n).imp fun h => h)
theorem zc_falls {t p : Nat} (ht : t ≤ n) (hp : p ≤ n) : zc (falls n) ((n - t : Nat) : Int) p = et t p := by
  rw [take_falling _ (falls_sorted n) p (by rw [falls_len]; exact hp), falls_len, cntv_perm (falls_perm n), cntv_deck]
  unfold et
  omega
theorem zc_deck {v p : Nat} (hv : v ≤ n) : zc (deck n) (v : Int) p = min p v := by
  rw [take_sorted _ (deck_sorted n), cntv_deck]
  omega
/-- the table of an effect -/
theorem zc_eff {t p : Nat} (h : ∀ c ∈ cs, Fit n c) (ht : t ≤ n) (hp : p ≤ n) : zc (runs (falls n) cs) ((n - t : Nat) : Int) p = czs cs (et t) p := by
  rw [zc_runs h (falls_len n)]
  exact czs_congr h (fun q hq => zc_falls ht hq) p hp
/-- a row after a script, by the script's effect -/
theorem zc_res {row : List Int} (h : ∀ c ∈ cs, Fit n c) (hl : row.length = n) (v : Int) : Mp' n (zc row v) (zc (runs row cs) v) fun t => zc (runs (falls n) cs) ((n - t : Nat) : Int) := fun p hp => by
  have m := czs_mp h (zc_zf row v) p hp
  rw [zc_runs h hl]
  refine ⟨fun t ht => ?_, ?_⟩
  · show _ ≤ _ + zc (runs (falls n) cs) ((n - t : Nat) : Int) p
    rw [zc_eff h ht hp]
    exact m.1 t ht
  · obtain ⟨t, ht, e⟩ := m.2
    refine ⟨t, ht, ?_⟩
    show _ = _ + zc (runs (falls n) cs) ((n - t : Nat) : Int) p
    rw [zc_eff h ht hp]
    exact e
theorem mp_unique {z y y' : Nat → Nat} {Y : Nat → Nat → Nat} (m : Mp' n z y Y) (m' : Mp' n z y' Y) {p : Nat} (hp : p ≤ n) : y p = y' p := by
  obtain ⟨a, t, ht, e⟩ := m p hp
  obtain ⟨a', t', ht', e'⟩ := m' p hp
  have := a t' ht'
  have := a' t ht
  omega
/-- two scripts of one effect make the same of every row -/
theorem runs_same {a b : List (Int × Int)} {row : List Int} (ha : ∀ c ∈ a, Fit n c) (hb : ∀ c ∈ b, Fit n c) (hl : row.length = n) (e : runs (falls n) a = runs (falls n) b) : runs row a = runs row b := by
  refine zc_ext (by rw [runs_len ha, runs_len hb]) fun v p hp => ?_
  rw [runs_len ha, hl] at hp
  have m := zc_res ha hl v
  rw [e] at m
  exact mp_unique m (zc_res hb hl v) hp

/-! ### 48. at most -/
def below (f s : List Int) : Prop := ∀ v p, zc s v p ≤ zc f v p
theorem below_refl (f : List Int) : below f f := fun _ _ => Nat.le_refl _
theorem below_trans {f g s : List Int} (h : below f g) (k : below g s) : below f s := fun v p => Nat.le_trans (k v p) (h v p)
theorem below_antisymm {f s : List Int} (hl : f.length = s.length) (h : below f s) (k : below s f) : f = s := zc_ext hl fun v p _ => Nat.le_antisymm (k v p) (h v p)
theorem below_runs {f s : List Int} (h : ∀ c ∈ cs, Fit n c) (lf : f.length = n) (ls : s.length = n) (b : below f s) : below (runs f cs) (runs s cs) := fun v p => by
  rw [zc_runs h lf, zc_runs h ls]
  exact czs_mono (b v) p
theorem runs_below {f : List Int} (h : ∀ c ∈ cs, Fit n c) (lf : f.length = n) : below (runs f cs) f := fun v p => by
  rw [zc_runs h lf]
  exact czs_ge h (zc_zf f v) p
theorem below_lifts {f s : List Int} (h : ∀ c ∈ cs, Fit n c) (lf : f.length = n) (ls : s.length = n) : below (runs f cs) s ↔ below f (lifts s cs) := by
  unfold below
  refine forall_congr' fun v => ?_
  rw [zc_runs h lf, zc_lifts h ls]
  exact czs_lzs h (zc_zf f v) (zc_zf s v)
theorem below_eff {a b : List (Int × Int)} {row : List Int} (ha : ∀ c ∈ a, Fit n c) (hb : ∀ c ∈ b, Fit n c) (hl : row.length = n) (e : below (runs (falls n) a) (runs (falls n) b)) : below (runs row a) (runs row b) := fun v p => by
  have go : ∀ p, p ≤ n → zc (runs row b) v p ≤ zc (runs row a) v p := fun p hp => by
    obtain ⟨_, t, ht, et⟩ := zc_res ha hl v p hp
    obtain ⟨k, _⟩ := zc_res hb hl v p hp
    have := k t ht
    dsimp only at et this
    have := e ((n - t : Nat) : Int) p
    omega
  by_cases hp : p ≤ n
  · exact go p hp
  · have := go n (Nat.le_refl n)
    rw [zc_all v (show (runs row a).length ≤ p by rw [runs_len ha]; omega), zc_all v (show (runs row b).length ≤ p by rw [runs_len hb]; omega)]
    rwa [zc_all v (show (runs row a).length ≤ n by rw [runs_len ha]; omega), zc_all v (show (runs row b).length ≤ n by rw [runs_len hb]; omega)] at this
theorem zc_low {p : List Int} (h : Arr n p) {v : Int} (hv : v ≤ 0) (q : Nat) : zc p v q = 0 := by
  have e : cntv p v = 0 := by rw [cntv_perm h, cntv_deck_neg hv]
  by_cases hq : q ≤ p.length
  · have := ((zc_zf p v).to hq).1
    rw [zc_all v (Nat.le_refl p.length)] at this
    omega
  · rw [zc_all v (by omega)]; exact e
theorem zc_high {p : List Int} (h : Arr n p) {v : Int} (hv : n ≤ v) (q : Nat) : zc p v q = min q n := by
  unfold zc
  unfold cntv
  rw [List.countP_eq_length.mpr fun x hx => ?_, List.length_take, h.len]
  have := (h.mem.mp (List.mem_of_mem_take hx)).2
  exact decide_eq_true (by omega)
theorem below_arr {f s : List Int} (hf : Arr n f) (hs : Arr n s) (k : ∀ v p : Nat, v ≤ n → p ≤ n → zc s v p ≤ zc f v p) : below f s := fun v p => by
  by_cases h1 : v ≤ 0
  · rw [zc_low hf h1, zc_low hs h1]; exact Nat.le_refl _
  · by_cases h2 : (n : Int) ≤ v
    · rw [zc_high hf h2, zc_high hs h2]; exact Nat.le_refl _
    · obtain ⟨w, rfl⟩ : ∃ w : Nat, v = w := ⟨v.toNat, by omega⟩
      by_cases hp : p ≤ n
      · exact k w p (by omega) hp
      · rw [zc_all (row := f) _ (by rw [hf.len]; omega), zc_all (row := s) _ (by rw [hs.len]; omega), cntv_arr hf, cntv_arr hs]
        exact Nat.le_refl _
theorem below_falls {f : List Int} (hf : Arr n f) : below f (falls n) := below_arr hf (falls_perm n) fun v p hv hp => by
  have := zc_falls (n := n) (t := n - v) (by omega) hp
  rw [show n - (n - v) = v by omega] at this
  rw [this]
  unfold et
  have h1 := (zc_zf f (v : Int)).to hp
  rw [zc_all _ (show f.length ≤ n by rw [hf.len]; exact Nat.le_refl _), cntv_arr hf] at h1
  omega
theorem deck_below {f : List Int} (hf : Arr n f) : below (deck n) f := below_arr (List.Perm.refl _) hf fun v p hv hp => by
  rw [zc_deck hv]
  have h1 := (zc_zf f (v : Int)).le p
  have h2 := (zc_zf f (v : Int)).to hp
  rw [zc_all _ (show f.length ≤ n by rw [hf.len]; exact Nat.le_refl _), cntv_arr hf] at h2
  omega
end
end PL

namespace PL
open PySem PySem.Spec PyProof.Rows L2

/-! ### 49. an owned thing given away; dict displays -/
/-- the thing in a slot, given away -/
def pMove (i : Nat) : PO := fun env Q => match env[i]? with
  | some (.un) => False
  | some r => Q r (env.set i .un)
  | none => False
section
variable {X : Cx} {E : Ent}
theorem l_move (i : Nat) {x : Str} {pos : Pos} (h : PE X (.Name x pos) (tVar i)) (hN : i < X.N.length) : PE X (.Name x pos) (liftO X.K E (pMove i)) := by
  refine ⟨fun pins s σ H Q I q => h.run pins s σ H Q I ?_⟩
  obtain ⟨ts, F, env, As, Q', S, _, p, k⟩ := q
  have hi : i < σ.length := by rw [I.len]; exact hN
  unfold pMove at p
  split at p
  · exact p.elim
  · rename_i r nu er
    obtain ⟨x', h1, h2⟩ := S.slot i r er
    obtain ⟨v, ev⟩ : ∃ v, x' = some v := by
      cases r with
      | un => exact absurd rfl nu
      | v d => obtain ⟨v, e, _⟩ := h2; exact ⟨v, e⟩
      | m c => obtain ⟨v, e, _⟩ := h2; exact ⟨v, e⟩
    subst ev
    obtain ⟨S2, R2⟩ := S.move er h1
    exact ⟨v, app_get hi h1, k v r _ F H _ _ S2 (Same.refl F) R2 p⟩
  · exact p.elim
def anyO (K : PySem.W.Frag) (fi : Nat → Option V) (p : PO) : TE := fun σ H Q => ∃ E : Ent, E.fix = fi ∧ liftO K E p σ H Q
theorem pe_anyO {e : Expr} {p : PO} {fi : Nat → Option V} (h : ∀ E' : Ent, E'.fix = fi → PE X e (liftO X.K E' p)) : PE X e (anyO X.K fi p) :=
  ⟨fun pins s σ H Q I ⟨E', hE, q⟩ => (h E' hE).run pins s σ H Q I q⟩
def dTrs (K : PySem.W.Frag) (fi : Nat → Option V) : List (Str × PO) → List (TE × TE)
  | [] => []
  | (k, p) :: r => (tC (.str k), anyO K fi p) :: dTrs K fi r
def dPos : List (Str × PO) → POs
  | [] => pONil
  | (_, p) :: r => pOCons p (dPos r)
def dZip : List (Str × PO) → List V → List (V × V)
  | (k, _) :: r, v :: vs => (.str k, v) :: dZip r vs
  | _, _ => []
theorem dTrs_run {K : PySem.W.Frag} {fi : Nat → Option V} : ∀ (l : List (Str × PO)) (E : Ent), E.fix = fi → ∀ {σ ts : L2.St} {F H : Hp} {env : PEnv} {As : Nat → List Addr} {Q : List (V × V) → Hp → Prop} {Q' : List Sl → PEnv → Prop},
    SR K E F H (σ ++ ts) env As → FixIn E σ → dPos l env Q' → (∀ vs rs ar F' H' env' As', SR K E F' H' (σ ++ ts) env' As' → Same F F' → AllOk K E F' H' As' vs rs ar → Q' rs env' → Q (dZip l vs) H') → tPairs (dTrs K fi l) σ H Q
  | [], E, hE, σ, ts, F, H, env, As, Q, Q', S, fx, p, k => k [] [] [] F H env As S (Same.refl F) ⟨.nil, List.nodup_nil, fun a ha => absurd ha (by simp), fun i a ha => absurd ha (by simp)⟩ p
  | (key, po) :: r, E, hE, σ, ts, F, H, env, As, Q, Q', S, fx, p, k => by
    refine (show tC (.str key) σ H _ from ?_)
    refine ⟨E, hE, ts, F, env, As, _, S, fx, p, fun v rr ar F1 H1 env1 As1 S1 f1 R q => ?_⟩
    refine dTrs_run r (reE E F1 H1 As1) hE S1.re fx q fun vs rs br F2 H2 env2 As2 S2 f2 A q2 => ?_
    have hd : ∀ a ∈ ar, H2 a = H1 a ∧ (F1 a = none → F2 a = none) := fun a ha => S2.held (R.1.live a ha) (R.1.ntp a ha) fun i => R.2.2.2 i a ha
    have ap : ∀ a, ((∃ i, a ∈ As1 i) ∨ H1 a = none) → a ∉ ar := fun a h ha => by
      rcases h with ⟨i, h⟩ | h
      · exact R.2.2.2 i a ha h
      · exact R.1.live a ha h
    refine k (v :: vs) (rr :: rs) (ar ++ br) F2 H2 env2 As2 (S1.unre S2) (f1.trans f2) ⟨.cons (R.1.to f2 fun a ha => (hd a ha).1) A.1, ?_, fun a ha => ?_, fun i a ha z => ?_⟩ q2
    · refine List.nodup_append.mpr ⟨R.2.1, A.2.1, fun a ha b hb z => ?_⟩
      subst z
      exact ap a (A.2.2.1 a hb).2 ha
    · rcases List.mem_append.mp ha with ha | ha
      · exact ⟨(hd a ha).2 (R.2.2.1 a ha).1, (R.2.2.1 a ha).2⟩
      · exact ⟨(A.2.2.1 a ha).1, S1.own' (A.2.2.1 a ha).2⟩
    · rcases List.mem_append.mp ha with ha | ha
      · exact ap a (S2.own i a z).2 ha
      · exact A.2.2.2 i a ha z
/-- {'k': v, ..}: texts as keys, each once -/
def pDisp (l : List (Str × PO)) : PO := fun env Q => dPos l env fun rs env1 => match slMs rs with
  | some cs => cs.length = l.length ∧ Q (.m (.dk ((l.map fun p => (Sum.inr p.1 : Key)).zip cs))) env1
  | none => False
theorem mpkv_zip {K : PySem.W.Frag} {F H : Hp} : ∀ {ks : List Key} {vs : List V} {cs : List MO} {as : List Addr}, MpAll K F H vs cs as → ks.length = cs.length → MpKV K F H (ks.zip vs) (ks.zip cs) as
  | [], _, _, _, h, e => by
    cases h with
    | nil => exact .nil
    | cons _ _ => cases e
  | k :: ks, _, _, _, h, e => by
    cases h with
    | nil => cases e
    | cons h1 h2 => exact .cons h1 (mpkv_zip h2 (by simpa using e))
theorem mergeK_fresh : ∀ (more kvs : List (Key × V)), ((kvs ++ more).map (·.1)).Nodup → mergeK kvs more = kvs ++ more
  | [], kvs, _ => by rw [List.append_nil]; rfl
  | p :: r, kvs, h => by
    show mergeK (putK kvs p.1 p.2) r = _
    have hn : valV kvs p.1 = none := by
      cases e : valV kvs p.1 with
      | none => rfl
      | some v =>
        have hs := valV_any p.1 kvs
        rw [e, Option.isSome_some, List.any_eq_true] at hs
        obtain ⟨q, hq, e2⟩ := hs
        have e2 := of_decide_eq_true e2
        rw [List.map_append, List.map_cons] at h
        exact absurd e2 ((List.nodup_append.mp h).2.2 q.1 (List.mem_map.mpr ⟨q, hq, rfl⟩) p.1 List.mem_cons_self)
    rw [putK_new p.2 hn, mergeK_fresh r (kvs ++ [p]) (by rw [List.append_assoc]; exact h), List.append_assoc]
    rfl
theorem dZip_kvs : ∀ (l : List (Str × PO)) (vs : List V), vs.length = l.length → dZip l vs = ((l.map fun p => (Sum.inr p.1 : Key)).zip vs).map fun kv => (kV kv.1, kv.2)
  | [], [], _ => rfl
  | [], _ :: _, e => by cases e
  | _ :: _, [], e => by cases e
  | (k, p) :: l, v :: vs, e => by
    show (V.str k, v) :: dZip l vs = _
    rw [dZip_kvs l vs (by simpa using e)]
    rfl
theorem slMs_len : ∀ {rs : List Sl} {cs : List MO}, slMs rs = some cs → cs.length = rs.length
  | [], _, e => by cases e; rfl
  | r :: rs, cs, e => by
    unfold slMs at e
    cases e1 : slM r with
    | none => rw [e1] at e; cases e
    | some c =>
      cases e2 : slMs rs with
      | none => rw [e1, e2] at e; cases e
      | some cs' =>
        rw [e1, e2] at e
        cases e
        rw [List.length_cons, List.length_cons, slMs_len e2]
theorem l_disp {l : List (Str × PO)} {keys : List (Option Expr)} {values : List Expr} {pos : Pos} (h : PPs X pos keys values (dTrs X.K E.fix l)) (hall : keys.all (·.isSome) = true) (hl : keys.length = values.length) (h0 : keys ≠ [])
    (h15 : keys.length ≤ 15) (hl2 : l.length ≤ 15) (nd : (l.map (·.1)).Nodup) : PE X (.Dict keys values pos) (liftO X.K E (pDisp l)) := by
  refine pe_w (pe_disp h hall hl h0 h15) fun σ H Q ⟨ts, F, env, As, Q', S, fx, p, k⟩ => fun a ha => ?_
  have g := Gr.made (o := HO.dK []) S.sub ha
  have S0 := S.gr g
  have na : ∀ i, a ∉ As i := fun i z => S.live i a z ha
  have Fa : F a = none := S.sub.free ha
  have own : E.B a ∨ E.H0 a = none := (S.free ha).symm
  refine dTrs_run l (reE E F _ As) rfl S0.re fx p fun vs rs ar F2 H2 env2 As2 S2 f2 A q => ?_
  split at q
  · rename_i cs ec
    have hd := S2.held (show upd H a (HO.dK []) a ≠ none by rw [upd_same]; exact fun z => by cases z) (ntp_of (o := HO.dK []) upd_same fun _ z => nomatch z) na
    have ea : H2 a = some (.dK []) := by rw [hd.1, upd_same]
    have lv : vs.length = l.length := by rw [RsAll.lengths A.1, ← slMs_len ec]; exact q.1
    have kl : (l.map fun p => (Sum.inr p.1 : Key)).length = vs.length := by rw [List.length_map, lv]
    refine ⟨ea, (l.map fun p => (Sum.inr p.1 : Key)).zip vs, dZip_kvs l vs lv, by rw [List.length_zip, List.length_map, lv, Nat.min_self]; exact hl2, ?_⟩
    have fresh : mergeK [] ((l.map fun p => (Sum.inr p.1 : Key)).zip vs) = (l.map fun p => (Sum.inr p.1 : Key)).zip vs := by
      refine mergeK_fresh _ [] ?_
      rw [List.nil_append, List.map_fst_zip (by omega)]
      have := nd
      rw [List.nodup_iff_pairwise_ne, List.pairwise_map] at this ⊢
      exact this.imp fun h e => h (Sum.inr.inj e)
    rw [fresh]
    have nar : a ∉ ar := fun z => by
      rcases (A.2.2.1 a z).2 with ⟨i, y⟩ | y
      · exact na i y
      · have y : upd H a (HO.dK []) a = none := y
        rw [upd_same] at y; cases y
    have na2 : ∀ i, a ∉ As2 i := fun i z => by
      rcases (S2.own i a z).2 with ⟨j, y⟩ | y
      · exact na j y
      · have y : upd H a (HO.dK []) a = none := y
        rw [upd_same] at y; cases y
    have S3 := (S0.unre S2).poke (o := HO.dK ((l.map fun p => (Sum.inr p.1 : Key)).zip vs)) (hd.2 Fa) own na2
    refine k (.ref a) (.m (.dk ((l.map fun p => (Sum.inr p.1 : Key)).zip cs))) (a :: ar) F2 _ env2 As2 S3 f2 ⟨⟨_, rfl, .dk upd_same ((mpkv_zip (RsAll.mp A.1 ec) (by rw [List.length_map, ← q.1])).to (Same.refl F2) fun b hb => upd_ne fun z => nar (by rw [← z]; exact hb))⟩, List.nodup_cons.mpr ⟨nar, A.2.1⟩, fun b hb => ?_, fun i b hb z => ?_⟩ q.2
    · rcases List.mem_cons.mp hb with e | hb
      · rw [e]
        exact ⟨hd.2 Fa, own⟩
      · exact ⟨(A.2.2.1 b hb).1, S0.own' (A.2.2.1 b hb).2⟩
    · rcases List.mem_cons.mp hb with e | hb
      · rw [e] at z
        exact na2 i z
      · exact A.2.2.2 i b hb z
  · exact q.elim
end
end PL

namespace PL
open PySem PySem.W L2

/-! ### 50. more data facts -/
/-- a list of numbers, owned or still -/
def Ls (r : Sl) (p : List Int) : Prop := r = .m (.ol (p.map .int)) ∨ r = .v (.list (p.map .int))
theorem any_int (l : List Int) (v : Int) : ((l.map PyData.int).any fun z => PyData.eqv z (.int v)) = decide (v ∈ l) := by
  rw [List.any_map, Bool.eq_iff_iff, List.any_eq_true, decide_eq_true_eq]
  constructor
  · rintro ⟨x, hx, e⟩
    have e : PyData.eqv (.int x) (.int v) = true := e
    rw [eqv_int] at e
    have := of_decide_eq_true e
    subst this
    exact hx
  · intro h
    exact ⟨v, h, by show PyData.eqv (.int v) (.int v) = true; rw [eqv_ii]⟩
theorem any_li (l : List (List Int)) (r : List Int) : ((l.map li).any fun z => PyData.eqv z (li r)) = decide (r ∈ l) := by
  rw [List.any_map, Bool.eq_iff_iff, List.any_eq_true, decide_eq_true_eq]
  constructor
  · rintro ⟨x, hx, e⟩
    have e : PyData.eqv (li x) (li r) = true := e
    rw [eqv_li] at e
    have := of_decide_eq_true e
    subst this
    exact hx
  · intro h
    exact ⟨r, h, by show PyData.eqv (li r) (li r) = true; rw [eqv_li]; exact decide_eq_true rfl⟩
theorem mem_erase' {α : Type} [DecidableEq α] {l : List α} {x y : α} (h : y ∈ l) (ne : y ≠ x) : y ∈ l.erase x := (List.mem_erase_of_ne ne).mpr h
theorem perm_of_nodup {α : Type} [DecidableEq α] : ∀ {a b : List α}, a.Nodup → (∀ x ∈ a, x ∈ b) → a.length = b.length → a.Perm b
  | [], b, _, _, hl => by
    have : b = [] := List.eq_nil_of_length_eq_zero hl.symm
    subst this
    exact List.Perm.refl _
  | x :: a, b, nd, hs, hl => by
    obtain ⟨h1, h2⟩ := List.nodup_cons.mp nd
    have hx := hs x List.mem_cons_self
    have hp := List.perm_cons_erase hx
    refine List.Perm.trans (List.Perm.cons x (perm_of_nodup h2 (fun y hy => mem_erase' (hs y (List.mem_cons_of_mem _ hy)) fun e => h1 (by rw [← e]; exact hy)) ?_)) hp.symm
    rw [List.length_erase_of_mem hx, ← hl]
    simp
theorem arr_of {n : Nat} {r : List Int} (nd : r.Nodup) (hs : ∀ x ∈ r, 1 ≤ x ∧ x ≤ n) (hl : r.length = n) : Arr n r :=
  perm_of_nodup nd (fun x hx => deck_mem.mpr (hs x hx)) (by rw [deck_len]; exact hl)
theorem below_of_nat {n : Nat} {f s : List Int} (hf : Arr n f) (hs : Arr n s) (k : ∀ v p : Nat, 1 ≤ v → v ≤ n → p ≤ n → zc s v p ≤ zc f v p) : below f s := below_arr hf hs fun v p hv hp => by
  by_cases h : v = 0
  · subst h
    rw [zc_low hf (v := ((0 : Nat) : Int)) (Int.le_refl _), zc_low hs (v := ((0 : Nat) : Int)) (Int.le_refl _)]
    exact Nat.le_refl _
  · exact k v p (by omega) hv hp
/-- rows made place by place -/
def allA (n : Nat) : Nat → List (List Int)
  | 0 => [[]]
  | k + 1 => (allA n k).flatMap fun cells => ((deck n).filter fun v => !decide (v ∈ cells)).map fun v => cells ++ [v]
theorem allA_mem {n : Nat} : ∀ {k : Nat} {r : List Int}, r ∈ allA n k ↔ r.length = k ∧ r.Nodup ∧ ∀ x ∈ r, 1 ≤ x ∧ x ≤ n
  | 0, r => by
    simp only [allA, List.mem_singleton]
    constructor
    · rintro rfl
      exact ⟨rfl, List.nodup_nil, fun x hx => by cases hx⟩
    · rintro ⟨h, _⟩
      exact List.eq_nil_of_length_eq_zero h
  | k + 1, r => by
    simp only [allA, List.mem_flatMap, List.mem_map, List.mem_filter]
    constructor
    · rintro ⟨cells, hc, v, ⟨hv, nv⟩, rfl⟩
      obtain ⟨h1, h2, h3⟩ := allA_mem.mp hc
      have nv : v ∉ cells := by simpa using nv
      refine ⟨by simp [h1], ?_, fun x hx => ?_⟩
      · rw [List.nodup_append]
        refine ⟨h2, by simp, fun a ha b hb => ?_⟩
        rw [List.mem_singleton.mp hb]
        exact fun e => nv (e ▸ ha)
      · rcases List.mem_append.mp hx with hx | hx
        · exact h3 x hx
        · rw [List.mem_singleton.mp hx]
          exact deck_mem.mp hv
    · rintro ⟨h1, h2, h3⟩
      have ne : r ≠ [] := fun e => by rw [e] at h1; cases h1
      have er : r.dropLast ++ [r.getLast ne] = r := List.dropLast_concat_getLast ne
      have h2' := h2
      rw [← er, List.nodup_append] at h2'
      refine ⟨r.dropLast, allA_mem.mpr ⟨by rw [List.length_dropLast]; omega, h2'.1, fun x hx => h3 x (List.dropLast_subset r hx)⟩, r.getLast ne, ⟨deck_mem.mpr (h3 _ (List.getLast_mem ne)), ?_⟩, er⟩
      have : r.getLast ne ∉ r.dropLast := fun hx => h2'.2.2 _ hx _ (List.mem_singleton.mpr rfl) rfl
      simpa using this
theorem allA_arr {n : Nat} {r : List Int} : r ∈ allA n n ↔ Arr n r := by
  rw [allA_mem]
  constructor
  · rintro ⟨h1, h2, h3⟩
    exact arr_of h2 h3 h1
  · intro h
    exact ⟨h.len, h.nodup, fun x hx => h.mem.mp hx⟩
theorem flatMap_le {α β : Type} {f : α → List β} {m : Nat} (l : List α) (h : ∀ x ∈ l, (f x).length ≤ m) : (l.flatMap f).length ≤ l.length * m := by
  induction l with
  | nil => simp
  | cons x l ih =>
    rw [List.flatMap_cons, List.length_append, List.length_cons, Nat.add_mul]
    have := ih fun y hy => h y (List.mem_cons_of_mem _ hy)
    have := h x List.mem_cons_self
    omega
theorem allA_len (n : Nat) : ∀ k, (allA n k).length ≤ n ^ k
  | 0 => Nat.le_refl _
  | k + 1 => by
    rw [Nat.pow_succ]
    refine Nat.le_trans (flatMap_le _ (m := n) fun x _ => ?_) (Nat.mul_le_mul_right n (allA_len n k))
    rw [List.length_map]
    exact Nat.le_trans (List.length_filter_le ..) (by rw [deck_len]; exact Nat.le_refl _)
theorem allA_small {n : Nat} (hn : n ≤ 7) {k : Nat} (hk : k ≤ n) : (allA n k).length ≤ 823543 := by
  refine Nat.le_trans (allA_len n k) ?_
  have h1 : n ^ k ≤ 7 ^ k := Nat.pow_le_pow_left hn k
  have h2 : 7 ^ k ≤ 7 ^ 7 := Nat.pow_le_pow_right (by decide) (by omega)
  have h3 : 7 ^ 7 = 823543 := by decide
  omega
theorem le_line' {n : Nat} (h : n ≤ 10000000) : n ≤ sizeLine := Nat.le_trans h (by decide)
theorem flatMap_step {α β : Type} {f : α → List β} {l : List α} {i : Nat} {x : α} (h : l[i]? = some x) : (l.take i).flatMap f ++ f x = (l.take (i + 1)).flatMap f := by
  rw [List.take_add_one, h, List.flatMap_append]
  simp
theorem flatMap_take_le {α β : Type} (f : α → List β) (l : List α) (i : Nat) : ((l.take i).flatMap f).length ≤ (l.flatMap f).length := by
  have : l.flatMap f = (l.take i).flatMap f ++ (l.drop i).flatMap f := by rw [← List.flatMap_append, List.take_append_drop]
  rw [this, List.length_append]
  omega
end PL

namespace PL
open PySem PySem.W L2

/-! ### 51. comprehensions that touch their own names alone -/
theorem wipeP_get {env : PEnv} {i : Nat} : ∀ {vs : List Nat}, i ∉ vs → (wipeP env vs)[i]? = env[i]?
  | [], _ => rfl
  | v :: vs, h => by
    unfold wipeP
    have hv : v ≠ i := fun e => h (by rw [e]; exact List.mem_cons_self)
    rw [List.getElem?_set_ne hv]
    exact wipeP_get fun z => h (List.mem_cons_of_mem _ z)
theorem backP_wipe {env e : PEnv} {vs : List Nat} (h : wipeP e vs = wipeP env vs) : backP env e vs = env := by
  have hl : e.length = env.length := by
    have := congrArg List.length h
    rwa [wipeP_length, wipeP_length] at this
  rw [backP_eq]
  refine List.ext_getElem (by rw [List.length_mapIdx]; exact hl) fun i h1 h2 => ?_
  rw [List.getElem_mapIdx]
  split
  · rw [List.getD_eq_getElem?_getD, List.getElem?_eq_getElem h2]
    rfl
  · rename_i hn
    have a := wipeP_get (env := e) hn
    have b := wipeP_get (env := env) hn
    rw [h, b, List.getElem?_eq_getElem h2] at a
    rw [List.length_mapIdx] at h1
    rw [List.getElem?_eq_getElem h1] at a
    exact (Option.some.inj a).symm
theorem compK_w {α : Type} {t : Tg} {tt : PTt} {te : PX} {vs : List Nat} {env : PEnv} {Q : List PyData → PEnv → Prop} (xs : List α) (enc : α → PyData) (keep : α → Bool) (out : α → PyData) (hl : xs.length ≤ sizeLine)
    (hs : ∀ x ∈ xs, ∀ (A : PEnv → Prop) (B : PyData → PEnv → Prop), (keep x = false → ∀ e', wipeP e' vs = wipeP env vs → stillAt e' vs = true → A e') → (keep x = true → ∀ e', wipeP e' vs = wipeP env vs → stillAt e' vs = true → B (out x) e') →
      tgP t (enc x) (wipeP env vs) fun e1 => tt e1 fun b e2 => sel b (te e2 fun y e3 => B y e3) (A e2))
    (he : ∀ e, backP env e vs = env → Q ((xs.filter keep).map out) e) : compK t tt te vs (xs.map enc) [] env Q :=
  compK_pure xs enc keep out (fun e => wipeP e vs = wipeP env vs) rfl hl (fun x hx e h A B hA hB => by rw [h]; exact hs x hx A B hA hB) fun e h => he e (backP_wipe h)
/-- every item, and nothing asked -/
theorem compK_m {α : Type} {t : Tg} {te : PX} {vs : List Nat} {env : PEnv} {Q : List PyData → PEnv → Prop} (xs : List α) (enc : α → PyData) (out : α → PyData) (hl : xs.length ≤ sizeLine)
    (hs : ∀ x ∈ xs, ∀ (B : PyData → PEnv → Prop), (∀ e', wipeP e' vs = wipeP env vs → stillAt e' vs = true → B (out x) e') → tgP t (enc x) (wipeP env vs) fun e1 => te e1 fun y e3 => B y e3)
    (he : ∀ e, backP env e vs = env → Q (xs.map out) e) : compK t pYes te vs (xs.map enc) [] env Q := by
  refine compK_w xs enc (fun _ => true) out hl (fun x hx A B _ hB => ?_) (fun e h => by rw [List.filter_eq_self.mpr fun _ _ => rfl]; exact he e h)
  have z := hs x hx B (hB rfl)
  unfold tgP at z ⊢
  split at z
  · exact sel_t rfl z
  · exact z.elim
/-- tests that give a truth value whose meaning is known -/
theorem all_iff {α : Type} {l : List α} {f : α → Bool} {p : α → Prop} (h : ∀ x ∈ l, (f x = true ↔ p x)) : ((l.map f).all id = true) ↔ ∀ x ∈ l, p x := by
  rw [List.all_map, List.all_eq_true]
  exact ⟨fun k x hx => (h x hx).mp (k x hx), fun k x hx => (h x hx).mpr (k x hx)⟩
/-- a comprehension whose items come with a fact each -/
theorem compK_r {α : Type} {t : Tg} {te : PX} {vs : List Nat} {env : PEnv} {Q : List PyData → PEnv → Prop} (xs : List α) (enc : α → PyData) (R : α → PyData → Prop) (hl : xs.length ≤ sizeLine)
    (hs : ∀ x ∈ xs, ∀ (B : PyData → PEnv → Prop), (∀ y e', R x y → wipeP e' vs = wipeP env vs → stillAt e' vs = true → B y e') → tgP t (enc x) (wipeP env vs) fun e1 => te e1 fun y e3 => B y e3)
    (he : ∀ ys : List PyData, ys.length = xs.length → (∀ (i : Nat) x, xs[i]? = some x → ∃ y, ys[i]? = some y ∧ R x y) → ∀ e, backP env e vs = env → Q ys e) : compK t pYes te vs (xs.map enc) [] env Q := by
  have z : ∀ (l : List α) (acc : List PyData) (e : PEnv), wipeP e vs = wipeP env vs → (∀ x ∈ l, x ∈ xs) → acc.length + l.length ≤ sizeLine → (∀ ys : List PyData, ys.length = l.length → (∀ (i : Nat) x, l[i]? = some x → ∃ y, ys[i]? = some y ∧ R x y) → ∀ e, backP env e vs = env → Q (acc ++ ys) e) →
      compK t pYes te vs (l.map enc) acc e Q := by
    intro l
    induction l with
    | nil =>
      intro acc e h hm hl hq
      show Q acc e
      have := hq [] rfl (fun i x hx => by simp at hx) e (backP_wipe h)
      rwa [List.append_nil] at this
    | cons x r ih =>
      intro acc e h hm hl hq
      rw [List.length_cons] at hl
      have key := hs x (hm x List.mem_cons_self) (fun y e3 => (acc.length < sizeLine ∧ stillAt e3 vs = true) ∧ compK t pYes te vs (r.map enc) (acc ++ [y]) e3 Q) fun y e' hr hw hst =>
        ⟨⟨by omega, hst⟩, ih (acc ++ [y]) e' hw (fun z hz => hm z (List.mem_cons_of_mem _ hz)) (by rw [List.length_append, List.length_singleton]; omega) fun ys hy hys => by
          rw [List.append_assoc]
          refine hq (y :: ys) (by simp [hy]) fun i w hw => ?_
          cases i with
          | zero => cases hw; exact ⟨y, rfl, hr⟩
          | succ i => exact hys i w hw⟩
      show tgP t (enc x) (wipeP e vs) _
      rw [h]
      unfold tgP at key ⊢
      split at key
      · exact sel_t rfl key
      · exact key.elim
  exact z xs [] env rfl (fun _ h => h) (by simpa using hl) fun ys h1 h2 => by simpa using he ys h1 h2
/-- truth values with a fact each -/
theorem compK_b {α : Type} {t : Tg} {te : PX} {vs : List Nat} {env : PEnv} {Q : List PyData → PEnv → Prop} (xs : List α) (enc : α → PyData) (p : α → Prop) (hl : xs.length ≤ sizeLine)
    (hs : ∀ x ∈ xs, ∀ (B : PyData → PEnv → Prop), (∀ b e', (b = true ↔ p x) → wipeP e' vs = wipeP env vs → stillAt e' vs = true → B (.bool b) e') → tgP t (enc x) (wipeP env vs) fun e1 => te e1 fun y e3 => B y e3)
    (he : ∀ bs : List Bool, bs.length = xs.length → (bs.all id = true ↔ ∀ x ∈ xs, p x) → (bs.any id = true ↔ ∃ x ∈ xs, p x) → ∀ e, backP env e vs = env → Q (bs.map .bool) e) : compK t pYes te vs (xs.map enc) [] env Q := by
  refine compK_r xs enc (fun x y => ∃ b : Bool, y = .bool b ∧ (b = true ↔ p x)) hl (fun x hx B hB => hs x hx B fun b e' hb h1 h2 => hB _ e' ⟨b, rfl, hb⟩ h1 h2) fun ys hlen hys => ?_
  have : ∃ bs : List Bool, ys = bs.map .bool ∧ ∀ (i : Nat) x, xs[i]? = some x → ∃ b, bs[i]? = some b ∧ (b = true ↔ p x) := by
    clear hs he hl
    induction xs generalizing ys with
    | nil =>
      have : ys = [] := List.eq_nil_of_length_eq_zero hlen
      subst this
      exact ⟨[], rfl, fun i x h => by simp at h⟩
    | cons x r ih =>
      cases ys with
      | nil => cases hlen
      | cons y ys =>
        obtain ⟨y', e1, b, e2, hb⟩ := hys 0 x rfl
        cases e1
        obtain ⟨bs, e3, h3⟩ := ih ys (by simpa using hlen) fun i w hw => hys (i + 1) w hw
        refine ⟨b :: bs, by rw [List.map_cons, ← e3, e2], fun i w hw => ?_⟩
        cases i with
        | zero => cases hw; exact ⟨b, rfl, hb⟩
        | succ i => exact h3 i w hw
  obtain ⟨bs, rfl, hb⟩ := this
  rw [List.length_map] at hlen
  have m1 : ∀ x ∈ xs, ∃ b ∈ bs, (b = true ↔ p x) := fun x hx => by
    obtain ⟨i, hi⟩ := List.mem_iff_getElem?.mp hx
    obtain ⟨b, h1, h2⟩ := hb i x hi
    exact ⟨b, List.mem_of_getElem? h1, h2⟩
  have m2 : ∀ b ∈ bs, ∃ x ∈ xs, (b = true ↔ p x) := fun b hbm => by
    obtain ⟨i, hi⟩ := List.mem_iff_getElem?.mp hbm
    have hl2 := (List.getElem?_eq_some_iff.mp hi).1
    obtain ⟨b', h1, h2⟩ := hb i _ (List.getElem?_eq_getElem (show i < xs.length by omega))
    rw [hi] at h1
    cases h1
    exact ⟨_, List.getElem_mem _, h2⟩
  refine he bs hlen ⟨fun h x hx => ?_, fun h => List.all_eq_true.mpr fun b hbm => ?_⟩ ⟨fun h => ?_, fun ⟨x, hx, hp⟩ => ?_⟩
  · obtain ⟨i, hi⟩ := List.mem_iff_getElem?.mp hx
    obtain ⟨b, h1, h2⟩ := hb i x hi
    exact h2.mp (List.all_eq_true.mp h b (List.mem_of_getElem? h1))
  · obtain ⟨x, hx, h2⟩ := m2 b hbm
    exact h2.mpr (h x hx)
  · obtain ⟨b, hbm, ht⟩ := List.any_eq_true.mp h
    obtain ⟨x, hx, h2⟩ := m2 b hbm
    exact ⟨x, hx, h2.mp ht⟩
  · obtain ⟨i, hi⟩ := List.mem_iff_getElem?.mp hx
    obtain ⟨b, h1, h2⟩ := hb i x hi
    exact List.any_eq_true.mpr ⟨b, List.mem_of_getElem? h1, h2.mpr hp⟩
end PL

namespace PL
open PySem PySem.Spec PyProof.Rows L2

/-! ### 52. enumerate with a start -/
def IteK (K : PySem.W.Frag) (k0 : Int) (a : Addr) : It :=
  ⟨fun i H => ∃ (xs : List V) (x : V), SqL K H a xs ∧ xs[i]? = some x, fun i H v H' => ∃ T x, v = .ref T ∧ H T = none ∧ H' = upd H T (.tup [.int (k0 + (i : Nat)), x]) ∧ ∀ xs, SqL K H a xs → xs[i]? = some x, fun i H => ∃ xs : List V, SqL K H a xs ∧ xs.length ≤ i⟩
theorem turn_enumK {P : Program} {w : World} {K : PySem.W.Frag} {elts : List Expr} {kk : Nat} {tpos : Pos} (k0 : Int) (a e it : Addr) :
    Turn P w K (.Tuple elts kk tpos) (IteK K k0 a) [e, it] e (fun i h => (∃ old, IsEnum h e it (k0 + ((i : Nat) : Int)) old) ∧ h.IsListIter it a i ∧ e ≠ it) where
  mem := by simp
  obj := fun i h st b hb => by
    obtain ⟨⟨old, he⟩, ⟨o, ho, hc, hd⟩, _⟩ := st
    have e' : b = e ∨ b = it := by simpa using hb
    rcases e' with z | z
    · rw [z]; exact ⟨_, he, fun v q => nomatch q⟩
    · rw [z]; exact ⟨o, ho, fun v q => by rw [hd] at q; cases q⟩
  keep := fun i h h' st k => let ⟨⟨old, he⟩, hi, hne⟩ := st; ⟨⟨old, k e (by simp) _ he⟩, hi.at fun o q => k it (by simp) o q, hne⟩
  item := by
    intro X hP hw hK hc i pins s σ H E I hf st hg
    subst hP hw hK
    obtain ⟨⟨old, he⟩, hit, hne⟩ := st
    obtain ⟨xs, x, hq, hx⟩ := hg
    obtain ⟨its, rv, p, hz⟩ := I.list hq
    obtain ⟨u, hu, ru⟩ := rv.get hx
    have hel : e < s.heap.objs.size := Heap.lt_size he
    have hil : it < s.heap.objs.size := by obtain ⟨_, q, _⟩ := hit; exact Heap.lt_size q
    have hal : a ≠ it := fun z => by
      obtain ⟨o1, q1, q2, _⟩ := hit
      obtain ⟨o2, q3, q4, _⟩ := p.isList
      rw [z, q1] at q3
      cases q3
      rw [q2] at q4
      exact absurd q4 (by decide)
    have hea : e ≠ a := fun z => by
      obtain ⟨o2, q3, q4, _⟩ := p.isList
      rw [← z] at q3
      have := he.symm.trans q3
      cases this
      have q5 : Value.type "enumerate" = Value.type "list" := q4
      exact absurd q5 (by decide)
    refine wpAny_pyNext_enum_itemC (A := X.A) (Draws.list (prog := X.prog) (w := X.w) (A := X.A.in1) (show X.A.in1.handled = none from I.ok.hd hc) it a hal its.toArray) he ⟨hit, p.isList⟩ (by simpa using (List.getElem?_eq_some_iff.mp hu).1) hne (by simp only [List.mem_cons, List.not_mem_nil, or_false, not_or]; exact ⟨hne, hea⟩) fun x' h' tk hP ho hst' hT hsz hk => ?_
    have hx' : x' = u := by
      have hP : its.toArray[i]? = some x' := hP
      rw [List.getElem?_toArray, hu] at hP
      exact (Option.some.inj hP).symm
    subst hx'
    have hit' := hst'.1
    refine ⟨_, rfl, wpAny_letOwnedTupleGo_enum (s := { s with heap := h', toks := tk + 1 }) ho fun h'' he' sb => ?_⟩
    have hT2 : h''.get? s.heap.objs.size = some { cls := .type "tuple", data := .seq #[.int (k0 + (i : Nat)) tk, x'] } := (sb.2 _ (Nat.ne_of_gt hel)).trans hT
    have new : ObjOk X.prog X.w (upd H s.heap.objs.size (.tup [.int (k0 + (i : Nat)), x])) h'' s.heap.objs.size (.tup [.int (k0 + (i : Nat)), x]) :=
      ⟨by show 2 ≤ sizeLine; decide, [.int (k0 + (i : Nat)) tk, x'], .cons ⟨_, rfl⟩ (.cons ru .nil), ⟨_, hT2, rfl, _, rfl⟩⟩
    have I1 : Inv X pins σ (upd H s.heap.objs.size (.tup [.int (k0 + (i : Nat)), x])) { s with heap := h'', toks := tk + 1 } :=
      I.turnedNew (ch := [e, it]) (fun b ob hb q => (sb.2 b (fun z => hb (by simp [z]))).trans (hk b ob (fun z => hb (by simp [z])) (fun z => hb (by simp [z])) q)) hf (Nat.le_refl _) new
    refine ⟨.ref s.heap.objs.size, _, I1, rfl, ⟨_, x, rfl, I.hok.fresh (Nat.le_refl _), rfl, fun ys hy => by rw [I.list_inj hy hq]; exact hx⟩, ⟨⟨x', ?_⟩, hit'.at fun o q => (sb.2 it (Ne.symm hne)).trans q, hne⟩, fun b hb => ?_⟩
    · have e1 : k0 + ((i + 1 : Nat) : Int) = k0 + (i : Int) + 1 := by omega
      rw [e1]; exact he'
    · have hb' : b < s.heap.objs.size := by
        have e' : b = e ∨ b = it := by simpa using hb
        rcases e' with z | z
        · rw [z]; exact hel
        · rw [z]; exact hil
      rw [upd_ne (Nat.ne_of_lt hb')]
      exact (hf b hb).1
  done := by
    intro X hP hw hK hc i pins s σ H E I hf st hg
    subst hP hw hK
    obtain ⟨⟨old, he⟩, hit, hne⟩ := st
    obtain ⟨xs, hq, hx⟩ := hg
    obtain ⟨its, rv, p, hz⟩ := I.list hq
    obtain ⟨f0, f1, f2, f3, f4, f5⟩ := hf it (by simp)
    have hl := rv.length
    have D : Draws X.prog X.w X.A.in1 it [it, a] i (fun _ _ => True) (fun j h => j = i ∧ h.IsListIter it a i ∧ h.IsList a its.toArray) :=
      { live := fun _ _ st => let ⟨_, ⟨o, ho, _⟩, _⟩ := st; ⟨o, ho⟩
        frame := fun _ _ _ st hk => ⟨st.1, st.2.1.at fun o e => hk it (by simp) o e, st.2.2.at fun o e => hk a (by simp) o e⟩
        item := fun j s Q E hi st hQ => absurd st.1 (Nat.ne_of_lt hi)
        done := fun s Q E st hE => wpAny_nextOf_list_end (show X.A.in1.handled = none from I.ok.hd hc) st.2.1 st.2.2 (by simp; omega) hE }
    exact wpAny_pyNext_enum_endD (A := X.A) D he ⟨rfl, hit, p.isList⟩ fun h' eb => ⟨rfl, I.turned (t' := s.toks) (fun b o hb q => eb b o hb q) f0 f1 f3 f4 f5⟩
  self := fun A i s Q E st h => let ⟨⟨_, he⟩, _⟩ := st; wpAny_pyIter_enum he h
def iEnumK (K : PySem.W.Frag) (ta : TA) : TI := fun σ H R => ta σ H fun vs H1 => ∃ a xs k0, vs = [.ref a, .int k0] ∧ SqL K H1 a xs ∧ (-(2 ^ 63) ≤ k0 ∧ k0 < 2 ^ 63) ∧ R (IteK K k0 a) H1
theorem pi_enumK {X : Cx} {e e2 : Expr} {ta : TA} {p pos tpos : Pos} {elts : List Expr} {kk : Nat} (hg : Gl X "enumerate") (hm : X.mg "enumerate" = none) (ha : PA X [e, e2] ta)
    (hs : starEach [e, e2] X.env = (false, eval e X.env) :: starEach [e2] X.env := by rfl) (hpl : (backTo pos (starEach [e2] X.env)).any (·.1) = false := by rfl) :
    PI X (.Tuple elts kk tpos) (.Call (.Name "enumerate" p) [e, e2] [] pos) (iEnumK X.K ta) := by
  refine ⟨fun pins s σ H R I h => ?_⟩
  refine Call_ (ld_blt I hg hm boot_enumerate (PyProof.Rows.callWith_type1 (thn (ha.run pos pins s σ H _ I h) fun us s1 ⟨vs, H1, I1, r1, q1⟩ => ?_) hs hpl))
  obtain ⟨a, xs, k0, ex, hq, hk0, q⟩ := q1
  subst ex
  cases r1 with
  | cons r rr =>
    cases rr with
    | cons r' rr =>
      cases rr
      cases r
      obtain ⟨tk, rfl⟩ := r'
      obtain ⟨its, rv, p', hz⟩ := I1.list hq
      refine enum_begins (begins_list a _) p'.isList hk0.1 hk0.2 fun h' he hit hsz hk => wpAny_pyIter_enum he ?_
      have I2 : Inv X pins σ H1 { s1 with heap := h' } := I1.kept (t' := s1.toks) hk
      have he0 : IsEnum h' (s1.heap.objs.size + 1) s1.heap.objs.size (k0 + ((0 : Nat) : Int)) .none := by
        have e0 : k0 + ((0 : Nat) : Int) = k0 := by omega
        rw [e0]; exact he
      refine ⟨s1.heap.objs.size + 1, [s1.heap.objs.size + 1, s1.heap.objs.size], _, _, H1, rfl, I2, turn_enumK k0 a (s1.heap.objs.size + 1) s1.heap.objs.size, ⟨⟨.none, he0⟩, ⟨_, hit, rfl, rfl⟩, Nat.succ_ne_self _⟩, fun b hb => ?_, q⟩
      have e' : b = s1.heap.objs.size + 1 ∨ b = s1.heap.objs.size := by simpa using hb
      have hle : s1.heap.objs.size ≤ b := by
        rcases e' with z | z
        · rw [z]; exact Nat.le_add_right _ _
        · rw [z]; exact Nat.le_refl _
      exact I1.fpOk hle (I1.hok.fresh hle)
/-- enumerate(xs, k) -/
def itEnumK (pa : PAs) : PIt := fun env Q => pa env fun gs env1 => match gs with
  | [.d (.list ds), .d (.int k)] => (0 ≤ k ∧ k < 2 ^ 62) ∧ Q (enumD k.toNat ds) env1
  | _ => False
theorem feeds_enumK {K : PySem.W.Frag} {F : Hp} {a : Addr} {vs : List V} {ds : List PyData} {k : Nat} (h : F a = some (.lst vs)) (r : FpAll F vs ds) : Feeds K F (IteK K (k : Int) a) (enumD k ds) := fun i H Fc f s => by
  have hH := s _ _ (f _ _ h)
  refine ⟨fun d e => ?_, fun e => ⟨vs, SqL.of hH, by rw [r.length]; rw [enumD_length] at e; exact e⟩⟩
  obtain ⟨x, e1, rfl⟩ := enumD_get e
  obtain ⟨v, h1, h2⟩ := r.get e1
  refine ⟨⟨vs, v, SqL.of hH, h1⟩, fun z H' y => ?_⟩
  obtain ⟨T, w, rfl, hT, rfl, y⟩ := y
  have := y vs (SqL.of hH)
  rw [h1] at this
  cases this
  have g := Gr.laid (o := HO.tup [.int ((k : Int) + (i : Nat)), v]) s hT
  refine ⟨_, g, .tup upd_same (.cons ?_ (.cons ((h2.to f).to g.ff) .nil))⟩
  rw [show (k : Int) + (i : Nat) = ((k + i : Nat) : Int) by omega]
  exact .int _
theorem li_enumK {X : Cx} {E : Ent} {tg e a b : Expr} {pas : PAs} (h0 : ∀ ta, PA X [a, b] ta → PI X tg e (iEnumK X.K ta)) (ha : PA X [a, b] (liftA X.K E pas)) : PI X tg e (liftI X.K E (itEnumK pas)) :=
  pi_w (h0 _ ha) fun σ H R ⟨ts, F, env, As, Q', S, fx, p, k⟩ => ⟨ts, F, env, As, _, S, fx, p, fun vs gs F1 H1 env1 As1 S1 f1 P q => by
    split at q
    · rename_i ds k0
      obtain ⟨v, u, rfl, hv, hu⟩ := paired_two P
      obtain ⟨a, us, rfl, ha, ra⟩ := hv.lst_inv
      obtain ⟨⟨q1, q2⟩, q⟩ := q
      refine ⟨a, us, k0, by rw [hu.int_inv], SqL.of (S1.sub _ _ ha), ⟨by omega, by omega⟩, k _ _ F1 H1 env1 As1 S1 f1 ?_ q⟩
      have := feeds_enumK (K := X.K) (k := k0.toNat) ha ra
      rwa [show ((k0.toNat : Nat) : Int) = k0 by omega] at this
    · exact q.elim⟩
theorem enumD_atK {α : Type} {f : α → PyData} {xs : List α} {k i : Nat} {d : PyData} (h : (enumD k (xs.map f))[i]? = some d) : ∃ v, xs[i]? = some v ∧ d = .tuple [.int (k + i : Nat), f v] := by
  obtain ⟨x, h1, rfl⟩ := enumD_get h
  obtain ⟨v, h2, rfl⟩ := map_get h1
  exact ⟨v, h2, rfl⟩
end PL

/-! sorted(set(line)) of a list of ints, as one call -/
namespace L2
open PySem PySem.Spec PyProof.Rows
/-- the object of a set that was just made -/
abbrev newSet (w : World) : Obj := { cls := .type "set", dict := none, data := .set #[] 0 (.fresh 0 0 (!(World.params w).followText "set-order")) }
section
variable {P : Program} {w : World} {A : Around} {E : Value → Shared → Prop} {s : Shared}
set_option maxHeartbeats 3200000 in
/-- set(line) of a list of ints: a set of its members that may be sorted -/
theorem set_of_line {line : Addr} {its : Array Value} (ns : List Int) {Q : Value → Shared → Prop} (h0 : A.handled = none) (hL : s.heap.IsList line its)
    (hI : IntsAre its.toList ns) (hB : ns.length + 1 < scanBound)
    (fin : ∀ (g : Heap) (tk c : Nat), SetR w g s.heap.objs.size (fun j => decide (j ∈ ns)) c → c ≤ ns.length → (∀ b o, s.heap.get? b = some o → g.get? b = some o) → Q (.ref s.heap.objs.size) { s with heap := g, toks := tk }) :
    wpAny (model P w) A (call (.type "set") [.ref line]) Q E s := by
  have size_eq : its.size = ns.length := by simpa using IntsAre.length hI
  have f1 := F.called_set.made
  have f2 := F.called_set.sub
  have f3 := F.called_set.notType
  have f4 := F.called_set.canCreate
  have f5 := F.typeCall_set_1 (.ref line)
  obtain ⟨cl, rest, f6⟩ := F.called_set.mro
  apply wpAny_call
  apply codeAny_of_tree
  show wpAny _ _ (callAny (.type "set") _) _ _ _
  refine wpAny_pure ⟨Code.quiet_builtin _ (by decide +kernel), ?_⟩
  refine codeAny_builtin F.entry_type_call ?_
  rw [Around.under_plain (weight_type_call_type "set" [.ref line] []) rfl]
  repeat (any_goals (first | assumption | wp_step))
  refine codeAny_mono (code_set_led1 (.ref line) (E := E) (Q₁ := fun x t => x = .ref s.heap.objs.size ∧ t = { s with heap := s.heap.push (newSet w) }) ⟨rfl, rfl⟩) fun res t ht => ?_
  match res, ht with
  | .error _, ht => exact ht
  | .ok (.ret x), ht =>
    obtain ⟨rfl, rfl⟩ := ht
    have atS : (s.heap.push (newSet w)).get? s.heap.objs.size = some (newSet w) := Heap.get?_push_size _ rfl
    have tyS : Shared.TypeIs { s with heap := s.heap.push (newSet w) } (.ref s.heap.objs.size) "set" := ⟨_, atS, rfl⟩
    have f7 := F.called_set.init.lookup
    have f8 := F.called_set.init.bind (.ref s.heap.objs.size)
    repeat (any_goals (first | assumption | wp_step))
    refine codeAny_mono (codeAny_call_builtin (R := wants (fun r t2 => r = .none ∧ ∃ g tk c, t2 = { s with heap := g, toks := tk } ∧ SetR w g s.heap.objs.size (fun j => decide (j ∈ ns)) c ∧ c ≤ ns.length ∧ (∀ b o, s.heap.get? b = some o → g.get? b = some o)) E)
      F.called_set.init.plain F.entry_set_init (check_set_init_1 tyS ?_)) fun res2 t2 ht2 => ?_
    · obtain ⟨⟨c0, d0, dat, sl⟩, ho, hc, nl, hd⟩ := hL
      dsimp only at hc hd
      subst hc
      subst hd
      have lineSize : line < s.heap.objs.size := Heap.lt_size ho
      have lineAt := Heap.get?_push_of_some (newSet w) ho
      have lineL : (s.heap.push (newSet w)).IsList line its := ⟨_, lineAt, rfl, nl, rfl⟩
      have g1 := F.sub_list_set
      have g2 := F.sub_list_frozenset
      have g3 : (Value.type "list" == Value.type "dict") = false := by decide
      have inner : A.in1.in1.in1.handled = none := by simp [h0]
      have sz : (s.heap.push (newSet w)).objs.size = s.heap.objs.size + 1 := Heap.size_push ..
      have lineIt : line ≠ (s.heap.push (newSet w)).objs.size := by
        rw [sz]
        exact Nat.ne_of_lt (Nat.lt_succ_of_lt lineSize)
      have apart : s.heap.objs.size ∉ [(s.heap.push (newSet w)).objs.size, line] := by
        intro hm
        rcases List.mem_cons.mp hm with e | e
        · rw [sz] at e
          exact absurd e.symm (Nat.succ_ne_self _)
        · rw [← List.mem_singleton.mp e] at lineSize
          exact Nat.lt_irrefl _ lineSize
      have vals : ∀ (i : Nat) (v : Value), its[i]? = some v → ∃ k t, ns[i]? = some k ∧ v = .int k t := by
        intro i v hv
        have hi : i < its.size := (Array.getElem?_eq_some_iff.mp hv).1
        have hi2 : i < ns.length := size_eq ▸ hi
        have at1 : its.toList[i]? = some v := by rw [Array.getElem?_toList]; exact hv
        obtain ⟨t, e⟩ := IntsAre.int_at hI i v at1
        have e2 : ns.getD i 0 = ns[i] := by simp [hi2]
        exact ⟨ns[i], t, List.getElem?_eq_getElem hi2, by rw [e, e2]⟩
      unfold Builtin.«set.__init__» noKeywords Builtin.Frozenset.updateFrom
      generalize eIt : pyIter = it
      wp_walk
      subst eIt
      refine wpAny_pyIter_list lineL ?_
      refine wpAny_bind (wpAny_runValue ?_)
      refine set_update_ints ((Walks.list inner _ line lineIt its).toS) s.heap.objs.size apart ns size_eq hB vals (its.size - 0) 0 _ (by omega) (Nat.zero_le _) ⟨⟨_, Heap.get?_push_size _ rfl, rfl, rfl⟩, lineL.push _⟩ ⟨0, Nat.le_refl 0, setR_new_at (Heap.get?_push_of_some _ atS)⟩ ?_
      rintro ⟨g, gs, dr, tk, os⟩ c moved hc made
      have q1 : gs = s.gens := moved.gens
      have q2 : dr = s.drawn := moved.drawn
      have q3 : os = s.os := moved.os
      subst q1
      subst q2
      subst q3
      show wpAny _ _ _ _ _ _
      refine wpAny_pure ?_
      show wpAny _ _ (ret Value.none) _ _ _
      refine wpAny_pure ⟨rfl, g, tk, c, rfl, made, by omega, fun b o e => ?_⟩
      have hb := Heap.lt_size e
      refine moved.heap b o (fun hm => ?_) (Heap.get?_push_of_some _ (Heap.get?_push_of_some _ e))
      rcases List.mem_cons.mp hm with z | z
      · rw [z] at hb
        exact Nat.lt_irrefl _ hb
      · rw [List.mem_singleton.mp z, sz] at hb
        exact Nat.lt_irrefl _ (Nat.lt_of_succ_lt hb)
    · match res2, ht2 with
      | .error _, ht2 => exact ht2
      | .ok (.ret _), ht2 =>
        obtain ⟨rfl, g, tk, c, rfl, made, hc, keep⟩ := ht2
        repeat (any_goals (first | assumption | wp_step))
        exact fin _ _ _ made hc keep
end
section
variable {X : Cx}
/-- set(line) as a contract -/
def rSetLn (K : PySem.W.Frag) (w : World) : List V → Hp → VK → Prop := fun vs H Q => ∃ (a : Addr) (ns : List Int), vs = [.ref a] ∧ SqL K H a (ns.map V.int) ∧ ns.length ≤ 1000 ∧
  ∀ (p : Addr) (c : Nat), H p = none → c ≤ ns.length → Q (.ref p) (upd H p (SetO w p (fun j => decide (j ∈ ns)) c))
theorem cr_setLn (hc : X.calm = true) : CallR X (.type "set") (rSetLn X.K X.w) := by
  intro pins s σ H vs us Q I r ⟨a, ns, e, hs, hl, q⟩
  subst e
  obtain ⟨its, rv, pl, _⟩ := I.list hs
  rw [Vals.ref1 r]
  refine set_of_line ns (I.ok.hd hc) pl.isList (ints_of_vals rv) (by unfold scanBound; omega) fun g tk c R hcn k => ?_
  exact ⟨.ref _, _, I.laid (t' := tk) k (Nat.le_refl _) (setO_new R), rfl, q _ c (I.hok.fresh (Nat.le_refl _)) hcn⟩
/-- sorted(set(line)) as a contract -/
def rSortSet (K : PySem.W.Frag) (w : World) : List V → Hp → VK → Prop := fun vs H Q => rSetLn K w vs H fun v H1 => rSortedSet w [v] H1 Q
theorem pe_sortSet {e : Expr} {es : List Expr} {t : TA} {p p2 pos pos2 : Pos} (hc : X.calm = true) (g1 : Gl X "sorted") (m1 : X.mg "sorted" = none) (b1 : bootBuiltins "sorted" = some (.builtin "sorted")) (g2 : Gl X "set") (m2 : X.mg "set" = none) (b2 : bootBuiltins "set" = some (.type "set"))
    (ha : PA X (e :: es) t) (he : starEach (e :: es) X.env = (false, eval e X.env) :: starEach es X.env := by rfl) (hpl : (backTo pos2 (starEach es X.env)).any (·.1) = false := by rfl) :
    PE X (.Call (.Name "sorted" p) [.Call (.Name "set" p2) (e :: es) [] pos2] [] pos) (tCB (rSortSet X.K X.w) t) :=
  PL.pe_w (pe_callB (cr_sortedSet hc) g1 m1 b1 (pa_cons (pe_callTy (cr_setLn hc) g2 m2 b2 ha (by decide) (by decide) he hpl) pa_nil)) fun σ H Q h => h
end
end L2
namespace PL
open PySem PySem.Spec PyProof.Rows L2
/-- sorted(set(ds)): the members, ascending, each once -/
def sortSetD : List PyData → (Sl → Prop) → Prop
  | [.list ds], P => match intsOf ds with
    | some ns => ns.length < 64 ∧ ∀ ms : List Int, ms.Pairwise (· < ·) → (∀ k, k ∈ ms ↔ k ∈ ns) → P (.m (.ol (ms.map .int)))
    | none => False
  | _, _ => False
theorem o_sortSet {K : PySem.W.Frag} {w : World} : OpL K (rSortSet K w) sortSetD := by
  intro F H xs ds Q P s h p k
  unfold sortSetD at p
  split at p
  · obtain ⟨v, rfl, hv⟩ := h.one
    split at p
    · rename_i ns e
      obtain ⟨a, rfl, hs⟩ := hv.ints_inv (K := K) s e
      refine ⟨a, ns, rfl, hs, by omega, fun q c hq hcn => ⟨q, _, c, rfl, upd_same, by omega, fun ms l h1 h2 h3 hl => ?_⟩⟩
      have gr := Gr.made (o := SetO w q (fun j => decide (j ∈ ns)) c) s hq
      have n := RsNew.ol (K := K) gr.fh hl (FpAll.ints ms)
      exact k _ _ _ F _ (gr.trans (Gr.made gr.fh hl)) ⟨n.1, n.2.1, fun b hb => ⟨(n.2.2 b hb).1, gr.hh.free (n.2.2 b hb).2⟩⟩ (p.2 ms h1 fun j => by rw [h2 j, decide_eq_true_iff])
    · exact p.elim
  · exact p.elim
theorem l_sortSet {X : Cx} {E : Ent} {e : Expr} {es : List Expr} {pa : PAs} {p p2 pos pos2 : Pos} (hc : X.calm = true) (g1 : Gl X "sorted") (m1 : X.mg "sorted" = none) (b1 : bootBuiltins "sorted" = some (.builtin "sorted")) (g2 : Gl X "set") (m2 : X.mg "set" = none) (b2 : bootBuiltins "set" = some (.type "set"))
    (ha : PA X (e :: es) (liftA X.K E pa)) (he : starEach (e :: es) X.env = (false, eval e X.env) :: starEach es X.env := by rfl) (hpl : (backTo pos2 (starEach es X.env)).any (·.1) = false := by rfl) :
    PE X (.Call (.Name "sorted" p) [.Call (.Name "set" p2) (e :: es) [] pos2] [] pos) (liftO X.K E (pCallL sortSetD pa)) :=
  pe_w (pe_sortSet hc g1 m1 b1 g2 m2 b2 ha he hpl) (le_callL o_sortSet)
end PL

namespace PL
open PySem PySem.Spec PyProof.Rows L2

/-! ### 53. isinstance of a still value and a built-in type -/
def tyD : PyData → String
  | .none => "NoneType"
  | .bool _ => "bool"
  | .int _ => "int"
  | .str _ => "str"
  | .list _ => "list"
  | .tuple _ => "tuple"
  | .dict _ => "dict"
/-- what isinstance says of a type's name -/
def isTy (T t : String) : Bool := t == T || (t == "bool" && T == "int")
inductive Tk | bool | int | str | list | tuple
def Tk.s : Tk → String
  | .bool => "bool"
  | .int => "int"
  | .str => "str"
  | .list => "list"
  | .tuple => "tuple"
/-- the same, without a text -/
def isK : Tk → PyData → Bool
  | .bool, .bool _ => true
  | .int, .int _ => true
  | .int, .bool _ => true
  | .str, .str _ => true
  | .list, .list _ => true
  | .tuple, .tuple _ => true
  | _, _ => false
theorem isK_eq (T : Tk) (d : PyData) : isTy T.s (tyD d) = isK T d := by
  cases T <;> cases d <;> simp [isTy, tyD, Tk.s, isK]
def pIsi (T : Tk) (pa : PX) : PO := fun env Q => pa env fun d env1 => Q (.v (.bool (isK T d))) env1
theorem Fp.ty {K : PySem.W.Frag} {F H : Hp} (s : Same F H) {v : V} {d : PyData} (h : Fp F v d) : TyX K H v (.type (tyD d)) := by
  cases h with
  | non => exact .base .non
  | bl b => exact .base (.bl b)
  | int i => exact .base (.int i)
  | str x => exact .base (.str x)
  | lst e _ => exact .base (.lst (s _ _ e))
  | tup e _ => exact .base (.tup (s _ _ e))
/-- the five types that are asked for -/
def KitT (T : String) : Prop := ∀ t ∈ ["NoneType", "bool", "int", "str", "list", "tuple", "dict"], kitB t T = some (isTy T t)
theorem kt_bool : KitT "bool" := by intro t ht; simp only [List.mem_cons, List.not_mem_nil, or_false] at ht; rcases ht with rfl | rfl | rfl | rfl | rfl | rfl | rfl <;> decide +kernel
theorem kt_int : KitT "int" := by intro t ht; simp only [List.mem_cons, List.not_mem_nil, or_false] at ht; rcases ht with rfl | rfl | rfl | rfl | rfl | rfl | rfl <;> decide +kernel
theorem kt_str : KitT "str" := by intro t ht; simp only [List.mem_cons, List.not_mem_nil, or_false] at ht; rcases ht with rfl | rfl | rfl | rfl | rfl | rfl | rfl <;> decide +kernel
theorem kt_list : KitT "list" := by intro t ht; simp only [List.mem_cons, List.not_mem_nil, or_false] at ht; rcases ht with rfl | rfl | rfl | rfl | rfl | rfl | rfl <;> decide +kernel
theorem kt_tuple : KitT "tuple" := by intro t ht; simp only [List.mem_cons, List.not_mem_nil, or_false] at ht; rcases ht with rfl | rfl | rfl | rfl | rfl | rfl | rfl <;> decide +kernel
theorem tyD_mem (d : PyData) : tyD d ∈ ["NoneType", "bool", "int", "str", "list", "tuple", "dict"] := by cases d <;> simp [tyD]
section
variable {X : Cx} {E : Ent} {pa : PX} {p p2 pos : Pos} {e : Expr}
theorem l_isi {T : Tk} {x : Str} (hT : KitT T.s) (hg : Gl X "isinstance") (hm : X.mg "isinstance" = none) (hg2 : Gl X x) (hm2 : X.mg x = none) (hv : bootBuiltins x = some (.type T.s)) (ha : PE X e (liftE X.K E pa)) (hn : x ≠ "__name__" := by decide) (hd : (x == ("__debug__" : Str)) = false := by decide)
    (he : starEach (e :: [.Name x p2]) X.env = (false, eval e X.env) :: starEach [.Name x p2] X.env := by rfl) (hpl : (backTo pos (starEach [.Name x p2] X.env)).any (·.1) = false := by rfl) (hs : starEach (.Name x p2 :: []) X.env = (false, eval (.Name x p2) X.env) :: starEach [] X.env := by rfl) :
    PE X (.Call (.Name "isinstance" p) [e, .Name x p2] [] pos) (liftO X.K E (pIsi T pa)) := by
  refine pe_w (pe_callB (call_isi (X := X)) hg hm (by decide +kernel) (pa_cons ha (pa_cons (pe_bltn (v := .ty T.s) hg2 hm2 hv rfl hn hd) pa_nil hs) he) (by decide) (by decide) he hpl) fun σ H Q ⟨ts, F, env, As, Q', S, fx, p, k⟩ => ?_
  refine ⟨ts, F, env, As, _, S, fx, p, fun v d F1 H1 env1 As1 S1 f1 h q => ?_⟩
  exact ⟨v, .ty T.s, _, _, _, rfl, .ty T.s, h.ty S1.sub, kit_ty ((hT _ (tyD_mem d)).trans (congrArg some (isK_eq T d))), k _ _ [] F1 H1 env1 As1 S1 f1 (RsOk.v (.bl _)) q⟩
end
/-- a def that calls itself, never called -/
theorem fng_no {P : Program} {w : World} {K : PySem.W.Frag} {mg : Str → Option Value} {base : Heap} {CX : CXT} {k n : Nat} {f : Addr} {fd : FuncData} {ps : List Str} {fx : List Nat} (hl : ps.length = n) : FnG P w K mg base CX k f fd ps (liftSp K n fx fun _ _ => False) :=
  ⟨fun vs H Q E h => by rw [h.1, hl], fun A outer s H args us vs Q E _ _ _ _ _ h => by obtain ⟨_, F, a, As, Q', _, _, z, _⟩ := h; exact z.elim⟩
end PL

namespace PL
open PySem PySem.Spec PyProof.Rows L2

/-! ### 54. all arrangements, value by value -/
/-- a value put into each place of a row -/
def putB (v : Int) (l : List Int) : List (List Int) := (List.range (l.length + 1)).map fun s => l.take s ++ [v] ++ l.drop s
/-- all arrangements, value by value -/
def rowsB : Nat → List (List Int)
  | 0 => [[]]
  | n + 1 => (rowsB n).flatMap (putB ((n : Int) + 1))
theorem deck_succ (n : Nat) : deck (n + 1) = deck n ++ [(n : Int) + 1] := by simp [deck, List.range_succ]
theorem putB_perm {v : Int} {l r : List Int} (h : r ∈ putB v l) : r.Perm (l ++ [v]) := by
  obtain ⟨s, _, rfl⟩ := List.mem_map.mp h
  have e : l.take s ++ (l.drop s ++ [v]) = l ++ [v] := by rw [← List.append_assoc, List.take_append_drop]
  rw [List.append_assoc]
  exact (List.Perm.append_left _ List.perm_append_comm).trans (List.Perm.of_eq e)
theorem rowsB_mem : ∀ {n : Nat} {r : List Int}, r ∈ rowsB n ↔ Arr n r := by
  intro n
  induction n with
  | zero =>
    intro r
    show r ∈ [[]] ↔ r.Perm (deck 0)
    rw [List.mem_singleton, show deck 0 = [] from rfl, List.perm_nil]
  | succ n ih =>
    intro r
    show r ∈ (rowsB n).flatMap _ ↔ r.Perm (deck (n + 1))
    rw [List.mem_flatMap, deck_succ]
    constructor
    · rintro ⟨l, hl, hr⟩
      exact (putB_perm hr).trans ((ih.mp hl).append_right _)
    · intro h
      have hm : (n : Int) + 1 ∈ r := h.mem_iff.mpr (List.mem_append_right _ (List.mem_singleton_self _))
      obtain ⟨a, b, rfl⟩ := List.append_of_mem hm
      have h2 : (a ++ b).Perm (deck n) := by
        have h3 : ((n + 1 : Int) :: (a ++ b)).Perm ((n + 1 : Int) :: deck n) := (List.perm_middle.symm.trans h).trans (List.perm_append_singleton _ _)
        exact h3.cons_inv
      refine ⟨a ++ b, ih.mpr h2, List.mem_map.mpr ⟨a.length, List.mem_range.mpr (by rw [List.length_append]; omega), ?_⟩⟩
      rw [List.take_left, List.drop_left, List.append_assoc]
      rfl
theorem rowsB_len : ∀ n, n ≤ 8 → (rowsB n).length ≤ 40320 ∧ (n ≤ 7 → (rowsB n).length ≤ 5040) := by
  have st : ∀ n m, (rowsB n).length ≤ m → (rowsB (n + 1)).length ≤ m * (n + 1) := by
    intro n m h
    refine Nat.le_trans (flatMap_le (m := n + 1) (rowsB n) fun l hl => ?_) (Nat.mul_le_mul_right _ h)
    unfold putB
    rw [List.length_map, List.length_range, (rowsB_mem.mp hl).len]
    exact Nat.le_refl _
  have h0 : (rowsB 0).length ≤ 1 := Nat.le_refl _
  have h1 : (rowsB 1).length ≤ 1 := st 0 _ h0
  have h2 : (rowsB 2).length ≤ 2 := st 1 _ h1
  have h3 : (rowsB 3).length ≤ 6 := st 2 _ h2
  have h4 : (rowsB 4).length ≤ 24 := st 3 _ h3
  have h5 : (rowsB 5).length ≤ 120 := st 4 _ h4
  have h6 : (rowsB 6).length ≤ 720 := st 5 _ h5
  have h7 : (rowsB 7).length ≤ 5040 := st 6 _ h6
  have h8 : (rowsB 8).length ≤ 40320 := st 7 _ h7
  intro n hn
  have : n = 0 ∨ n = 1 ∨ n = 2 ∨ n = 3 ∨ n = 4 ∨ n = 5 ∨ n = 6 ∨ n = 7 ∨ n = 8 := by omega
  rcases this with rfl | rfl | rfl | rfl | rfl | rfl | rfl | rfl | rfl <;> omega
theorem RD.cs {n : Nat} {cs : List (Int × Int)} {k B : Nat} (h : ∀ c ∈ cs, Fit n c) (hn : n ≤ 1000) (hl : cs.length * 3 ≤ B) : RD (.list (cs.map ct)) (k + 2) B := by
  have z := RDA.map (f := ct) (l := cs) (k := k + 1) (B := 2) fun c hc => by
    obtain ⟨h1, h2, h3⟩ := h c hc
    exact (RD.tup (.cons (B := 0) (RD.int (by omega)) (.cons (B := 0) (C := 0) (RD.int (by omega)) .nil))).mono (Nat.le_refl _) (by omega)
  exact (RD.list z).mono (Nat.le_refl _) hl
theorem fitb {n : Nat} {cs : List (Int × Int)} (h : (cs.all fun c => decide (1 ≤ c.1 ∧ c.1 ≤ c.2 ∧ c.2 ≤ n)) = true) : ∀ c ∈ cs, Fit n c := fun c hc => of_decide_eq_true (p := 1 ≤ c.1 ∧ c.1 ≤ c.2 ∧ c.2 ≤ n) (List.all_eq_true.mp h c hc)
end PL

/-! the heap-free meanings of the defs of law_k07_results_without_running, printed by gen.py -/
namespace K07
open PySem PL

/-- check_size(size): slots size 0 -/
def p_check_size : PSt := (pIfS (pTst (pOp2 ltD (pName 0) (pC (.int 1)))) pNever
 pNext)
@[irreducible] def sp_check_size : SpP := spOf [] 0 p_check_size

/-- check_script(size, script): slots size 0, script 1, index 2, first 3, last 4 -/
def p_check_script : PSt := (pB [2, 3, 4] (pFor (itEnum (pACons (pName 1) pANil)) (.tup [(.nm 2), (.tup [(.nm 3), (.nm 4)])]) (pW [2, 3, 4] (pIfS (pNot (pTst (pChain3 leD leD leD (pC (.int 1)) (pName 3) (pName 4) (pName 0)))) pNever
 pNext))))
@[irreducible] def sp_check_script : SpP := spOf [] 3 p_check_script

/-- check_arrangement(row): slots row 0, seen 1, index 2, value 3 -/
def p_check_arrangement : PSt := (pSeq (pSet 1 pDNew)
 (pB [2, 3] (pFor (itEnum (pACons (pName 0) pANil)) (.tup [(.nm 2), (.nm 3)]) (pW [2, 3] (pSeq (pIfS (pOr (pNot (pTst (pChain leD leD (pC (.int 1)) (pName 3) (pLenM 0)))) (pTst (pDIn 1 (pName 3)))) pNever
 pNext)
 (pDPut 1 (pName 3) (pC (.bool true))))))))
@[irreducible] def sp_check_arrangement : SpP := spOf [] 3 p_check_arrangement

/-- after_command(row, command): slots row 0, command 1, first 2, last 3 -/
def p_after_command : PSt := (pSeq (pUnp (.tup [(.nm 2), (.nm 3)]) (pName 1))
 (pRet (pCallL listD (pAStar (pE (pSliceN 0 pNoB (pBd (pE (pOp2 subD (pName 2) (pC (.int 1))))))) (pAStar (pE (pCallL sortedD (pACons (pE (pSliceN 0 (pBd (pE (pOp2 subD (pName 2) (pC (.int 1))))) (pBd (pName 3)))) pANil))) (pAStar (pE (pSliceN 0 (pBd (pName 3)) pNoB)) pANil))))))
@[irreducible] def sp_after_command : SpP := spOf [] 2 p_after_command

/-- after_script(row, script): slots row 0, script 1, found 2, command 3 -/
def p_after_script : PSt := (pSeq (pSet 2 (pCallL copyD (pACons (pName 0) pANil)))
 (pSeq (pB [0, 3] (pFor (itList (pName 1)) (.nm 3) (pW [0, 3] (pSet 2 (pCall 2 [] sp_after_command (pACons (pName 2) (pACons (pName 3) pANil)))))))
 (pRetName 2)))
@[irreducible] def sp_after_script : SpP := spOf [] 2 p_after_script

/-- descending(size): slots size 0 -/
def p_descending : PSt := (pRet (pListRng (pACons (pName 0) (pACons (pC (.int 0)) (pACons (pE (pOp1 negD (pC (.int 1)))) pANil)))))
@[irreducible] def sp_descending : SpP := spOf [] 0 p_descending

/-- effect_in(size, commands): slots size 0, commands 1 -/
def p_effect_in : PSt := (pRet (pCall 2 [] sp_after_script (pACons (pE (pCall 1 [] sp_descending (pACons (pName 0) pANil))) (pACons (pName 1) pANil))))
@[irreducible] def sp_effect_in : SpP := spOf [] 0 p_effect_in

/-- counts_of(wanted): slots wanted 0, size 1, table 2, ones 3, row 4, value 5 -/
def p_counts_of : PSt := (pSeq (pSet 1 (pV (pLenM 0)))
 (pSeq (pSet 2 (pCallL listD pANil))
 (pSeq (pB [3, 4, 5] (pFor (itRng1 (pACons (pE (pOp2 addD (pName 1) (pC (.int 1)))) pANil)) (.nm 3) (pW [3, 4, 5] (pSeq (pSet 4 (pCallL listD (pACons (pC (.int 0)) pANil)))
 (pSeq (pB [5] (pFor (itList (pName 0)) (.nm 5) (pW [5] (pDrop (pV (pMeth 4 appendD (pACons (pE (pOp2 addD (pIxN 4 (pE (pOp1 negD (pC (.int 1))))) (pE (pCallL intD (pACons (pE (pOp2 leD (pName 5) (pE (pOp2 subD (pName 1) (pName 3))))) pANil))))) pANil)))))))
 (pDrop (pV (pMeth 2 appendD (pACons (pName 4) pANil)))))))))
 (pRetName 2))))
@[irreducible] def sp_counts_of : SpP := spOf [] 5 p_counts_of

/-- led(zeros, table): slots zeros 0, table 1, places 2, place 3, start 4 -/
def p_led : PSt := (pSeq (pSet 2 (pListRng (pACons (pLenM 0) pANil)))
 (pRet (pLc (itList (pName 2)) (.nm 3) pYes (pE (pCallL minD (pACons (pE (pLc (itList (pName 2)) (.nm 4) pYes (pE (pOp2 addD (pIxN 0 (pName 4)) (pE (pOp2 ixD (pIxN 1 (pName 4)) (pName 3))))) [4])) pANil))) [3])))
@[irreducible] def sp_led : SpP := spOf [] 3 p_led

/-- result_in(row, table): slots row 0, table 1, found 2, before 3, value 4, zeros 5, other 6, after 7, place 8, is_here 9 -/
def p_result_in : PSt := (pSeq (pSet 2 (pOp2 mulD (pE (pCallL listD (pACons (pC .none) pANil))) (pLenM 0)))
 (pSeq (pSet 3 (pOp2 mulD (pE (pCallL listD (pACons (pC (.int 0)) pANil))) (pE (pOp2 addD (pLenM 0) (pC (.int 1))))))
 (pSeq (pB [4, 5, 6, 7, 8, 9] (pFor (itList (pE (pCallL sortSetD (pACons (pName 0) pANil)))) (.nm 4) (pW [4, 5, 6, 7, 8, 9] (pSeq (pSet 5 (pCallL listD (pACons (pC (.int 0)) pANil)))
 (pSeq (pB [6, 7, 8, 9] (pFor (itList (pName 0)) (.nm 6) (pW [6, 7, 8, 9] (pDrop (pV (pMeth 5 appendD (pACons (pE (pOp2 addD (pIxN 5 (pE (pOp1 negD (pC (.int 1))))) (pE (pCallL intD (pACons (pE (pOp2 leD (pName 6) (pName 4))) pANil))))) pANil)))))))
 (pSeq (pSet 7 (pCall 2 [] sp_led (pACons (pName 5) (pACons (pName 1) pANil))))
 (pSeq (pB [5, 6, 8, 9] (pFor (itRng1 (pACons (pLenM 0) pANil)) (.nm 8) (pW [5, 6, 8, 9] (pSeq (pSet 9 (pV (pE (pOp2 gtD (pE (pOp2 subD (pIxN 7 (pE (pOp2 addD (pName 8) (pC (.int 1))))) (pIxN 7 (pName 8)))) (pE (pOp2 subD (pIxN 3 (pE (pOp2 addD (pName 8) (pC (.int 1))))) (pIxN 3 (pName 8))))))))
 (pIfS (pTst (pV (pName 9))) (pSetIx 2 (pName 8) (pName 4))
 pNext)))))
 (pSet 3 (pV (pName 7))))))))))
 (pRetName 2))))
@[irreducible] def sp_result_in : SpP := spOf [] 8 p_result_in

/-- effect(size, commands): slots size 0, commands 1 -/
def p_effect : PSt := (pSeq (pDrop (pCall 1 [] sp_check_size (pACons (pName 0) pANil)))
 (pSeq (pDrop (pCall 2 [] sp_check_script (pACons (pName 0) (pACons (pName 1) pANil))))
 (pRet (pCall 2 [] sp_effect_in (pACons (pName 0) (pACons (pName 1) pANil))))))
@[irreducible] def sp_effect : SpP := spOf [] 0 p_effect

/-- result(row, wanted): slots row 0, wanted 1 -/
def p_result : PSt := (pSeq (pDrop (pCall 1 [] sp_check_arrangement (pACons (pName 1) pANil)))
 (pSeq (pIfS (pTst (pOp2 neD (pLenM 0) (pLenM 1))) pNever
 pNext)
 (pRet (pCall 2 [] sp_result_in (pACons (pName 0) (pACons (pE (pCall 1 [] sp_counts_of (pACons (pName 1) pANil))) pANil))))))
@[irreducible] def sp_result : SpP := spOf [] 0 p_result

/-- _law_source(script): slots script 0, mix 1, digits 2, cell 3, span 4 -/
def p_law_source : PSt := (pSeq (pSet 1 (pV (pC (.int 271828182845904))))
 (pSeq (pSet 2 (pCallL listD pANil))
 (pSeq (pB [3, 4] (pFor (itScr 0) (.nm 3) (pW [3, 4] (pSeq (pSet 1 (pOp2 modD (pE (pOp2 addD (pE (pOp2 mulD (pName 1) (pC (.int 1000033)))) (pName 3))) (pE (pOp2 subD (pE (pOp2 powD (pC (.int 2)) (pC (.int 61)))) (pC (.int 1))))))
 (pSeq (pSet 4 (pV (pE (pCallL maxD (pACons (pName 3) (pACons (pE (pOp2 subD (pC (.int 0)) (pName 3))) pANil))))))
 (pIfS (pTst (pOp2 geD (pName 4) (pE (pOp2 powD (pC (.int 10)) (pC (.int 18)))))) (pDrop (pV (pMeth 2 appendD (pACons (pE (pOp2 subD (pName 4) (pE (pOp2 powD (pC (.int 10)) (pC (.int 18)))))) pANil))))
 pNext))))))
 (pRet (pLstO (pOCons (pMove 2) (pOCons (pV (pC (.int 0))) (pOCons (pV (pName 1)) (pOCons (pV (pC (.int 0))) pONil)))))))))
@[irreducible] def sp_law_source : SpP := spOf [0] 4 p_law_source

/-- _law_draw(source, many): slots source 0, many 1, drawn 2, mixed 3 -/
def p_law_draw : PSt := (pSeq (pB [2, 3] (pWhile (pBorT [0] (pAnd (pTst (pOp2 ltD (pIxN 0 (pC (.int 1))) (pC (.int 2)))) (pTst (pOp2 neD (pIxN 0 (pC (.int 0))) (pE (pCallL listD pANil)))))) (pW [2, 3] (pSetIx 0 (pC (.int 1)) (pMethL 0 popAtD [.int 0] (pC (.int 0)))))))
 (pSeq (pIfS (pBorT [0] (pTst (pOp2 geD (pIxN 0 (pC (.int 1))) (pC (.int 2))))) (pSeq (pSet 2 (pOp2 modD (pIxN 0 (pC (.int 1))) (pName 1)))
 (pSeq (pSetIx 0 (pC (.int 1)) (pE (pOp2 fdivD (pIxN 0 (pC (.int 1))) (pName 1))))
 (pRetName 2)))
 pNext)
 (pSeq (pSetIx 0 (pC (.int 3)) (pE (pOp2 addD (pIxN 0 (pC (.int 3))) (pC (.int 1)))))
 (pSeq (pSet 3 (pOp2 mulD (pE (pOp2 addD (pIxN 0 (pC (.int 2))) (pC (.int 7)))) (pE (pOp2 powD (pE (pOp2 addD (pIxN 0 (pC (.int 3))) (pC (.int 3)))) (pC (.int 3))))))
 (pSeq (pSet 3 (pOp2 modD (pE (pOp2 addD (pName 3) (pE (pOp2 mulD (pC (.int 1000081)) (pIxN 0 (pC (.int 3))))))) (pE (pOp2 subD (pE (pOp2 powD (pC (.int 2)) (pC (.int 61)))) (pC (.int 1))))))
 (pRet (pOp2 modD (pE (pOp2 fdivD (pE (pOp2 modD (pE (pOp2 powD (pName 3) (pC (.int 5)))) (pE (pOp2 addD (pE (pOp2 powD (pC (.int 10)) (pC (.int 18)))) (pC (.int 9)))))) (pC (.int 128)))) (pName 1))))))))
@[irreducible] def sp_law_draw : SpP := spOf [0] 2 p_law_draw

/-- _law_same(found, due): slots found 0, due 1, k 2 -/
def p_law_same (self : SpP) : PSt := (pSeq (pIfS (pTst (pOp2 isD (pName 1) (pC .none))) (pRet (pV (pE (pOp2 isD (pName 0) (pC .none)))))
 pNext)
 (pSeq (pIfS (pTst (pIsi .bool (pName 1))) (pRet (pV (pAndV (pE (pIsi .bool (pName 0))) (pE (pOp2 eqD (pName 0) (pName 1))))))
 pNext)
 (pSeq (pIfS (pTst (pIsi .int (pName 1))) (pRet (pV (pAndV (pE (pIsi .int (pName 0))) (pAndV (pNotV (pE (pIsi .bool (pName 0)))) (pE (pOp2 eqD (pName 0) (pName 1)))))))
 pNext)
 (pSeq (pIfS (pTst (pIsi .str (pName 1))) (pRet (pV (pAndV (pE (pIsi .str (pName 0))) (pE (pOp2 eqD (pName 0) (pName 1))))))
 pNext)
 (pSeq (pIfS (pTst (pOp2 neD (pE (pIsi .list (pName 0))) (pE (pIsi .list (pName 1))))) (pRet (pV (pC (.bool false))))
 pNext)
 (pSeq (pIfS (pOr (pTst (pOp2 neD (pE (pIsi .tuple (pName 0))) (pE (pIsi .tuple (pName 1))))) (pTst (pOp2 neD (pLenM 0) (pLenM 1)))) (pRet (pV (pC (.bool false))))
 pNext)
 (pRet (pV (pE (pOp2 eqD (pE (pLc (itRng1 (pACons (pLenM 1) pANil)) (.nm 2) (pNot (pTst (pCall 2 [] self (pACons (pIxN 0 (pName 2)) (pACons (pIxN 1 (pName 2)) pANil))))) (pName 2) [2])) (pE (pCallL listD pANil))))))))))))
def spr_law_same : Nat → SpP
  | 0 => fun _ _ => False
  | d + 1 => spOf [] 1 (p_law_same (spr_law_same d))
@[irreducible] def sp_law_same : SpP := spr_law_same 6

/-- _law_script(source, size_here, most): slots source 0, size_here 1, most 2, found 3, way 4, time 5, low 6, far 7, high 8 -/
def p_law_script : PSt := (pSeq (pPar [3, 4] (pOCons (pCallL listD pANil) (pOCons (pCall 2 [0] sp_law_draw (pALend 0 (pACons (pC (.int 4)) pANil))) pONil)))
 (pSeq (pB [5, 6, 7, 8] (pFor (itRng1 (pACons (pE (pCall 2 [0] sp_law_draw (pALend 0 (pACons (pE (pOp2 addD (pName 2) (pC (.int 1)))) pANil)))) pANil)) (.nm 5) (pW [5, 6, 7, 8] (pSeq (pSet 6 (pOp2 addD (pC (.int 1)) (pE (pCall 2 [0] sp_law_draw (pALend 0 (pACons (pName 1) pANil))))))
 (pSeq (pSet 7 (pOp2 ixD (pE (pCallL listD (pACons (pName 1) (pACons (pE (pCallL minD (pACons (pName 1) (pACons (pE (pOp2 addD (pName 6) (pC (.int 3)))) pANil)))) (pACons (pE (pCallL minD (pACons (pName 1) (pACons (pE (pOp2 addD (pName 6) (pC (.int 1)))) pANil)))) (pACons (pName 1) pANil)))))) (pName 4)))
 (pSeq (pSet 8 (pOp2 addD (pName 6) (pE (pCall 2 [0] sp_law_draw (pALend 0 (pACons (pE (pOp2 addD (pE (pOp2 subD (pName 7) (pName 6))) (pC (.int 1)))) pANil))))))
 (pSeq (pIfS (pTst (pOp2 eqD (pName 4) (pC (.int 3)))) (pSet 6 (pOp2 addD (pC (.int 1)) (pE (pCall 2 [0] sp_law_draw (pALend 0 (pACons (pE (pOp2 addD (pC (.int 1)) (pE (pOp2 fdivD (pName 6) (pC (.int 4)))))) pANil))))))
 pNext)
 (pDrop (pV (pMeth 3 appendD (pACons (pE (pCallL tupD (pACons (pName 6) (pACons (pName 8) pANil)))) pANil)))))))))))
 (pRetName 3)))
@[irreducible] def sp_law_script : SpP := spOf [0] 6 p_law_script

/-- _law_after(line, acts): slots line 0, acts 1, low 2, high 3 -/
def p_law_after : PSt := (pSeq (pSet 0 (pCallL copyD (pACons (pName 0) pANil)))
 (pSeq (pB [2, 3] (pFor (itList (pName 1)) (.tup [(.nm 2), (.nm 3)]) (pW [2, 3] (pSet 0 (pOp2 addD (pE (pOp2 addD (pE (pSliceN 0 pNoB (pBd (pE (pOp2 subD (pName 2) (pC (.int 1))))))) (pE (pCallL sortedD (pACons (pE (pSliceN 0 (pBd (pE (pOp2 subD (pName 2) (pC (.int 1))))) (pBd (pName 3)))) pANil))))) (pE (pSliceN 0 (pBd (pName 3)) pNoB)))))))
 (pRetName 0)))
@[irreducible] def sp_law_after : SpP := spOf [] 2 p_law_after

/-- _law_values(source, size_here): slots source 0, size_here 1, far 2, shift 3, time 4 -/
def p_law_values : PSt := (pSeq (pSet 2 (pOp2 ixD (pE (pCallL listD (pACons (pC (.int 2)) (pACons (pC (.int 5)) (pACons (pC (.int 60)) (pACons (pE (pOp2 powD (pC (.int 10)) (pC (.int 30)))) pANil)))))) (pE (pCall 2 [0] sp_law_draw (pALend 0 (pACons (pC (.int 4)) pANil))))))
 (pSeq (pSet 3 (pOp2 ixD (pE (pCallL listD (pACons (pC (.int 0)) (pACons (pE (pOp2 subD (pC (.int 0)) (pE (pOp2 fdivD (pName 2) (pC (.int 2)))))) (pACons (pE (pOp2 subD (pC (.int 0)) (pName 2))) pANil))))) (pE (pCall 2 [0] sp_law_draw (pALend 0 (pACons (pC (.int 3)) pANil))))))
 (pRet (pLc (itRng1 (pACons (pName 1) pANil)) (.nm 4) pYes (pE (pOp2 addD (pE (pCall 2 [0] sp_law_draw (pALend 0 (pACons (pName 2) pANil)))) (pName 3))) [4]))))
@[irreducible] def sp_law_values : SpP := spOf [0] 3 p_law_values

/-- law(script): slots script 0, source 1, k 2, size_here 3, acts 4, wanted 5, time 6, line 7, due 8, saved 9, told 10, double 11, pair 12 -/
def p_law : PSt := (pSeq (pSet 1 (pCall 1 [0] sp_law_source (pALend 0 pANil)))
 (pSeq (pB [2, 3, 4, 5, 6, 7, 8, 9, 10, 11, 12] (pFor (itRng1 (pACons (pE (pOp2 addD (pC (.int 2)) (pE (pCallL minD (pACons (pC (.int 4)) (pACons (pLenM 0) pANil)))))) pANil)) (.nm 2) (pW [2, 3, 4, 5, 6, 7, 8, 9, 10, 11, 12] (pSeq (pSet 3 (pOp2 addD (pC (.int 1)) (pE (pCall 2 [0] sp_law_draw (pALend 1 (pACons (pE (pOp2 ixD (pE (pCallL listD (pACons (pC (.int 6)) (pACons (pC (.int 25)) (pACons (pC (.int 60)) pANil))))) (pE (pCall 2 [0] sp_law_draw (pALend 1 (pACons (pC (.int 3)) pANil)))))) pANil))))))
 (pSeq (pSet 4 (pCall 3 [0] sp_law_script (pALend 1 (pACons (pName 3) (pACons (pE (pOp2 ixD (pE (pCallL listD (pACons (pC (.int 12)) (pACons (pC (.int 200)) pANil)))) (pE (pCall 2 [0] sp_law_draw (pALend 1 (pACons (pC (.int 2)) pANil)))))) pANil)))))
 (pSeq (pSet 5 (pCall 2 [] sp_effect (pACons (pName 3) (pACons (pName 4) pANil))))
 (pB [2, 6, 7, 8, 9, 10, 11, 12] (pFor (itRng1 (pACons (pC (.int 3)) pANil)) (.nm 6) (pW [2, 6, 7, 8, 9, 10, 11, 12] (pSeq (pSet 7 (pCall 2 [0] sp_law_values (pALend 1 (pACons (pName 3) pANil))))
 (pSeq (pPar [8, 9] (pOCons (pCall 2 [] sp_law_after (pACons (pName 7) (pACons (pName 4) pANil))) (pOCons (pV (pE (pCallL reprD (pACons (pE (pCallL listD (pACons (pName 7) (pACons (pName 5) pANil)))) pANil)))) pONil)))
 (pSeq (pSet 10 (pCall 2 [] sp_result (pACons (pName 7) (pACons (pName 5) pANil))))
 (pSeq (pIfS (pBorT [0, 1, 5, 7, 8, 9, 10, 11] (pOr (pNot (pTst (pCall 2 [] sp_law_same (pACons (pName 10) (pACons (pName 8) pANil))))) (pTst (pOp2 neD (pE (pCallL reprD (pACons (pE (pCallL listD (pACons (pName 7) (pACons (pName 5) pANil)))) pANil))) (pName 9))))) (pRet (pV (pC (.bool false))))
 pNext)
 (pSeq (pDrop (pV (pMeth 10 appendD (pACons (pC (.int 5)) pANil))))
 (pSeq (pDrop (pV (pMeth0 10 reverseD)))
 (pSeq (pSet 11 (pCallL listD pANil))
 (pSeq (pB [2, 6, 9, 10, 12] (pFor (itList (pE (pSliceN 4 pNoB (pBd (pC (.int 100)))))) (.nm 12) (pW [2, 6, 9, 10, 12] (pDrop (pV (pMeth 11 extendD (pACons (pE (pCallL listD (pACons (pName 12) (pACons (pName 12) pANil)))) pANil)))))))
 (pIfS (pBorT [0, 1, 3, 4, 5, 7, 8, 10, 11] (pOr (pTst (pOp2 neD (pE (pCall 2 [] sp_result (pACons (pName 7) (pACons (pName 5) pANil)))) (pName 8))) (pTst (pOp2 neD (pE (pCall 2 [] sp_effect (pACons (pName 3) (pACons (pName 11) pANil)))) (pE (pCall 2 [] sp_effect (pACons (pName 3) (pACons (pE (pSliceN 4 pNoB (pBd (pC (.int 100))))) pANil)))))))) (pRet (pV (pC (.bool false))))
 pNext))))))))))))))))))
 (pRet (pV (pE (pOp2 eqD (pE (pCall 2 [] sp_result (pACons (pE (pCallL listD (pACons (pC (.int 5)) (pACons (pC (.int 5)) (pACons (pC (.int 1)) pANil))))) (pACons (pE (pCallL listD (pACons (pC (.int 2)) (pACons (pC (.int 1)) (pACons (pC (.int 3)) pANil))))) pANil)))) (pE (pCallL listD (pACons (pC (.int 5)) (pACons (pC (.int 1)) (pACons (pC (.int 5)) pANil)))))))))))
@[irreducible] def sp_law : SpP := spOf [0] 12 p_law

end K07

namespace K07
open PySem PL PySem.W L2
local macro_rules | `(tactic| walk_at "len") => `(tactic| first
  | omega
  | (simp only [List.length_map, List.length_append, List.length_cons, List.length_nil, List.length_take, List.length_drop, List.length_range, List.length_reverse, falls_len, deck_len, rangeD_len, List.length_replicate]; omega))
local macro_rules | `(tactic| walk_at "side") => `(tactic| first
  | walk_at "len"
  | exact lt_line (by walk_at "len")
  | exact le_line (by walk_at "len")
  | exact RgOk.of_le (by omega) (by walk_at "len") (by omega) (by walk_at "len")
  | exact And.intro rfl (RgOk.of_le (by omega) (by omega) (by omega) (by omega))
  | exact mul_ok (by omega) (by omega)
  | exact div_ok (by omega) (by omega)
  | exact pow_ok (by omega) (by omega) (by omega)
  | exact And.intro (by walk_at "len") (And.intro (by walk_at "len") (le_line (by walk_at "len")))
  | exact And.intro (lt_line (by walk_at "len")) (And.intro (by omega) (by omega))
  | exact okd_int _
  | exact And.intro (okd_lc _) (okd_lc _)
  | exact And.intro (okd_ct _) (okd_ct _))
local macro_rules | `(tactic| walk_at "go") => `(tactic| ((conv => whnf) <;> first
  | (guard_target =~ sel _ _ _; first
     | ((with_reducible refine sel_t (c := true) rfl ?_); walk_at "go")
     | ((with_reducible refine sel_f (c := false) rfl ?_); walk_at "go")
     | ((with_reducible refine sel_t (c := !false) Bool.not_false ?_); walk_at "go")
     | ((with_reducible refine sel_f (c := !true) Bool.not_true ?_); walk_at "go")
     | (guard_target =~ sel (isNone _) _ _; first | (refine sel_t rfl ?_; walk_at "go") | (refine sel_f rfl ?_; walk_at "go"))
     | (guard_target =~ sel (!isNone _) _ _; first | (refine sel_t rfl ?_; walk_at "go") | (refine sel_f rfl ?_; walk_at "go"))
     | (refine sel_t (decide_eq_true (by omega)) ?_; walk_at "go")
     | (refine sel_f (decide_eq_false (by omega)) ?_; walk_at "go")
     | (refine sel_t (by decide) ?_; walk_at "go")
     | (refine sel_f (by decide) ?_; walk_at "go")
     | (refine sel_t rfl ?_; walk_at "go")
     | (refine sel_f rfl ?_; walk_at "go")
     | skip)
  | (refine Exists.intro _ (And.intro rfl ?_); walk_at "go")
  | (refine And.intro rfl ?_; walk_at "go")
  | (refine And.intro (Exists.intro _ rfl) ?_; walk_at "go")
  | (refine And.intro (a := lentIn _ _ _ = true ∧ (lents _).Nodup) (And.intro rfl ?_) ?_; (focus (simp [lents, perm]; done)); walk_at "go")
  | (refine And.intro (a := okd _ = true ∧ okd _ = true) (And.intro ?_ ?_) ?_; (focus (first | rfl | exact okd_li _ | exact okd_ll _ | exact okd_lc _ | exact okd_ct _)); (focus (first | rfl | exact okd_li _ | exact okd_ll _ | exact okd_lc _ | exact okd_ct _)); walk_at "go")
  | (refine And.intro (a := okB _ _ _ = true) ?_ ?_; (focus (simp [okB, allI, frzP, mapI, frzSl, lookS, okSl, flatM, flatMs, flatKs, flatD, d_ol, backB]; done)); walk_at "go")
  | (refine And.intro (a := flatD _ = true ∧ okB _ _ _ = true) (And.intro rfl ?_) ?_; (focus (simp [okB, allI, frzP, mapI, frzSl, lookS, okSl, flatM, flatMs, flatKs, flatD, d_ol, backB]; done)); walk_at "go")
  | (refine And.intro (And.intro ?_ ?_) ?_; (focus (decide)); (focus (decide)); walk_at "go")
  | (refine And.intro ?_ ?_; (focus (decide)); walk_at "go")
  | (refine And.intro (Nat.le_of_ble_eq_true rfl) ?_; walk_at "go")
  | (refine And.intro ?_ ?_; (focus (walk_at "side")); walk_at "go")
  | skip))
local macro_rules | `(tactic| walk_at "nf") => `(tactic| simp only [perm, List.filterMap_cons, List.filterMap_nil, List.getElem?_cons_zero, List.getElem?_cons_succ, backA, setDs, setAll, wipeP, List.set_cons_zero, List.set_cons_succ, List.cons_append, List.nil_append, List.replicate])
local macro_rules | `(tactic| walk_at "st") => `(tactic| ((try walk_at "nf"); walk_at "go"))

/-- a source of draws; how often it was drawn from -/
abbrev srcM (gs : List Int) (l b t : Int) : MO := .lst [.ol (gs.map .int), .fz (.int l), .fz (.int b), .fz (.int t)]
@[simp] theorem d_src (ds : List PyData) (a b c : PyData) : MO.d? (.lst [.ol ds, .fz a, .fz b, .fz c]) = some (.list [.list ds, a, b, c]) := rfl
def Bg (s : Sl) (n : Nat) : Prop := ∃ (gs : List Int) (l b t : Int), s = .m (srcM gs l b t) ∧ (0 ≤ t ∧ t ≤ n) ∧ 0 ≤ b ∧ b < 2 ^ 61
theorem Bg.m {s : Sl} {n : Nat} (h : Bg s n) : ∃ c, s = .m c := by
  obtain ⟨_, _, _, _, rfl, _⟩ := h
  exact ⟨_, rfl⟩
theorem Bg.mono {s : Sl} {n m : Nat} (h : Bg s n) (e : n ≤ m) : Bg s m := by
  obtain ⟨_, _, _, _, rfl, h1, h2⟩ := h
  exact ⟨_, _, _, _, rfl, by omega, h2⟩
theorem draw_ok {s : Sl} {n : Nat} {l : Int} {Q : Sl → List Sl → Prop} (hs : Bg s n) (hn : n ≤ 2 ^ 30) (h0 : 0 < l) (h1 : l < 2 ^ 250) (k : ∀ r s', 0 ≤ r → r < l → Bg s' (n + 1) → Q (.v (.int r)) [s', .v (.int l)]) : sp_law_draw [s, .v (.int l)] Q := by
  obtain ⟨gs, lf, b, t, rfl, t1, b1⟩ := hs
  unfold sp_law_draw
  have lg : l.natAbs.log2 < 9000 := Nat.lt_trans (log2_lt_of (k := 250) (by omega) (by decide)) (by decide)
  have p3 : ((t + 1 + 3) ^ Int.toNat 3).natAbs < 2 ^ 100 := by
    show ((t + 1 + 3) ^ 3).natAbs < _
    rw [Int.natAbs_pow]
    exact Nat.lt_of_le_of_lt (Nat.pow_le_pow_left (show (t + 1 + 3).natAbs ≤ 2 ^ 31 by omega) 3) (by decide)
  walk_at "go"
  refine while_inv (fun m env => ∃ (gs : List Int) (lf : Int), env = [.m (srcM gs lf b t), .v (.int l), .un, .un] ∧ m = gs.length) gs.length ⟨gs, lf, rfl, rfl⟩ ?_
  rintro m e ⟨gs, lf, rfl, rfl⟩
  walk_at "go"
  refine sel_by (fun h => ?_) (fun h => ?_)
  · have hlf := of_decide_eq_true h
    walk_at "go"
    cases gs with
    | cons g gs =>
      walk_at "go"
      refine ⟨0, .int g, seqIndex_nat (Int.le_refl 0) (by simp), rfl, ?_⟩
      walk_at "go"
      exact ⟨gs.length, by simp, gs, g, rfl, rfl⟩
    | nil =>
      walk_at "go"
      generalize hm : ((b + 7) * (t + 1 + 3) ^ Int.toNat 3 + 1000081 * (t + 1)) % (2 ^ Int.toNat 61 - 1) = m
      have m0 : 0 ≤ m := by rw [← hm]; exact Int.emod_nonneg _ (by decide)
      have m1 : m < 2305843009213693951 := by rw [← hm]; exact Int.emod_lt_of_pos _ (by decide)
      refine ⟨pow_ok (by omega) (by decide) (by decide), ?_⟩
      walk_at "go"
      exact k _ _ (Int.emod_nonneg _ (by omega)) (Int.emod_lt_of_pos _ h0) ⟨[], lf, b, t + 1, rfl, by omega, b1⟩
  · have hlf := of_decide_eq_false h
    walk_at "go"
    exact k _ _ (Int.emod_nonneg _ (by omega)) (Int.emod_lt_of_pos _ h0) ⟨gs, lf / l, b, t, rfl, by omega, b1⟩
theorem source_ok {ns : List Int} {Q : Sl → List Sl → Prop} (hn : ns.length ≤ 63) (k : ∀ s', Bg s' 0 → Q s' [.m (.scr ns)]) : sp_law_source [.m (.scr ns)] Q := by
  unfold sp_law_source
  walk_at "go"
  refine forL_inv (fun i env => ∃ (b : Int) (gs : List Int), env = [.m (.scr ns), .v (.int b), .m (.ol (gs.map .int)), .un, .un] ∧ (0 ≤ b ∧ b < 2 ^ 61) ∧ gs.length ≤ i) ⟨271828182845904, [], rfl, by omega, by simp⟩ ?_ ?_
  · rintro i d e G hd ⟨b, gs, rfl, hb, hl⟩ hG
    obtain ⟨x, hx, rfl⟩ := map_get hd
    have hi := (List.getElem?_eq_some_iff.mp hx).1
    have b2 : 0 ≤ (b * 1000033 + x) % 2305843009213693951 ∧ (b * 1000033 + x) % 2305843009213693951 < 2 ^ 61 := ⟨Int.emod_nonneg _ (by decide), Int.lt_trans (Int.emod_lt_of_pos _ (by decide)) (by decide)⟩
    walk_at "go"
    refine sel_by (fun h => ?_) (fun h => ?_)
    · walk_at "go"
      refine hG _ ⟨_, gs ++ [(if 0 - x > x then 0 - x else x) - 10 ^ Int.toNat 18], ?_, b2, by simp; omega⟩
      rw [List.map_append]
      rfl
    · walk_at "go"
      exact hG _ ⟨_, gs, rfl, b2, by omega⟩
  · rintro e ⟨b, gs, rfl, hb, hl⟩
    walk_at "go"
    exact k _ ⟨gs, 0, b, 0, rfl, by omega, hb⟩
theorem script_ok {s : Sl} {n many most : Nat} {Q : Sl → List Sl → Prop} (hs : Bg s n) (hn : n + 3 * most + 5 ≤ 2 ^ 30) (h0 : 1 ≤ many) (hm : many ≤ 30000) (hmo : most ≤ 30000)
    (k : ∀ (cs : List (Int × Int)) s', cs.length ≤ most → (∀ c ∈ cs, Fit many c) → Bg s' (n + 3 * most + 5) → Q (.m (.ol (cs.map ct))) [s', .v (.int many), .v (.int most)]) : sp_law_script [s, .v (.int many), .v (.int most)] Q := by
  unfold sp_law_script
  obtain ⟨c0, rfl⟩ := hs.m
  walk_at "go"
  refine draw_ok hs (by omega) (by omega) (by omega) fun way s_way way0 way1 g1 => ?_
  obtain ⟨c_way, rfl⟩ := g1.m
  walk_at "st"
  refine draw_ok g1 (by omega) (by omega) (by omega) fun t s_t t0 t1 g2 => ?_
  obtain ⟨c_t, rfl⟩ := g2.m
  walk_at "st"
  refine forL_inv (fun i env => ∃ (s' : Sl) (cs : List (Int × Int)), env = [s', .v (.int many), .v (.int most), .m (.ol (cs.map ct)), .v (.int way), .un, .un, .un, .un] ∧ Bg s' (n + 2 + 3 * i) ∧ cs.length = i ∧ ∀ c ∈ cs, Fit many c) ⟨_, [], rfl, g2, by simp, fit_nil⟩ ?_ ?_
  · rintro i d e G hd ⟨s', cs, rfl, g, hl, hf⟩ hG
    obtain ⟨hi, rfl⟩ := rangeD_at hd
    obtain ⟨c1, rfl⟩ := g.m
    walk_at "go"
    refine draw_ok g (by omega) (by omega) (by omega) fun b s_b b0 b1 g3 => ?_
    obtain ⟨c_b, rfl⟩ := g3.m
    walk_at "st"
    have tb : ∃ m : Int, atI [PyData.int many, .int (if 1 + b + 3 < many then 1 + b + 3 else many), .int (if 1 + b + 1 < many then 1 + b + 1 else many), .int many] way = some (.int m) ∧ 1 + b ≤ m ∧ m ≤ many := by
      have : way = 0 ∨ way = 1 ∨ way = 2 ∨ way = 3 := by omega
      rcases this with rfl | rfl | rfl | rfl
      · exact ⟨_, rfl, by omega, by omega⟩
      · exact ⟨_, rfl, by split <;> omega, by split <;> omega⟩
      · exact ⟨_, rfl, by split <;> omega, by split <;> omega⟩
      · exact ⟨_, rfl, by omega, by omega⟩
    obtain ⟨m, em, m0, m1⟩ := tb
    refine ⟨_, em, ?_⟩
    walk_at "go"
    refine draw_ok g3 (by omega) (by omega) (by omega) fun w s_w w0 w1 g4 => ?_
    obtain ⟨c_w, rfl⟩ := g4.m
    walk_at "st"
    have ec : ∀ x y : Int, cs.map ct ++ [.tuple [.int x, .int y]] = (cs ++ [(x, y)]).map ct := by
      intro x y
      rw [List.map_append]
      rfl
    refine sel_by (fun h => ?_) (fun h => ?_)
    · walk_at "go"
      refine draw_ok g4 (by omega) (by omega) (by omega) fun v s_v v0 v1 g5 => ?_
      obtain ⟨c_v, rfl⟩ := g5.m
      walk_at "st"
      rw [ec]
      exact hG _ ⟨_, cs ++ [(1 + v, 1 + b + w)], rfl, g5.mono (by omega), by rw [List.length_append, List.length_singleton]; omega, fit_app hf (fit_one ⟨by show (1 : Int) ≤ 1 + v; omega, by show 1 + v ≤ 1 + b + w; omega, by show 1 + b + w ≤ many; omega⟩)⟩
    · walk_at "go"
      rw [ec]
      exact hG _ ⟨_, cs ++ [(1 + b, 1 + b + w)], rfl, g4.mono (by omega), by rw [List.length_append, List.length_singleton]; omega, fit_app hf (fit_one ⟨by show (1 : Int) ≤ 1 + b; omega, by show 1 + b ≤ 1 + b + w; omega, by show 1 + b + w ≤ many; omega⟩)⟩
  · rintro e ⟨s', cs, rfl, g, hl, hf⟩
    rw [rangeD_len] at g hl
    obtain ⟨c1, rfl⟩ := g.m
    walk_at "go"
    exact k cs _ (by omega) hf (g.mono (by omega))
theorem law_after_ok {row : List Int} {n : Nat} {cs : List (Int × Int)} {Q : Sl → List Sl → Prop} (hl : row.length = n) (hn : n ≤ 30000) (h : ∀ c ∈ cs, Fit n c) (k : Q (.m (.ol ((runs row cs).map .int))) [.v (li row), .v (lc cs)]) : sp_law_after [.v (li row), .v (lc cs)] Q := by
  unfold sp_law_after
  walk_at "go"
  refine forL_inv (fun i env => (env = [.m (.ol ((runs row (cs.take i)).map .int)), .v (lc cs), .un, .un])) rfl ?_ ?_
  · rintro i d e G hd rfl hG
    obtain ⟨c, hc, rfl⟩ := map_get hd
    have hq : (runs row (cs.take i)).length = n := by rw [runs_len (fit_take h i)]; exact hl
    obtain ⟨h1, h2, h3⟩ := h c (List.mem_of_getElem? hc)
    have hst : stretch (runs row (cs.take i)) c = runs row (cs.take (i + 1)) := runs_step hc
    generalize runs row (cs.take i) = q at *
    walk_at "go"
    rw [cut_mid PyData.int q (by omega) (by omega), intsOf_map]
    walk_at "go"
    rw [cut_to PyData.int q (by omega)]
    have lq : (PL.sortI ((q.take c.2.toNat).drop (c.1 - 1).toNat)).length ≤ n := by
      rw [(PL.sortI_perm _).length_eq, List.length_drop, List.length_take]
      omega
    walk_at "go"
    rw [cut_from PyData.int q (by omega)]
    walk_at "go"
    rw [← List.map_append, ← List.map_append]
    show G [.m (.ol ((stretch q c).map .int)), .v (lc cs), .un, .un]
    rw [hst]
    exact hG _ rfl
  · rintro e rfl
    rw [List.length_map, List.take_length]
    walk_at "go"
    exact k

/-- equal to itself, by this law -/
def Sm (d : Nat) (x : PyData) : Prop := ∀ Q : Sl → List Sl → Prop, Q (.v (.bool true)) [.v x, .v x] → spr_law_same d [.v x, .v x] Q
theorem isD_none (d : PyData) (P : Sl → Prop) : isD d .none P = P (.v (.bool (isNone d))) := by cases d <;> rfl
theorem sm_int' {d : Nat} {x : PyData} (h1 : isNone x = false) (h2 : isK .bool x = false) (h3 : isK .int x = true) (h4 : PyData.eqv x x = true) (ho : okd x = true) : Sm (d + 1) x := fun Q k => by
  rw [spr_law_same]
  walk_at "go"
  refine sel_f h1 ?_
  walk_at "go"
  refine sel_f h2 ?_
  walk_at "go"
  refine sel_t h3 ?_
  walk_at "go"
  rw [h3]
  walk_at "go"
  rw [h2]
  walk_at "go"
  rw [h4]
  walk_at "go"
  refine ⟨⟨ho, ho⟩, ?_⟩
  walk_at "go"
  exact k
theorem sm_bool' {d : Nat} {x : PyData} (h1 : isNone x = false) (h2 : isK .bool x = true) (h4 : PyData.eqv x x = true) (ho : okd x = true) : Sm (d + 1) x := fun Q k => by
  rw [spr_law_same]
  walk_at "go"
  refine sel_f h1 ?_
  walk_at "go"
  refine sel_t h2 ?_
  walk_at "go"
  rw [h2]
  walk_at "go"
  rw [h4]
  walk_at "go"
  refine ⟨⟨ho, ho⟩, ?_⟩
  walk_at "go"
  exact k
theorem sm_none' {d : Nat} {x : PyData} (h1 : isNone x = true) : Sm (d + 1) x := fun Q k => by
  rw [spr_law_same]
  walk_at "go"
  refine sel_t h1 ?_
  walk_at "go"
  rw [h1]
  walk_at "go"
  exact k
theorem sm_str' {d : Nat} {x : PyData} (h1 : isNone x = false) (h2 : isK .bool x = false) (h3 : isK .int x = false) (h5 : isK .str x = true) (h4 : PyData.eqv x x = true) (ho : okd x = true) : Sm (d + 1) x := fun Q k => by
  rw [spr_law_same]
  walk_at "go"
  refine sel_f h1 ?_
  walk_at "go"
  refine sel_f h2 ?_
  walk_at "go"
  refine sel_f h3 ?_
  walk_at "go"
  refine sel_t h5 ?_
  walk_at "go"
  rw [h5]
  walk_at "go"
  rw [h4]
  walk_at "go"
  refine ⟨⟨ho, ho⟩, ?_⟩
  walk_at "go"
  exact k
theorem sm_line' {d : Nat} {x : PyData} (xs : List PyData) (h1 : isNone x = false) (h2 : isK .bool x = false) (h3 : isK .int x = false) (h5 : isK .str x = false) (hx : x = .list xs ∨ x = .tuple xs) (hl : xs.length ≤ 1000000) (h : ∀ y ∈ xs, Sm d y) : Sm (d + 1) x := fun Q k => by
  rw [spr_law_same]
  walk_at "go"
  refine sel_f h1 ?_
  walk_at "go"
  refine sel_f h2 ?_
  walk_at "go"
  refine sel_f h3 ?_
  walk_at "go"
  refine sel_f h5 ?_
  walk_at "go"
  generalize isK .list x = b1
  refine sel_f (by rw [eqv_bool, decide_eq_true rfl]; rfl) ?_
  walk_at "go"
  generalize isK .tuple x = b2
  refine sel_f (by rw [eqv_bool, decide_eq_true rfl]; rfl) ?_
  walk_at "go"
  rcases hx with rfl | rfl
  all_goals
    walk_at "go"
    refine sel_f (by rw [eqv_int, decide_eq_true rfl]; rfl) ?_
    walk_at "go"
    rw [rangeD_map]
    refine compK_w ((List.range (xs.length : Int).toNat).map fun i : Nat => (0 : Int) + i * 1) PyData.int (fun _ => false) (fun _ => .none) (by rw [List.length_map, List.length_range]; exact le_line' (by omega)) ?_ ?_
    · intro z hz A B hA hB
      obtain ⟨i, hi, rfl⟩ := List.mem_map.mp hz
      have hi := List.mem_range.mp hi
      have hi : i < xs.length := by omega
      have ea : atI xs (0 + (i : Int) * 1) = some xs[i] := by
        rw [atI_nat (by omega) (by omega), show (0 + (i : Int) * 1).toNat = i by omega]
        exact List.getElem?_eq_getElem hi
      walk_at "go"
      refine ⟨_, ea, ?_⟩
      walk_at "go"
      refine ⟨_, ea, ?_⟩
      walk_at "go"
      refine h _ (List.getElem_mem hi) _ ?_
      walk_at "st"
      exact hA rfl _ rfl rfl
    · intro e hb
      rw [List.filter_eq_nil_iff.mpr fun x hx => Bool.false_ne_true]
      try dsimp only
      rw [hb]
      walk_at "st"
      have e0 : PyData.eqv (.list []) (.list []) = true := eqv_lc [] []
      rw [List.map_nil, e0]
      exact k
theorem sm_int (d : Nat) (i : Int) : Sm (d + 1) (.int i) := sm_int' rfl rfl rfl (by rw [eqv_int]; exact decide_eq_true rfl) (okd_int i)
theorem sm_bool (d : Nat) (b : Bool) : Sm (d + 1) (.bool b) := sm_bool' rfl rfl (by rw [eqv_bool]; exact decide_eq_true rfl) rfl
theorem sm_none (d : Nat) : Sm (d + 1) .none := sm_none' rfl
theorem sm_list (d : Nat) (xs : List PyData) (hl : xs.length ≤ 1000000) (h : ∀ x ∈ xs, Sm d x) : Sm (d + 1) (.list xs) := sm_line' xs rfl rfl rfl rfl (.inl rfl) hl h
theorem sm_tuple (d : Nat) (xs : List PyData) (hl : xs.length ≤ 1000000) (h : ∀ x ∈ xs, Sm d x) : Sm (d + 1) (.tuple xs) := sm_line' xs rfl rfl rfl rfl (.inr rfl) hl h
theorem sm_li (d : Nat) (l : List Int) (hl : l.length ≤ 1000000) : Sm (d + 2) (li l) := sm_list _ _ (by rw [List.length_map]; exact hl) fun x hx => by
  obtain ⟨i, _, rfl⟩ := List.mem_map.mp hx
  exact sm_int _ _
theorem sm_ll (d : Nat) (l : List (List Int)) (hl : l.length ≤ 1000000) (h2 : ∀ r ∈ l, r.length ≤ 1000000) : Sm (d + 3) (.list (l.map li)) := sm_list _ _ (by rw [List.length_map]; exact hl) fun x hx => by
  obtain ⟨r, hr, rfl⟩ := List.mem_map.mp hx
  exact sm_li _ _ (h2 r hr)
theorem sm_ct (d : Nat) (c : Int × Int) : Sm (d + 2) (ct c) := sm_tuple _ _ (show (2 : Nat) ≤ 1000000 by decide) fun x hx => by
  rcases List.mem_cons.mp hx with rfl | hx
  · exact sm_int _ _
  · rcases List.mem_cons.mp hx with rfl | hx
    · exact sm_int _ _
    · cases hx
theorem sm_lc (d : Nat) (l : List (Int × Int)) (hl : l.length ≤ 1000000) : Sm (d + 3) (lc l) := sm_list _ _ (by rw [List.length_map]; exact hl) fun x hx => by
  obtain ⟨c, _, rfl⟩ := List.mem_map.mp hx
  exact sm_ct _ _
theorem same_ok {x y : PyData} {Q : Sl → List Sl → Prop} (e : x = y) (h : Sm 6 x) (k : Q (.v (.bool true)) [.v x, .v y]) : sp_law_same [.v x, .v y] Q := by
  subst e
  unfold sp_law_same
  exact h Q k


theorem check_size_ok {n : Int} {Q : Sl → List Sl → Prop} (h : 1 ≤ n) (k : Q (.v .none) [.v (.int n)]) : sp_check_size [.v (.int n)] Q := by
  unfold sp_check_size
  walk_at "go"
  exact k
theorem check_script_ok {n : Nat} {cs : List (Int × Int)} {Q : Sl → List Sl → Prop} (h : ∀ c ∈ cs, Fit n c) (k : Q (.v .none) [.v (.int n), .v (lc cs)]) : sp_check_script [.v (.int n), .v (lc cs)] Q := by
  unfold sp_check_script
  walk_at "go"
  refine forL_inv (fun i env => env = [.v (.int n), .v (lc cs), .un, .un, .un]) rfl ?_ ?_
  · rintro i d e G hd rfl hG
    obtain ⟨c, hc, rfl⟩ := enumD_at hd
    obtain ⟨h1, h2, h3⟩ := h c (List.mem_of_getElem? hc)
    walk_at "go"
    rw [decide_eq_true h1]
    walk_at "go"
    rw [decide_eq_true h2]
    walk_at "go"
    rw [decide_eq_true h3]
    refine sel_f rfl ?_
    walk_at "go"
    exact hG _ rfl
  · rintro e rfl
    walk_at "go"
    exact k
theorem after_command_ok {row : List Int} {n : Nat} {c : Int × Int} {Q : Sl → List Sl → Prop} (hl : row.length ≤ 1000) (h : Fit n c) (k : Q (.m (.ol ((stretch row c).map .int))) [.v (li row), .v (ct c)]) : sp_after_command [.v (li row), .v (ct c)] Q := by
  obtain ⟨h1, h2, h3⟩ := h
  unfold sp_after_command
  walk_at "go"
  rw [cut_mid PyData.int row (by omega) (by omega), intsOf_map]
  walk_at "go"
  rw [cut_to PyData.int row (by omega), cut_from PyData.int row (by omega), agD_star, agD_star, agD_star0]
  have e2 : (row.take (c.1 - 1).toNat).map PyData.int ++ ((PL.sortI ((row.take c.2.toNat).drop (c.1 - 1).toNat)).map PyData.int ++ ((row.drop c.2.toNat).map PyData.int ++ [])) = (stretch row c).map PyData.int := by
    unfold stretch
    rw [List.append_nil, List.map_append, List.map_append, List.append_assoc]
  show listD ((row.take (c.1 - 1).toNat).map PyData.int ++ ((PL.sortI ((row.take c.2.toNat).drop (c.1 - 1).toNat)).map PyData.int ++ ((row.drop c.2.toNat).map PyData.int ++ []))) _
  rw [e2]
  have hlen : (stretch row c).length = row.length := (stretch_perm ⟨h1, h2⟩).length_eq
  refine ⟨le_line (by rw [List.length_map]; omega), ?_⟩
  exact k
theorem after_script_ok {row : List Int} {n : Nat} {cs : List (Int × Int)} {Q : Sl → List Sl → Prop} (hl : row.length ≤ 1000) (h : ∀ c ∈ cs, Fit n c) (k : Q (.m (.ol ((runs row cs).map .int))) [.v (li row), .v (lc cs)]) : sp_after_script [.v (li row), .v (lc cs)] Q := by
  unfold sp_after_script
  walk_at "go"
  refine forL_inv (fun i env => (env = [.un, .v (lc cs), .m (.ol ((runs row (cs.take i)).map .int)), .un])) rfl ?_ ?_
  · rintro i d e G hd rfl hG
    obtain ⟨c, hc, rfl⟩ := map_get hd
    walk_at "go"
    refine after_command_ok (by rw [runs_len (fit_take h i)]; exact hl) (h c (List.mem_of_getElem? hc)) ?_
    walk_at "st"
    rw [runs_step hc]
    exact hG _ rfl
  · rintro e rfl
    rw [List.length_map, List.take_length]
    walk_at "go"
    exact k


theorem descending_ok {n : Nat} {Q : Sl → List Sl → Prop} (hn : n ≤ 1000) (k : Q (.m (.ol ((falls n).map .int))) [.v (.int n)]) : sp_descending [.v (.int n)] Q := by
  unfold sp_descending
  walk_at "go"
  rw [down_falls]
  exact k
theorem effect_in_ok {n : Nat} {cs : List (Int × Int)} {Q : Sl → List Sl → Prop} (hn : n ≤ 1000) (h : ∀ c ∈ cs, Fit n c) (k : Q (.m (.ol ((runs (falls n) cs).map .int))) [.v (.int n), .v (lc cs)]) : sp_effect_in [.v (.int n), .v (lc cs)] Q := by
  unfold sp_effect_in
  walk_at "go"
  refine descending_ok hn ?_
  walk_at "st"
  refine after_script_ok (by rw [falls_len]; exact hn) h ?_
  exact k
theorem effect_ok {n : Nat} {cs : List (Int × Int)} {Q : Sl → List Sl → Prop} (h0 : 1 ≤ n) (hn : n ≤ 1000) (h : ∀ c ∈ cs, Fit n c) (k : Q (.m (.ol ((runs (falls n) cs).map .int))) [.v (.int n), .v (lc cs)]) : sp_effect [.v (.int n), .v (lc cs)] Q := by
  unfold sp_effect
  walk_at "go"
  refine check_size_ok (by omega) ?_
  walk_at "st"
  refine check_script_ok h ?_
  walk_at "st"
  exact effect_in_ok hn h k


/-! ### turns, idle commands -/
def pairs : List Int → List (Int × Int) → List (List Int × List Int)
  | _, [] => []
  | r, c :: cs => (r, stretch r c) :: pairs (stretch r c) cs
def pairD (p : List Int × List Int) : PyData := .tuple [li p.1, li p.2]
theorem pairs_len : ∀ (cs : List (Int × Int)) (r : List Int), (pairs r cs).length = cs.length
  | [], _ => rfl
  | c :: cs, r => by
    rw [pairs, List.length_cons, pairs_len cs, List.length_cons]
theorem pairs_get : ∀ {cs : List (Int × Int)} {r : List Int} {i : Nat}, i < cs.length → (pairs r cs)[i]? = some (runs r (cs.take i), runs r (cs.take (i + 1)))
  | c :: cs, r, 0, _ => rfl
  | c :: cs, r, i + 1, h => by
    rw [pairs, List.getElem?_cons_succ, pairs_get (by simpa using h)]
    rfl
/-- the places of the commands at whose turn nothing changes -/
def idles (r : List Int) (cs : List (Int × Int)) : List Int := (((pairs r cs).zipIdx).filter fun p => decide (p.1.1 = p.1.2)).map fun p => (p.2 : Int)
theorem enum_pairs : ∀ (ps : List (List Int × List Int)) (k : Nat), enumD k (ps.map pairD) = (ps.zipIdx k).map fun p => .tuple [.int (p.2 : Int), pairD p.1]
  | [], _ => rfl
  | p :: ps, k => by
    rw [List.map_cons, enumD, enum_pairs ps (k + 1), List.zipIdx_cons, List.map_cons]





/-- check_arrangement raises nothing at an arrangement -/
theorem check_ok {p : List Int} {n : Nat} {Q : Sl → List Sl → Prop} (hp : Arr n p) (hn : n ≤ 1000) (k : Q (.v .none) [.v (li p)]) : sp_check_arrangement [.v (li p)] Q := by
  have hl : p.length = n := hp.len
  have nd : p.Nodup := hp.nodup
  unfold sp_check_arrangement
  walk_at "go"
  refine forL_inv (fun i env => ∃ ms : List (Key × MO), env = [.v (li p), .m (.dk ms), .un, .un] ∧ ms.length ≤ i ∧ ∀ v : Int, (getK ms (.inl v)).isSome = decide (v ∈ p.take i)) ?_ ?_ ?_
  · exact ⟨[], rfl, Nat.le_refl _, fun v => by simp [getK]⟩
  · rintro i d e G hd ⟨ms, rfl, h1, h2⟩ hG
    obtain ⟨v, hv, rfl⟩ := enumD_at hd
    have hi := (List.getElem?_eq_some_iff.mp hv).1
    have vm := hp.mem.mp (List.mem_of_getElem? hv)
    have c1 : decide (1 ≤ v) = true := decide_eq_true vm.1
    have c2 : decide (v ≤ ((p.map PyData.int).length : Nat)) = true := decide_eq_true (by rw [List.length_map]; omega)
    have c3 : v ∉ p.take i := fun h => by
      obtain ⟨j, hj, e⟩ := List.mem_iff_getElem.mp h
      rw [List.length_take] at hj
      rw [List.getElem_take] at e
      obtain ⟨hi', e2⟩ := List.getElem?_eq_some_iff.mp hv
      exact List.pairwise_iff_getElem.mp nd j i (by omega) hi (by omega) (e.trans e2.symm)
    walk_at "go"
    rw [c1]
    walk_at "go"
    rw [c2]
    walk_at "go"
    refine sel_f (by rw [h2]; exact decide_eq_false c3) ?_
    walk_at "go"
    refine hG _ ⟨_, rfl, Nat.le_trans (setK_le ..) (by omega), fun u => ?_⟩
    rw [getK_put, List.take_add_one, hv]
    by_cases e : u = v
    · subst e
      simp
    · have ne : ¬ ((Sum.inl u : Key) = Sum.inl v) := fun z => e (Sum.inl.inj z)
      rw [if_neg ne, h2]
      simp [e]
  · rintro e ⟨ms, rfl, _, _⟩
    walk_at "go"
    exact k


/-- pairs that descend -/
def invs : List Int → Nat
  | [] => 0
  | x :: l => l.countP (fun y => decide (y < x)) + invs l
theorem invs_swap {x y : Int} (h : y < x) : ∀ (P S : List Int), invs (P ++ x :: y :: S) = invs (P ++ y :: x :: S) + 1
  | [], S => by
    show (y :: S).countP (fun z => decide (z < x)) + (S.countP (fun z => decide (z < y)) + invs S) = (x :: S).countP (fun z => decide (z < y)) + (S.countP (fun z => decide (z < x)) + invs S) + 1
    rw [List.countP_cons, List.countP_cons, if_pos (decide_eq_true h), if_neg (by simp; omega)]
    omega
  | p :: P, S => by
    show (P ++ x :: y :: S).countP (fun z => decide (z < p)) + invs (P ++ x :: y :: S) = (P ++ y :: x :: S).countP (fun z => decide (z < p)) + invs (P ++ y :: x :: S) + 1
    have hp : (P ++ x :: y :: S).Perm (P ++ y :: x :: S) := List.Perm.append_left P (List.Perm.swap _ _ _)
    rw [invs_swap h P S, hp.countP_eq]
    omega
/-- two neighbours exchanged -/
def swp (l : List Int) (a : Nat) : List Int := l.take a ++ l.getD (a + 1) 0 :: l.getD a 0 :: l.drop (a + 2)
theorem swp_parts {l : List Int} {a : Nat} (h : a + 1 < l.length) : l = l.take a ++ l[a] :: l[a + 1] :: l.drop (a + 2) := by
  have h1 : l.drop a = l[a] :: l[a + 1] :: l.drop (a + 2) := by
    rw [List.drop_eq_getElem_cons (by omega), List.drop_eq_getElem_cons h]
  have h2 := List.take_append_drop a l
  rw [h1] at h2
  exact h2.symm
theorem swp_eq {l : List Int} {a : Nat} (h : a + 1 < l.length) : swp l a = l.take a ++ l[a + 1] :: l[a] :: l.drop (a + 2) := by
  unfold swp
  rw [List.getD_eq_getElem?_getD, List.getD_eq_getElem?_getD, List.getElem?_eq_getElem h, List.getElem?_eq_getElem (show a < l.length by omega)]
  rfl
theorem swp_perm {l : List Int} {a : Nat} (h : a + 1 < l.length) : (swp l a).Perm l := by
  rw [swp_eq h]
  refine List.Perm.trans ?_ (List.Perm.of_eq (swp_parts h).symm)
  exact List.Perm.append_left _ (List.Perm.swap _ _ _)
theorem swp_len {l : List Int} {a : Nat} (h : a + 1 < l.length) : (swp l a).length = l.length := (swp_perm h).length_eq
theorem swp_get {l : List Int} {a : Nat} (h : a + 1 < l.length) (j : Nat) : (swp l a)[j]? = if j = a then some l[a + 1] else if j = a + 1 then some l[a] else l[j]? := by
  have la : (l.take a).length = a := by rw [List.length_take]; omega
  rw [swp_eq h]
  by_cases j1 : j < a
  · rw [if_neg (by omega), if_neg (by omega), List.getElem?_append_left (by omega), List.getElem?_take_of_lt j1]
  · rw [List.getElem?_append_right (by omega), la]
    by_cases j2 : j = a
    · subst j2
      rw [if_pos rfl, Nat.sub_self]
      rfl
    · rw [if_neg j2]
      by_cases j3 : j = a + 1
      · subst j3
        rw [if_pos rfl, show a + 1 - a = 1 by omega]
        rfl
      · rw [if_neg j3]
        obtain ⟨k, rfl⟩ : ∃ k, j = a + 2 + k := ⟨j - a - 2, by omega⟩
        rw [show a + 2 + k - a = k + 2 by omega, List.getElem?_cons_succ, List.getElem?_cons_succ, List.getElem?_drop]
theorem set_swp {l : List Int} {a : Nat} (h : a + 1 < l.length) : (l.set a l[a + 1]).set (a + 1) l[a] = swp l a := by
  refine List.ext_getElem? fun j => ?_
  rw [swp_get h]
  by_cases j2 : j = a
  · subst j2
    rw [if_pos rfl, List.getElem?_set_ne (by omega), List.getElem?_set_self (by omega)]
  · rw [if_neg j2]
    by_cases j3 : j = a + 1
    · subst j3
      rw [if_pos rfl, List.getElem?_set_self (by rw [List.length_set]; omega)]
    · rw [if_neg j3, List.getElem?_set_ne (by omega), List.getElem?_set_ne (by omega)]
theorem invs_down {l : List Int} {a : Nat} (h : a + 1 < l.length) (d : l[a + 1] < l[a]) : invs l = invs (swp l a) + 1 := by
  rw [swp_eq h]
  conv => lhs; rw [swp_parts h]
  exact invs_swap d _ _
theorem invs_up {l : List Int} {a : Nat} (h : a + 1 < l.length) (d : l[a] < l[a + 1]) : invs (swp l a) = invs l + 1 := by
  rw [swp_eq h]
  conv => rhs; rw [swp_parts h]
  exact invs_swap d _ _
theorem swp_swp {l : List Int} {a : Nat} (h : a + 1 < l.length) : swp (swp l a) a = l := by
  have h2 : a + 1 < (swp l a).length := by rw [swp_len h]; exact h
  refine List.ext_getElem? fun j => ?_
  have g1 := swp_get h (a + 1)
  have g0 := swp_get h a
  rw [if_pos rfl] at g0
  rw [if_neg (by omega), if_pos rfl] at g1
  rw [List.getElem?_eq_getElem h2] at g1
  rw [List.getElem?_eq_getElem (show a < (swp l a).length by omega)] at g0
  rw [swp_get h2, Option.some.inj g1, Option.some.inj g0, swp_get h]
  by_cases j2 : j = a
  · subst j2
    rw [if_pos rfl, List.getElem?_eq_getElem (by omega)]
  · rw [if_neg j2, if_neg j2]
    by_cases j3 : j = a + 1
    · subst j3
      rw [if_pos rfl, List.getElem?_eq_getElem (by omega)]
    · rw [if_neg j3, if_neg j3]
/-- the command of two neighbours -/
def nb (a : Nat) : Int × Int := ((a : Int) + 1, (a : Int) + 2)
theorem nb_fit {n a : Nat} (h : a + 1 < n) : Fit n (nb a) := ⟨by show (1 : Int) ≤ (a : Int) + 1; omega, by show (a : Int) + 1 ≤ (a : Int) + 2; omega, by show (a : Int) + 2 ≤ n; omega⟩
theorem stretch_nb {l : List Int} {a : Nat} (h : a + 1 < l.length) : stretch l (nb a) = l.take a ++ PL.sortI [l[a], l[a + 1]] ++ l.drop (a + 2) := by
  have e1 : ((nb a).1 - 1).toNat = a := by show ((a : Int) + 1 - 1).toNat = a; omega
  have e2 : (nb a).2.toNat = a + 2 := by show ((a : Int) + 2).toNat = a + 2; omega
  unfold stretch
  rw [e1, e2]
  congr 3
  rw [List.drop_take, show a + 2 - a = 2 by omega, List.drop_eq_getElem_cons (show a < l.length by omega), List.drop_eq_getElem_cons h]
  rfl
theorem stretch_nb_up {l : List Int} {a : Nat} (h : a + 1 < l.length) (d : l[a] ≤ l[a + 1]) : stretch l (nb a) = l := by
  rw [stretch_nb h]
  show l.take a ++ PL.insI l[a] (PL.insI l[a + 1] []) ++ l.drop (a + 2) = l
  rw [show PL.insI l[a + 1] [] = [l[a + 1]] from rfl]
  show l.take a ++ (if l[a] ≤ l[a + 1] then _ else _) ++ l.drop (a + 2) = l
  rw [if_pos d, List.append_assoc]
  exact (swp_parts h).symm
theorem stretch_nb_down {l : List Int} {a : Nat} (h : a + 1 < l.length) (d : l[a + 1] < l[a]) : stretch l (nb a) = swp l a := by
  rw [stretch_nb h, swp_eq h]
  show l.take a ++ PL.insI l[a] (PL.insI l[a + 1] []) ++ l.drop (a + 2) = _
  rw [show PL.insI l[a + 1] [] = [l[a + 1]] from rfl]
  show l.take a ++ (if l[a] ≤ l[a + 1] then _ else _) ++ l.drop (a + 2) = _
  rw [if_neg (by omega), List.append_assoc]
  rfl
theorem lift_nb {l : List Int} {a : Nat} (h : a + 1 < l.length) : lift1 l (nb a) = l.take a ++ (PL.sortI [l[a], l[a + 1]]).reverse ++ l.drop (a + 2) := by
  have e1 : ((nb a).1 - 1).toNat = a := by show ((a : Int) + 1 - 1).toNat = a; omega
  have e2 : (nb a).2.toNat = a + 2 := by show ((a : Int) + 2).toNat = a + 2; omega
  unfold lift1
  rw [e1, e2]
  congr 4
  rw [List.drop_take, show a + 2 - a = 2 by omega, List.drop_eq_getElem_cons (show a < l.length by omega), List.drop_eq_getElem_cons h]
  rfl
/-- one exchange changes the pairs by one at most -/
theorem invs_stretch {l : List Int} {a : Nat} (h : a + 1 < l.length) : invs l ≤ invs (stretch l (nb a)) + 1 := by
  by_cases d : l[a] ≤ l[a + 1]
  · rw [stretch_nb_up h d]; omega
  · rw [stretch_nb_down h (by omega), invs_down h (by omega)]
    exact Nat.le_refl _
theorem invs_lift {l : List Int} {a : Nat} (h : a + 1 < l.length) : invs (lift1 l (nb a)) ≤ invs l + 1 := by
  rw [lift_nb h]
  have e : PL.sortI [l[a], l[a + 1]] = if l[a] ≤ l[a + 1] then [l[a], l[a + 1]] else [l[a + 1], l[a]] := rfl
  rw [e]
  by_cases d : l[a] ≤ l[a + 1]
  · rw [if_pos d]
    show invs (l.take a ++ [l[a + 1], l[a]] ++ l.drop (a + 2)) ≤ _
    rw [List.append_assoc]
    show invs (l.take a ++ l[a + 1] :: l[a] :: l.drop (a + 2)) ≤ _
    rw [← swp_eq h]
    by_cases q : l[a] = l[a + 1]
    · have : swp l a = l := by
        rw [swp_eq h]
        conv => rhs; rw [swp_parts h]
        rw [q]
      rw [this]; omega
    · rw [invs_up h (by omega)]
      exact Nat.le_refl _
  · rw [if_neg d]
    show invs (l.take a ++ [l[a], l[a + 1]] ++ l.drop (a + 2)) ≤ _
    rw [List.append_assoc]
    show invs (l.take a ++ l[a] :: l[a + 1] :: l.drop (a + 2)) ≤ _
    rw [← swp_parts h]
    omega
/-- scripts of exchanges -/
def Nbs (n : Nat) (cs : List (Int × Int)) : Prop := ∀ c ∈ cs, ∃ a, a + 1 < n ∧ c = nb a
theorem Nbs.fit {n : Nat} {cs : List (Int × Int)} (h : Nbs n cs) : ∀ c ∈ cs, Fit n c := fun c hc => by
  obtain ⟨a, ha, rfl⟩ := h c hc
  exact nb_fit ha
theorem Nbs.nil {n : Nat} : Nbs n [] := fun c hc => by cases hc
theorem Nbs.app {n : Nat} {a b : List (Int × Int)} (h : Nbs n a) (k : Nbs n b) : Nbs n (a ++ b) := fun c hc => (List.mem_append.mp hc).elim (h c) (k c)
theorem Nbs.one {n a : Nat} (h : a + 1 < n) : Nbs n [nb a] := fun c hc => ⟨a, h, List.mem_singleton.mp hc⟩
theorem Nbs.rev {n : Nat} {cs : List (Int × Int)} (h : Nbs n cs) : Nbs n cs.reverse := fun c hc => h c (List.mem_reverse.mp hc)
theorem invs_runs {n : Nat} : ∀ {cs : List (Int × Int)} {l : List Int}, Nbs n cs → l.length = n → invs l ≤ invs (runs l cs) + cs.length
  | [], _, _, _ => Nat.le_refl _
  | c :: cs, l, h, hl => by
    obtain ⟨a, ha, rfl⟩ := h c List.mem_cons_self
    have h1 := invs_stretch (l := l) (a := a) (by omega)
    have hf := nb_fit ha
    have h2 := invs_runs (cs := cs) (l := stretch l (nb a)) (fun x hx => h x (List.mem_cons_of_mem _ hx)) (by rw [stretch_len ⟨hf.1, hf.2.1⟩]; exact hl)
    rw [runs_cons, List.length_cons]
    omega
theorem invs_lifts {n : Nat} : ∀ {cs : List (Int × Int)} {l : List Int}, Nbs n cs → l.length = n → invs (lifts l cs) ≤ invs l + cs.length
  | [], _, _, _ => Nat.le_refl _
  | c :: cs, l, h, hl => by
    obtain ⟨a, ha, rfl⟩ := h c List.mem_cons_self
    have h' : Nbs n cs := fun x hx => h x (List.mem_cons_of_mem _ hx)
    have h1 := invs_lift (l := lifts l cs) (a := a) (by rw [lifts_len h'.fit]; omega)
    have h2 := invs_lifts (cs := cs) (l := l) h' hl
    rw [lifts_cons, List.length_cons]
    omega
theorem invs_sorted : ∀ {l : List Int}, l.Pairwise (· ≤ ·) → invs l = 0
  | [], _ => rfl
  | x :: l, h => by
    obtain ⟨h1, h2⟩ := List.pairwise_cons.mp h
    show l.countP _ + invs l = 0
    rw [invs_sorted h2, List.countP_eq_zero.mpr fun y hy => by have := h1 y hy; simp; omega]
theorem invs_falling : ∀ {l : List Int}, l.Pairwise (fun a b => b < a) → 2 * invs l = l.length * (l.length - 1)
  | [], _ => rfl
  | x :: l, h => by
    obtain ⟨h1, h2⟩ := List.pairwise_cons.mp h
    have ih := invs_falling h2
    show 2 * (l.countP _ + invs l) = _
    rw [List.countP_eq_length.mpr fun y hy => decide_eq_true (h1 y hy), Nat.mul_add, ih, List.length_cons, Nat.add_sub_cancel]
    cases hL : l.length with
    | zero => rfl
    | succ m => rw [Nat.add_sub_cancel]; simp only [Nat.add_mul, Nat.mul_add, Nat.one_mul, Nat.mul_one]; omega
theorem falls_strict (n : Nat) : (falls n).Pairwise (fun a b => b < a) := by
  unfold falls
  rw [List.pairwise_reverse]
  unfold deck
  rw [List.pairwise_map]
  exact List.Pairwise.imp (fun h => by omega) List.pairwise_lt_range
theorem invs_falls (n : Nat) : 2 * invs (falls n) = n * (n - 1) := by
  have := invs_falling (falls_strict n)
  rwa [falls_len] at this


/-- from place L on each one stands right to all before -/
def Tl (R : Int → Int → Prop) (L : Nat) (row : List Int) : Prop := ∀ (a b : Nat) x y, a < b → L ≤ b → row[a]? = some x → row[b]? = some y → R x y
/-- the one at p stands right to all before -/
def Hd (R : Int → Int → Prop) (p : Nat) (row : List Int) : Prop := ∀ (a : Nat) x y, a < p → row[a]? = some x → row[p]? = some y → R x y
theorem Hd.stay {R : Int → Int → Prop} (tr : ∀ a b c, R a b → R b c → R a c) {p : Nat} {row : List Int} (h : Hd R p row) (hp : p + 1 < row.length) (r : R row[p] row[p + 1]) : Hd R (p + 1) row := by
  intro a x y ha hx hy
  rw [List.getElem?_eq_getElem hp] at hy
  cases hy
  by_cases e : a = p
  · subst e
    rw [List.getElem?_eq_getElem (by omega)] at hx
    cases hx
    exact r
  · exact tr _ _ _ (h a x row[p] (by omega) hx (List.getElem?_eq_getElem (by omega))) r
theorem Hd.swap {R : Int → Int → Prop} {p : Nat} {row : List Int} (h : Hd R p row) (hp : p + 1 < row.length) (r : R row[p + 1] row[p]) : Hd R (p + 1) (swp row p) := by
  intro a x y ha hx hy
  rw [swp_get hp] at hx hy
  rw [if_neg (by omega), if_pos rfl] at hy
  cases hy
  by_cases e : a = p
  · rw [if_pos e] at hx
    cases hx
    exact r
  · rw [if_neg e, if_neg (by omega)] at hx
    exact h a x row[p] (by omega) hx (List.getElem?_eq_getElem (by omega))
theorem Tl.swap {R : Int → Int → Prop} {p L : Nat} {row : List Int} (h : Tl R L row) (hp : p + 1 < row.length) (hL : p + 1 < L) : Tl R L (swp row p) := by
  intro a b x y hab hb hx hy
  rw [swp_get hp] at hx hy
  rw [if_neg (by omega), if_neg (by omega)] at hy
  by_cases e : a = p
  · rw [if_pos e] at hx
    exact h (p + 1) b x y (by omega) hb (by rw [List.getElem?_eq_getElem hp]; exact hx) hy
  · rw [if_neg e] at hx
    by_cases e2 : a = p + 1
    · rw [if_pos e2] at hx
      exact h p b x y (by omega) hb (by rw [List.getElem?_eq_getElem (by omega)]; exact hx) hy
    · rw [if_neg e2] at hx
      exact h a b x y hab hb hx hy
theorem Tl.more {R : Int → Int → Prop} {L : Nat} {row : List Int} (h : Tl R (L + 1) row) (k : Hd R L row) : Tl R L row := by
  intro a b x y hab hb hx hy
  by_cases e : b = L
  · subst e
    exact k a x y hab hx hy
  · exact h a b x y hab (by omega) hx hy
theorem Tl.all {R : Int → Int → Prop} {row : List Int} (h : Tl R 1 row) : row.Pairwise R := by
  rw [List.pairwise_iff_getElem]
  intro i j hi hj hij
  exact h i j _ _ hij (by omega) (List.getElem?_eq_getElem hi) (List.getElem?_eq_getElem hj)
theorem Tl.none {R : Int → Int → Prop} {row : List Int} {L : Nat} (h : row.length ≤ L) : Tl R L row := by
  intro a b x y _ hb _ hy
  rw [List.getElem?_eq_none (by omega)] at hy
  cases hy
theorem Hd.zero {R : Int → Int → Prop} {row : List Int} : Hd R 0 row := fun a _ _ h => absurd h (Nat.not_lt_zero a)
theorem invs_bound : ∀ l : List Int, invs l ≤ l.length * l.length
  | [] => Nat.le_refl _
  | x :: l => by
    have ih := invs_bound l
    show l.countP _ + invs l ≤ (l.length + 1) * (l.length + 1)
    have h1 : l.countP (fun y => decide (y < x)) ≤ l.length := List.countP_le_length
    have h2 : (l.length + 1) * (l.length + 1) = l.length * l.length + l.length + l.length + 1 := by
      rw [Nat.add_mul, Nat.mul_add, Nat.one_mul, Nat.mul_one]; omega
    omega
theorem invs_bound2 : ∀ l : List Int, 2 * invs l ≤ l.length * (l.length - 1)
  | [] => Nat.le_refl _
  | x :: l => by
    have ih := invs_bound2 l
    show 2 * (l.countP _ + invs l) ≤ (l.length + 1) * (l.length + 1 - 1)
    have h1 : l.countP (fun y => decide (y < x)) ≤ l.length := List.countP_le_length
    rw [Nat.add_sub_cancel]
    cases hL : l.length with
    | zero => rw [hL] at ih h1; omega
    | succ m =>
      rw [hL] at ih h1
      rw [Nat.add_sub_cancel] at ih
      have e1 : (m + 1) * m = m * m + m := by rw [Nat.add_mul, Nat.one_mul]
      have e2 : (m + 1 + 1) * (m + 1) = m * m + m + m + m + 1 + 1 := by simp only [Nat.add_mul, Nat.mul_add, Nat.one_mul, Nat.mul_one]; omega
      omega
/-- exchanges found while a row is put in order -/
structure Bub (n : Nat) (E row : List Int) (found : List (Int × Int)) : Prop where
  len : row.length = n
  nbs : Nbs n found
  run : runs E found = row
  cnt : invs row + found.length = invs E
  prm : row.Perm E
theorem Bub.step {n p : Nat} {E row : List Int} {found : List (Int × Int)} (h : Bub n E row found) (hp : p + 1 < n) (d : row[p + 1]'(by rw [h.len]; exact hp) < row[p]'(by rw [h.len]; omega)) : Bub n E (swp row p) (found ++ [nb p]) := by
  have hl : p + 1 < row.length := by rw [h.len]; exact hp
  refine ⟨by rw [swp_len hl, h.len], h.nbs.app (.one hp), ?_, ?_, (swp_perm hl).trans h.prm⟩
  · rw [runs_app, h.run, runs_one, stretch_nb_down hl d]
  · have := invs_down hl d
    have := h.cnt
    rw [List.length_append, List.length_singleton]
    omega
/-- exchanges found backward, while a row is put in falling order -/
structure Bup (n : Nat) (wanted row : List Int) (found : List (Int × Int)) : Prop where
  len : row.length = n
  nbs : Nbs n found
  run : runs row found.reverse = wanted
  cnt : invs row = invs wanted + found.length
  prm : row.Perm wanted
theorem Bup.step {n p : Nat} {wanted row : List Int} {found : List (Int × Int)} (h : Bup n wanted row found) (hp : p + 1 < n) (d : row[p]'(by rw [h.len]; omega) < row[p + 1]'(by rw [h.len]; exact hp)) : Bup n wanted (swp row p) (found ++ [nb p]) := by
  have hl : p + 1 < row.length := by rw [h.len]; exact hp
  have hl2 : p + 1 < (swp row p).length := by rw [swp_len hl]; exact hl
  have g0 := swp_get hl p
  have g1 := swp_get hl (p + 1)
  rw [if_pos rfl, List.getElem?_eq_getElem (by omega)] at g0
  rw [if_neg (by omega), if_pos rfl, List.getElem?_eq_getElem hl2] at g1
  refine ⟨by rw [swp_len hl, h.len], h.nbs.app (.one hp), ?_, ?_, (swp_perm hl).trans h.prm⟩
  · rw [List.reverse_append, List.reverse_singleton]
    show runs (stretch (swp row p) (nb p)) found.reverse = wanted
    rw [stretch_nb_down hl2 (by rw [Option.some.inj g0, Option.some.inj g1]; exact d), swp_swp hl, h.run]
  · have := invs_up hl d
    have := h.cnt
    rw [List.length_append, List.length_singleton]
    omega
theorem invs_sum {row : List Int} : ∀ (l : List Int) (k : Nat), row.drop k = l → ((l.zipIdx k).map fun p => (row.drop (p.2 + 1)).countP fun y => decide (y < p.1)).sum = invs l
  | [], _, _ => rfl
  | x :: l, k, h => by
    have h2 : row.drop (k + 1) = l := by rw [← List.drop_drop, h]; rfl
    rw [List.zipIdx_cons, List.map_cons, List.sum_cons, invs_sum l (k + 1) h2]
    show (row.drop (k + 1)).countP _ + _ = _
    rw [h2]
    rfl
theorem sorted_deck {n : Nat} {row : List Int} (h : Arr n row) (s : row.Pairwise (· ≤ ·)) : row = deck n := by
  rw [PL.sortI_eq h s]
  exact (PL.sortI_eq (List.Perm.refl _) (deck_sorted n)).symm
theorem falling_falls {n : Nat} {row : List Int} (h : Arr n row) (s : row.Pairwise (· ≥ ·)) : row = falls n := by
  rw [PL.sortI_rev (h.trans (falls_perm n).symm) s, ← PL.sortI_rev (List.Perm.refl (falls n)) (falls_sorted n)]


theorem half {n : Nat} : ((n : Int) * ((n : Int) - 1)) / 2 = (invs (falls n) : Nat) := by
  have h := invs_falls n
  cases n with
  | zero => rw [Nat.zero_mul] at h; rw [show invs (falls 0) = 0 by omega]; decide
  | succ m =>
    rw [Nat.add_sub_cancel] at h
    have e : (((m + 1 : Nat) : Int) * (((m + 1 : Nat) : Int) - 1)) = ((2 * invs (falls (m + 1)) : Nat) : Int) := by
      rw [h, show (((m + 1 : Nat) : Int) - 1) = (m : Int) by omega]
      exact (Int.natCast_mul _ _).symm
    rw [e]
    omega
theorem sqr {n : Nat} (h : n ≤ 300) : n * n ≤ 90000 := Nat.le_trans (Nat.mul_le_mul h h) (by decide)
/-! ### exchanges, as a function of the row -/
def xstep (st : List Int × List (Int × Int)) (q : Nat) : List Int × List (Int × Int) := if st.1.getD q 0 < st.1.getD (q + 1) 0 then (swp st.1 q, st.2 ++ [nb q]) else st
def xpass (st : List Int × List (Int × Int)) (L : Nat) : List Int × List (Int × Int) := (List.range L).foldl xstep st
def xall (n : Nat) (p : List Int) (i : Nat) : List Int × List (Int × Int) := (List.range i).foldl (fun st j => xpass st (n - 1 - j)) (p, [])
def xch (n : Nat) (p : List Int) : List (Int × Int) := (xall n p (n - 1)).2.reverse
theorem xall_succ (n : Nat) (p : List Int) (i : Nat) : xall n p (i + 1) = xpass (xall n p i) (n - 1 - i) := by
  unfold xall
  rw [List.range_succ, List.foldl_append]
  rfl
theorem xpart_succ (st : List Int × List (Int × Int)) (q : Nat) : (List.range (q + 1)).foldl xstep st = xstep ((List.range q).foldl xstep st) q := by
  rw [List.range_succ, List.foldl_append]
  rfl
theorem getD_at {l : List Int} {q : Nat} (h : q < l.length) : l.getD q 0 = l[q] := by rw [List.getD_eq_getElem?_getD, List.getElem?_eq_getElem h]; rfl

/-- pairs that ascend -/
def ups : List Int → Nat
  | [] => 0
  | x :: r => r.countP (fun y => decide (x < y)) + ups r
theorem ups_snoc (v : Int) : ∀ l : List Int, ups (l ++ [v]) = ups l + l.countP (fun y => decide (y < v))
  | [] => rfl
  | x :: r => by
    rw [List.cons_append, ups, ups, ups_snoc v r, List.countP_append, List.countP_cons (a := x)]
    by_cases h : x < v
    · simp [h]
      omega
    · simp [h]
      omega
theorem ups_invs : ∀ {l : List Int}, l.Nodup → 2 * (ups l + invs l) = l.length * (l.length - 1)
  | [], _ => rfl
  | x :: r, h => by
    have ih := ups_invs (List.nodup_cons.mp h).2
    have nm := (List.nodup_cons.mp h).1
    have e : r.countP (fun y => decide (x < y)) + r.countP (fun y => decide (y < x)) = r.length := by
      clear ih h
      induction r with
      | nil => rfl
      | cons y r ih =>
        have ih := ih fun z => nm (List.mem_cons_of_mem _ z)
        have ne : x ≠ y := fun z => nm (by rw [z]; exact List.mem_cons_self)
        rw [List.countP_cons, List.countP_cons, List.length_cons]
        by_cases c : x < y
        · have c2 : ¬ y < x := by omega
          simp only [c, c2, decide_true, decide_false, if_true, Bool.false_eq_true, if_false]
          omega
        · have c2 : y < x := by omega
          simp only [c, c2, decide_true, decide_false, if_true, Bool.false_eq_true, if_false]
          omega
    rw [ups, invs, List.length_cons]
    have z : (r.length + 1) * (r.length + 1 - 1) = r.length * (r.length - 1) + 2 * r.length := by
      rw [Nat.add_sub_cancel]
      cases r.length with
      | zero => rfl
      | succ k => rw [Nat.succ_sub_one, Nat.succ_mul (k + 1), Nat.mul_succ (k+1) k]; omega
    omega
theorem arr_ups {n : Nat} {p : List Int} (h : Arr n p) : invs p + ups p = invs (falls n) := by
  have h1 := ups_invs (l := p) h.nodup
  have h2 := invs_falls n
  rw [h.len] at h1
  omega


/-! ### effects: the table of an effect, what it makes of a row -/
def pre (row : List Int) (v : Int) (i : Nat) : List Int := (List.range (i + 1)).map fun p => ((zc row v p : Nat) : Int)
theorem pre_zero (row : List Int) (v : Int) : (pre row v 0).map PyData.int = [.int 0] := by
  show [PyData.int ((zc row v 0 : Nat) : Int)] = _
  rw [zc_0]
  rfl
theorem pre_len (row : List Int) (v : Int) (i : Nat) : (pre row v i).length = i + 1 := by unfold pre; rw [List.length_map, List.length_range]
theorem pre_last (row : List Int) (v : Int) (i : Nat) : atI ((pre row v i).map PyData.int) (-1) = some (.int ((zc row v i : Nat) : Int)) := by
  unfold pre
  rw [List.range_succ, List.map_append, List.map_append]
  exact atI_last
theorem pre_step {row : List Int} {v x : Int} {i : Nat} (h : row[i]? = some x) : (pre row v i).map PyData.int ++ [.int (((zc row v i : Nat) : Int) + (if decide (x ≤ v) = true then 1 else 0))] = (pre row v (i + 1)).map PyData.int := by
  unfold pre
  rw [List.range_succ (n := i + 1), List.map_append, List.map_append]
  refine congrArg (fun z => _ ++ [PyData.int z]) ?_
  show _ = ((zc row v (i + 1) : Nat) : Int)
  rw [zc_succ v h]
  by_cases c : x ≤ v
  · rw [if_pos (decide_eq_true c), if_pos c]
    omega
  · rw [if_neg (by simpa using c), if_neg c]
    omega
def tabl (w : List Int) : List (List Int) := (List.range (w.length + 1)).map fun t => pre w ((w.length - t : Nat) : Int) w.length
theorem counts_of_ok {w : List Int} {Q : Sl → List Sl → Prop} (hl : w.length ≤ 1000) (k : Q (.m (.ol ((tabl w).map li))) [.v (li w)]) : sp_counts_of [.v (li w)] Q := by
  unfold sp_counts_of
  walk_at "go"
  rw [List.length_map]
  refine forL_inv (fun t env => env = [.v (li w), .v (.int w.length), .m (.ol (((List.range t).map fun t => pre w ((w.length - t : Nat) : Int) w.length).map li)), .un, .un, .un]) rfl ?_ ?_
  · rintro t d e G hd rfl hG
    obtain ⟨ht, rfl⟩ := rangeD_at hd
    have ht2 : t < w.length + 1 := by omega
    have et : ((w.length : Int) - (0 + (t : Int) * 1)) = ((w.length - t : Nat) : Int) := by omega
    walk_at "go"
    refine forL_inv (fun i env => env = [.v (li w), .v (.int w.length), .m (.ol (((List.range t).map fun t => pre w ((w.length - t : Nat) : Int) w.length).map li)), .v (.int (0 + (t : Int) * 1)), .m (.ol ((pre w ((w.length - t : Nat) : Int) i).map .int)), .un]) ?_ ?_ ?_
    · rw [pre_zero]
      rfl
    · rintro i d e G2 hd2 rfl hG2
      obtain ⟨x, hx, rfl⟩ := map_get hd2
      have hi := (List.getElem?_eq_some_iff.mp hx).1
      walk_at "go"
      refine ⟨_, pre_last _ _ _, ?_⟩
      walk_at "go"
      rw [et]
      refine ⟨lt_line (by rw [List.length_map, pre_len]; omega), ?_⟩
      walk_at "go"
      rw [pre_step hx]
      exact hG2 _ rfl
    · rintro e rfl
      rw [List.length_map]
      walk_at "go"
      have e2 : ((List.range t).map fun t => pre w ((w.length - t : Nat) : Int) w.length).map li ++ [li (pre w ((w.length - t : Nat) : Int) w.length)] = ((List.range (t + 1)).map fun t => pre w ((w.length - t : Nat) : Int) w.length).map li := by
        rw [List.range_succ, List.map_append, List.map_append]
        rfl
      exact hG _ (congrArg (fun l => [Sl.v (li w), .v (.int w.length), .m (.ol l), .un, .un, .un]) e2)
  · rintro e rfl
    rw [rangeD_len, show ((w.length : Int) + 1).toNat = w.length + 1 by omega]
    walk_at "go"
    exact k


theorem pre_get {row : List Int} {v : Int} {i p : Nat} (h : p ≤ i) : (pre row v i)[p]? = some ((zc row v p : Nat) : Int) := by
  unfold pre
  rw [List.getElem?_map, List.getElem?_range (by omega)]
  rfl
theorem tabl_get {w : List Int} {t : Nat} (h : t ≤ w.length) : (tabl w)[t]? = some (pre w ((w.length - t : Nat) : Int) w.length) := by
  unfold tabl
  rw [List.getElem?_map, List.getElem?_range (by omega)]
  rfl
theorem led_ok {n : Nat} {row : List Int} {cs : List (Int × Int)} {v : Int} {Q : Sl → List Sl → Prop} (hl : row.length = n) (hn : n ≤ 1000) (h : ∀ c ∈ cs, Fit n c)
    (k : Q (.m (.ol ((pre (runs row cs) v n).map .int))) [.v (li (pre row v n)), .v (.list ((tabl (runs (falls n) cs)).map li))]) : sp_led [.v (li (pre row v n)), .v (.list ((tabl (runs (falls n) cs)).map li))] Q := by
  have lw : (runs (falls n) cs).length = n := by rw [runs_len h, falls_len]
  have lp : ((pre row v n).map PyData.int).length = n + 1 := by rw [List.length_map, pre_len]
  unfold sp_led
  walk_at "go"
  have el : ((((pre row v n).map PyData.int).length : Int)).toNat = n + 1 := by rw [List.length_map, pre_len]; omega
  rw [el]
  refine compK_m (List.range (n + 1)) (fun i : Nat => PyData.int (0 + (i : Int) * 1)) (fun p => .int ((zc (runs row cs) v p : Nat) : Int)) (by rw [List.length_range]; exact le_line (by omega)) ?_ ?_
  · intro p hp B hB
    have hp2 : p ≤ n := by have := List.mem_range.mp hp; omega
    walk_at "go"
    refine compK_m (List.range (n + 1)) (fun i : Nat => PyData.int (0 + (i : Int) * 1)) (fun s => .int (((zc row v s : Nat) : Int) + ((zc (runs (falls n) cs) ((n - s : Nat) : Int) p : Nat) : Int))) (by rw [List.length_range]; exact le_line (by omega)) ?_ ?_
    · intro s hs B2 hB2
      have hs2 : s ≤ n := by have := List.mem_range.mp hs; omega
      walk_at "go"
      refine ⟨_, atI_at (n := s) (by omega) (pre_get hs2), ?_⟩
      walk_at "go"
      refine ⟨_, atI_at (n := s) (by omega) (tabl_get (by rw [lw]; exact hs2)), ?_⟩
      rw [lw]
      walk_at "go"
      refine ⟨_, atI_at (n := p) (by omega) (pre_get hp2), ?_⟩
      walk_at "go"
      exact hB2 _ rfl rfl
    intro e_ hb_
    try dsimp only
    rw [hb_]
    clear hb_ e_
    walk_at "st"
    have e1 : ((List.range (n + 1)).map fun s => PyData.int (((zc row v s : Nat) : Int) + ((zc (runs (falls n) cs) ((n - s : Nat) : Int) p : Nat) : Int))) = ((List.range (n + 1)).map fun s => ((zc row v s : Nat) : Int) + ((zc (runs (falls n) cs) ((n - s : Nat) : Int) p : Nat) : Int)).map .int := by
      rw [List.map_map]
      rfl
    rw [e1, intsOf_map]
    refine ⟨by rw [List.length_map, List.length_range]; omega, fun m hm least => ?_⟩
    obtain ⟨up, t, ht, et⟩ := zc_res h hl v p hp2
    have em : m = ((zc (runs row cs) v p : Nat) : Int) := by
      obtain ⟨s, hs, rfl⟩ := List.mem_map.mp hm
      have hs2 := List.mem_range.mp hs
      have u1 := up s (by omega)
      have l1 := least _ (List.mem_map.mpr ⟨t, List.mem_range.mpr (by omega), rfl⟩)
      have u1 : zc (runs row cs) v p ≤ zc row v s + zc (runs (falls n) cs) ((n - s : Nat) : Int) p := u1
      have et : zc (runs row cs) v p = zc row v t + zc (runs (falls n) cs) ((n - t : Nat) : Int) p := et
      omega
    subst em
    walk_at "go"
    exact hB _ rfl rfl
  intro e_ hb_
  try dsimp only
  rw [hb_]
  clear hb_ e_
  walk_at "st"
  have e2 : ((List.range (n + 1)).map fun p => PyData.int ((zc (runs row cs) v p : Nat) : Int)) = (pre (runs row cs) v n).map .int := by
    unfold pre
    rw [List.map_map]
    rfl
  rw [e2]
  exact k
theorem low_all : ∀ l : List Int, ∃ u : Int, ∀ x ∈ l, u < x
  | [] => ⟨0, fun x hx => by cases hx⟩
  | y :: l => by
    obtain ⟨u, hu⟩ := low_all l
    refine ⟨min u (y - 1), fun x hx => ?_⟩
    rcases List.mem_cons.mp hx with rfl | h
    · omega
    · have := hu x h
      omega
theorem pre_low {row : List Int} {u : Int} (h : ∀ x ∈ row, u < x) (i : Nat) : pre row u i = List.replicate (i + 1) 0 := by
  unfold pre
  refine List.eq_replicate_iff.mpr ⟨by rw [List.length_map, List.length_range], fun b hb => ?_⟩
  obtain ⟨p, _, rfl⟩ := List.mem_map.mp hb
  have : zc row u p = 0 := by
    unfold zc cntv
    rw [List.countP_eq_zero]
    intro x hx
    have := h x (List.mem_of_mem_take hx)
    simp
    omega
  rw [this]
  rfl
theorem reps (x : PyData) : ∀ m : Nat, (List.replicate m [x]).flatten = List.replicate m x
  | 0 => rfl
  | m + 1 => by
    rw [List.replicate_succ, List.flatten_cons, reps x m, List.replicate_succ]
    rfl
/-- of ascending ones: what is at most the next one is it, or was there -/
theorem asc_next {ms : List Int} (h : ms.Pairwise (· < ·)) {i : Nat} {val x : Int} (hv : ms[i]? = some val) (hx : x ∈ ms) : x ≤ val ↔ x ∈ ms.take (i + 1) := by
  have hp := List.pairwise_iff_getElem.mp h
  obtain ⟨hi, ei⟩ := List.getElem?_eq_some_iff.mp hv
  constructor
  · intro hle
    obtain ⟨j, hj, rfl⟩ := List.mem_iff_getElem.mp hx
    have : j ≤ i := by
      rcases Nat.lt_or_ge i j with c | c
      · have := hp i j hi hj c
        rw [ei] at this
        omega
      · exact c
    exact List.mem_iff_getElem.mpr ⟨j, by rw [List.length_take]; omega, by rw [List.getElem_take]⟩
  · intro hm
    obtain ⟨j, hj, rfl⟩ := List.mem_iff_getElem.mp hm
    rw [List.length_take] at hj
    rw [List.getElem_take]
    rcases Nat.lt_or_ge j i with c | c
    · have := hp j i (by omega) hi c
      rw [ei] at this
      omega
    · have : j = i := by omega
      subst this
      rw [ei]
      exact Int.le_refl _
theorem setM_any {g : List PyData} {p : Nat} {k : Int} {d : PyData} (hk : k = p) (h : p < g.length) : setM (.ol g) k d = some (.ol (g.set p d)) := by
  have := setM_at (f := fun d : PyData => d) (xs := g) (x := d) hk h
  rw [List.map_id', List.map_id'] at this
  exact this
theorem result_in_ok {n : Nat} {row : List Int} {cs : List (Int × Int)} {Q : Sl → List Sl → Prop} (hl : row.length = n) (hn : n < 64) (h : ∀ c ∈ cs, Fit n c)
    (k : Q (.m (.ol ((runs row cs).map .int))) [.v (li row), .v (.list ((tabl (runs (falls n) cs)).map li))]) : sp_result_in [.v (li row), .v (.list ((tabl (runs (falls n) cs)).map li))] Q := by
  have lR : (runs row cs).length = n := by rw [runs_len h, hl]
  have hR : ∀ x ∈ runs row cs, x ∈ row := fun x hx => (runs_perm h).mem_iff.mp hx
  unfold sp_result_in
  walk_at "go"
  rw [intsOf_map]
  refine ⟨by omega, fun ms asc mem => ?_⟩
  walk_at "go"
  generalize hRd : runs row cs = R at *
  obtain ⟨u0, hu0⟩ := low_all R
  refine forL_inv (fun i env => ∃ (g : List PyData) (u : Int) (z : Sl), (z = .m (.ol ((pre R u n).map .int)) ∨ z = .v (li (pre R u n))) ∧ env = [.v (li row), .v (.list ((tabl (runs (falls n) cs)).map li)), .m (.ol g), z, .un, .un, .un, .un, .un, .un] ∧
    g.length = n ∧ (∀ x ∈ R, x ≤ u ↔ x ∈ ms.take i) ∧ ∀ (j : Nat) (x : Int), R[j]? = some x → g[j]? = some (if x ≤ u then .int x else .none)) ⟨List.replicate n .none, u0, _, .inl rfl, ?_, ?_, ?_, ?_⟩ ?_ ?_
  · show [Sl.v (li row), _, Sl.m (.ol (List.replicate ((row.map PyData.int).length : Int).toNat [PyData.none]).flatten), Sl.m (.ol (List.replicate (((row.map PyData.int).length : Int) + 1).toNat [PyData.int 0]).flatten), _, _, _, _, _, _] = _
    rw [reps, reps, List.length_map, hl, pre_low hu0, List.map_replicate, show ((n : Int)).toNat = n from Int.toNat_natCast n, show ((n : Int) + 1).toNat = n + 1 by omega]
  · exact List.length_replicate
  · intro x hx
    have := hu0 x hx
    rw [List.take_zero]
    exact ⟨fun z => by omega, fun z => by cases z⟩
  · intro j x hx
    have hj := (List.getElem?_eq_some_iff.mp hx).1
    have := hu0 x (List.mem_of_getElem? hx)
    rw [if_neg (by omega), List.getElem?_replicate, if_pos (by omega)]
  · rintro i d e G hd ⟨g, u, z, hz, rfl, lg, hu, hg⟩ hG
    obtain ⟨val, hv, rfl⟩ := map_get hd
    have key : ∀ x ∈ R, x ≤ val ↔ x ∈ ms.take (i + 1) := fun x hx => asc_next asc hv ((mem x).mpr (hR x hx))
    walk_at "go"
    refine forL_inv (fun i env => env = [.v (li row), .v (.list ((tabl (runs (falls n) cs)).map li)), .m (.ol g), z, .v (.int val), .m (.ol ((pre row val i).map .int)), .un, .un, .un, .un]) ?_ ?_ ?_
    · rw [pre_zero]
      rfl
    · rintro i d e G2 hd2 rfl hG2
      obtain ⟨x, hx, rfl⟩ := map_get hd2
      have hi := (List.getElem?_eq_some_iff.mp hx).1
      walk_at "go"
      refine ⟨_, pre_last _ _ _, ?_⟩
      walk_at "go"
      refine ⟨lt_line (by rw [List.length_map, pre_len]; omega), ?_⟩
      walk_at "go"
      rw [pre_step hx]
      exact hG2 _ rfl
    · rintro e rfl
      rw [List.length_map, hl]
      walk_at "go"
      refine led_ok hl (by omega) h ?_
      rw [hRd]
      walk_at "st"
      refine forL_inv (fun p env => ∃ g2 : List PyData, env = [.v (li row), .v (.list ((tabl (runs (falls n) cs)).map li)), .m (.ol g2), z, .v (.int val), .un, .un, .m (.ol ((pre R val n).map .int)), .un, .un] ∧ g2.length = n ∧
        ∀ (j : Nat) (x : Int), R[j]? = some x → g2[j]? = some (if x ≤ u ∨ (j < p ∧ x ≤ val) then .int x else .none)) ⟨g, rfl, lg, fun j x hx => ?_⟩ ?_ ?_
      · rw [hg j x hx]
        have : (x ≤ u ∨ (j < 0 ∧ x ≤ val)) ↔ x ≤ u := by omega
        simp only [this]
      · rintro p d e G2 hd2 ⟨g2, rfl, lg2, hg2⟩ hG2
        obtain ⟨hp, rfl⟩ := rangeD_at hd2
        have hp2 : p < n := by
          rw [List.length_map, hl] at hp
          omega
        have hj : p < R.length := by omega
        have ex := List.getElem?_eq_getElem hj
        generalize R[p] = x at ex
        have xm : x ∈ R := List.mem_of_getElem? ex
        have s1 := zc_succ val ex
        have s2 := zc_succ u ex
        rcases hz with rfl | rfl
        all_goals
          walk_at "go"
          refine ⟨_, atI_at (n := p + 1) (by omega) (pre_get (by omega)), ?_⟩
          walk_at "go"
          refine ⟨_, atI_at (n := p) (by omega) (pre_get (by omega)), ?_⟩
          walk_at "go"
          refine ⟨_, atI_at (n := p + 1) (by omega) (pre_get (by omega)), ?_⟩
          walk_at "go"
          refine ⟨_, atI_at (n := p) (by omega) (pre_get (by omega)), ?_⟩
          walk_at "go"
          refine sel_by (fun c => ?_) (fun c => ?_)
          · have c := of_decide_eq_true c
            have hx : x ≤ val ∧ ¬ x ≤ u := by
              split at s1 <;> split at s2 <;> omega
            have xv : x = val := by
              have m1 := (key x xm).mp hx.1
              rw [List.take_add_one, hv] at m1
              rcases List.mem_append.mp m1 with m2 | m2
              · exact absurd ((hu x xm).mpr m2) hx.2
              · exact List.mem_singleton.mp m2
            walk_at "go"
            refine ⟨_, setM_any (p := p) (by omega) (by omega), ?_⟩
            walk_at "go"
            refine hG2 _ ⟨_, rfl, by rw [List.length_set]; exact lg2, fun j y hy => ?_⟩
            by_cases jp : j = p
            · subst jp
              rw [ex] at hy
              cases hy
              rw [List.getElem?_set_self (by omega), if_pos (.inr ⟨by omega, hx.1⟩), xv]
            · rw [List.getElem?_set_ne (by omega), hg2 j y hy]
              have : (y ≤ u ∨ (j < p ∧ y ≤ val)) ↔ (y ≤ u ∨ (j < p + 1 ∧ y ≤ val)) := by omega
              simp only [this]
          · have c := of_decide_eq_false c
            have hx : x ≤ val → x ≤ u := by
              split at s1 <;> split at s2 <;> omega
            walk_at "go"
            refine hG2 _ ⟨g2, rfl, lg2, fun j y hy => ?_⟩
            rw [hg2 j y hy]
            have : (y ≤ u ∨ (j < p ∧ y ≤ val)) ↔ (y ≤ u ∨ (j < p + 1 ∧ y ≤ val)) := by
              by_cases jp : j = p
              · subst jp
                rw [ex] at hy
                cases hy
                omega
              · omega
            simp only [this]
      · rintro e ⟨g2, rfl, lg2, hg2⟩
        rw [rangeD_len, List.length_map, hl, Int.toNat_natCast] at hg2
        walk_at "go"
        refine hG _ ⟨g2, val, _, .inr rfl, rfl, lg2, key, fun j x hx => ?_⟩
        have hj := (List.getElem?_eq_some_iff.mp hx).1
        have xm : x ∈ R := List.mem_of_getElem? hx
        have up : x ≤ u → x ≤ val := fun q => (key x xm).mpr (by
          rw [List.take_add_one]
          exact List.mem_append_left _ ((hu x xm).mp q))
        rw [hg2 j x hx]
        have : (x ≤ u ∨ (j < n ∧ x ≤ val)) ↔ x ≤ val := by
          constructor
          · rintro (q | q)
            · exact up q
            · exact q.2
          · exact fun q => .inr ⟨by omega, q⟩
        simp only [this]
  · rintro e ⟨g, u, z, hz, rfl, lg, hu, hg⟩
    have eg : g = R.map PyData.int := by
      refine List.ext_getElem? fun j => ?_
      rw [List.getElem?_map]
      rcases Nat.lt_or_ge j n with c | c
      · have hj : j < R.length := by omega
        have e1 := List.getElem?_eq_getElem hj
        have xm : R[j] ∈ R := List.getElem_mem hj
        rw [hg j _ e1, e1, if_pos ((hu _ xm).mpr ?_)]
        · rfl
        · rw [List.length_map, List.take_length]
          exact (mem _).mpr (hR _ xm)
      · rw [List.getElem?_eq_none (by omega), List.getElem?_eq_none (by omega)]
        rfl
    subst eg
    rcases hz with rfl | rfl
    all_goals
      walk_at "go"
      exact k
theorem result_ok {n : Nat} {row : List Int} {cs : List (Int × Int)} {Q : Sl → List Sl → Prop} (hl : row.length = n) (hn : n < 64) (h : ∀ c ∈ cs, Fit n c)
    (k : Q (.m (.ol ((runs row cs).map .int))) [.v (li row), .v (li (runs (falls n) cs))]) : sp_result [.v (li row), .v (li (runs (falls n) cs))] Q := by
  have ar : Arr n (runs (falls n) cs) := (runs_perm h).trans (falls_perm n)
  unfold sp_result
  walk_at "go"
  refine check_ok ar (by omega) ?_
  walk_at "st"
  refine sel_f (by rw [List.length_map, List.length_map, hl, ar.len, eqv_int, decide_eq_true rfl]; rfl) ?_
  walk_at "go"
  refine counts_of_ok (by rw [ar.len]; omega) ?_
  walk_at "st"
  refine result_in_ok hl hn h ?_
  walk_at "st"
  exact k


/-! ### k07 -/
theorem values_ok {s : Sl} {n m : Nat} {Q : Sl → List Sl → Prop} (hs : Bg s n) (hn : n + 100 ≤ 2 ^ 30) (hm : m ≤ 60)
    (k : ∀ (row : List Int) s', row.length = m → (∀ x ∈ row, x.natAbs < 2 ^ 120) → Bg s' (n + m + 2) → Q (.m (.ol (row.map .int))) [s', .v (.int m)]) : sp_law_values [s, .v (.int m)] Q := by
  unfold sp_law_values
  obtain ⟨c0, rfl⟩ := hs.m
  walk_at "go"
  refine draw_ok hs (by omega) (by omega) (by omega) fun q s_q q0 q1 g1 => ?_
  obtain ⟨c_q, rfl⟩ := g1.m
  walk_at "st"
  have tb : ∃ far : Int, atI [PyData.int 2, .int 5, .int 60, .int (10 ^ Int.toNat 30)] q = some (.int far) ∧ 1 ≤ far ∧ far ≤ 10 ^ 30 := by
    have : q = 0 ∨ q = 1 ∨ q = 2 ∨ q = 3 := by omega
    rcases this with rfl | rfl | rfl | rfl
    · exact ⟨2, rfl, by decide, by decide⟩
    · exact ⟨5, rfl, by decide, by decide⟩
    · exact ⟨60, rfl, by decide, by decide⟩
    · exact ⟨10 ^ 30, rfl, by decide, by decide⟩
  obtain ⟨far, ef, f0, f1⟩ := tb
  refine ⟨_, ef, ?_⟩
  walk_at "go"
  refine draw_ok g1 (by omega) (by omega) (by omega) fun r s_r r0 r1 g2 => ?_
  obtain ⟨c_r, rfl⟩ := g2.m
  walk_at "st"
  have tb2 : ∃ sh : Int, atI [PyData.int 0, .int (0 - far / 2), .int (0 - far)] r = some (.int sh) ∧ -(10 ^ 30) ≤ sh ∧ sh ≤ 0 := by
    have : r = 0 ∨ r = 1 ∨ r = 2 := by omega
    rcases this with rfl | rfl | rfl
    · exact ⟨0, rfl, by decide, by decide⟩
    · exact ⟨0 - far / 2, rfl, by omega, by omega⟩
    · exact ⟨0 - far, rfl, by omega, by omega⟩
  obtain ⟨sh, es, s0, s1⟩ := tb2
  refine ⟨_, es, ?_⟩
  walk_at "go"
  refine compK_inv (fun k acc env => ∃ (s' y : Sl) (xs : List Int), env = [s', .v (.int m), .v (.int far), .v (.int sh), y] ∧ acc = xs.map .int ∧ xs.length = k ∧ (∀ x ∈ xs, x.natAbs < 2 ^ 120) ∧ Bg s' (n + 2 + k)) ⟨_, _, [], rfl, rfl, rfl, (fun x hx => by cases hx), g2⟩ ?_ ?_
  · rintro i d acc e G3 hd3 ⟨s', y, xs, rfl, rfl, hx, hb, g⟩ hG3
    obtain ⟨hk3, rfl⟩ := rangeD_at hd3
    obtain ⟨c6, rfl⟩ := g.m
    walk_at "go"
    refine draw_ok g (by omega) (by omega) (by omega) fun v s_v v0 v1 g7 => ?_
    obtain ⟨c_v, rfl⟩ := g7.m
    walk_at "st"
    refine ⟨⟨lt_line (by rw [List.length_map, hx]; omega), rfl⟩, hG3 _ _ ⟨_, _, xs ++ [v + sh], rfl, ?_, ?_, ?_, g7⟩⟩
    · rw [List.map_append]
      rfl
    · rw [List.length_append, hx]
      rfl
    · intro x hx
      rcases List.mem_append.mp hx with h | h
      · exact hb x h
      · rw [List.mem_singleton.mp h]
        omega
  · rintro acc e ⟨s', y, xs, rfl, rfl, hx, hb, g⟩
    rw [rangeD_len] at hx g
    have hx2 : xs.length = m := by omega
    obtain ⟨c6, rfl⟩ := g.m
    walk_at "go"
    exact k xs _ hx2 hb (g.mono (by omega))
theorem stretch_idem {n : Nat} {row : List Int} {c : Int × Int} (h : Fit n c) (hl : row.length = n) : stretch (stretch row c) c = stretch row c := by
  have l1 : (stretch row c).length = n := by
    have := runs_len (row := row) (fit_one h)
    rw [hl] at this
    exact this
  have l2 : (stretch (stretch row c) c).length = n := by
    have := runs_len (row := stretch row c) (fit_one h)
    rw [l1] at this
    exact this
  refine zc_ext (by rw [l1, l2]) fun v p _ => ?_
  rw [zc_stretch h l1, show zc (stretch row c) v = cz (lo c) (hi c) (zc row v) from funext fun p => zc_stretch h hl v p, cz_idem (Nat.le_of_lt h.le.1) (zc_zf row v)]
def dbl (cs : List (Int × Int)) : List (Int × Int) := cs.flatMap fun c => [c, c]
theorem runs_dbl {n : Nat} : ∀ {cs : List (Int × Int)} {row : List Int}, (∀ c ∈ cs, Fit n c) → row.length = n → runs row (dbl cs) = runs row cs
  | [], _, _, _ => rfl
  | c :: cs, row, h, hl => by
    have h1 := h c List.mem_cons_self
    show runs (stretch (stretch row c) c) (dbl cs) = runs (stretch row c) cs
    rw [stretch_idem h1 hl]
    refine runs_dbl (fun d hd => h d (List.mem_cons_of_mem _ hd)) ?_
    have := runs_len (row := row) (fit_one h1)
    rw [hl] at this
    exact this
theorem dbl_fit {n : Nat} {cs : List (Int × Int)} (h : ∀ c ∈ cs, Fit n c) : ∀ c ∈ dbl cs, Fit n c := fun c hc => by
  obtain ⟨d, hd, he⟩ := List.mem_flatMap.mp hc
  have : c = d := by simpa using he
  rw [this]
  exact h d hd
theorem dbl_len (cs : List (Int × Int)) : (dbl cs).length = 2 * cs.length := by
  induction cs with
  | nil => rfl
  | cons c cs ih =>
    show (c :: c :: dbl cs).length = _
    rw [List.length_cons, List.length_cons, ih, List.length_cons]
    omega
theorem dbl_step {cs : List (Int × Int)} {i : Nat} {c : Int × Int} (h : cs[i]? = some c) : (dbl (cs.take i)).map ct ++ [ct c, ct c] = (dbl (cs.take (i + 1))).map ct := by
  unfold dbl
  rw [List.take_add_one, h, List.flatMap_append, List.map_append]
  rfl
set_option maxHeartbeats 0 in
theorem law_true (ns : List Int) (hn : ns.length ≤ 63) : sp_law [.m (.scr ns)] fun r _ => r = .v (.bool true) := by
  unfold sp_law
  walk_at "go"
  refine source_ok hn fun s g => ?_
  obtain ⟨c0, rfl⟩ := g.m
  walk_at "st"
  generalize hk : (2 + if (ns.length : Int) < 4 then (ns.length : Int) else 4) = laps
  have l0 : 0 ≤ laps ∧ laps ≤ 6 := by
    split at hk <;> omega
  refine forL_inv (fun i env => ∃ s', env = [.m (.scr ns), s', .un, .un, .un, .un, .un, .un, .un, .un, .un, .un, .un] ∧ Bg s' (10000 * i)) ⟨_, rfl, g⟩ ?_ ?_
  · clear g
    rintro i d e G hd ⟨s, rfl, g⟩ hG
    obtain ⟨hi, rfl⟩ := rangeD_at hd
    obtain ⟨c, rfl⟩ := g.m
    walk_at "go"
    refine draw_ok g (by omega) (by omega) (by omega) fun q s_q q0 q1 g1 => ?_
    obtain ⟨c_q, rfl⟩ := g1.m
    walk_at "st"
    have tb : ∃ wd : Nat, atI [PyData.int 6, .int 25, .int 60] q = some (.int wd) ∧ 1 ≤ wd ∧ wd ≤ 60 := by
      have : q = 0 ∨ q = 1 ∨ q = 2 := by omega
      rcases this with rfl | rfl | rfl
      · exact ⟨6, rfl, by omega, by omega⟩
      · exact ⟨25, rfl, by omega, by omega⟩
      · exact ⟨60, rfl, by omega, by omega⟩
    obtain ⟨wd, ew, w0, w1⟩ := tb
    refine ⟨_, ew, ?_⟩
    walk_at "go"
    refine draw_ok g1 (by omega) (by omega) (by omega) fun r s_r r0 r1 g2 => ?_
    obtain ⟨c_r, rfl⟩ := g2.m
    walk_at "st"
    obtain ⟨m, hm⟩ : ∃ m : Nat, 1 + r = m := ⟨(1 + r).toNat, by omega⟩
    rw [hm]
    refine draw_ok g2 (by omega) (by omega) (by omega) fun u s_u u0 u1 g3 => ?_
    obtain ⟨c_u, rfl⟩ := g3.m
    walk_at "st"
    have tb : ∃ most : Nat, atI [PyData.int 12, .int 200] u = some (.int most) ∧ most ≤ 200 := by
      have : u = 0 ∨ u = 1 := by omega
      rcases this with rfl | rfl
      · exact ⟨12, rfl, by omega⟩
      · exact ⟨200, rfl, by omega⟩
    obtain ⟨most, em, hmo⟩ := tb
    refine ⟨_, em, ?_⟩
    walk_at "go"
    refine script_ok (many := m) (most := most) g3 (by omega) (by omega) (by omega) (by omega) fun acts s4 l4 f4 g4 => ?_
    obtain ⟨c4, rfl⟩ := g4.m
    walk_at "st"
    refine effect_ok (by omega) (by omega) f4 ?_
    walk_at "st"
    have g4 := g4.mono (m := 10000 * i + 1000) (by omega)
    have ar : Arr m (runs (falls m) acts) := (runs_perm f4).trans (falls_perm m)
    refine forL_inv (fun j env => ∃ s' z y, (z = .m (.ol (acts.map ct)) ∨ z = .v (lc acts)) ∧ (y = .m (.ol ((runs (falls m) acts).map .int)) ∨ y = .v (li (runs (falls m) acts))) ∧ env = [.m (.scr ns), s', .un, .v (.int m), z, y, .un, .un, .un, .un, .un, .un, .un] ∧ Bg s' (10000 * i + 1000 + 100 * j)) ⟨_, _, _, by first | exact .inl rfl | exact .inr rfl, .inl rfl, rfl, g4⟩ ?_ ?_
    · clear g g1 g2 g3 g4
      rintro j d e G2 hd2 ⟨s, z, y, hz, hy, rfl, g⟩ hG2
      obtain ⟨hj, rfl⟩ := rangeD_at hd2
      obtain ⟨c, rfl⟩ := g.m
      rcases hz with rfl | rfl
      all_goals
        rcases hy with rfl | rfl
        all_goals
          walk_at "go"
          refine values_ok g (by omega) (by omega) fun row s5 lr sm g5 => ?_
          have g9 := g5
          obtain ⟨bg, bl, bt, bb, rfl, _⟩ := g9
          have sa : ∀ x ∈ runs (falls m) acts, x.natAbs < 2 ^ 120 := fun x hx => by
            have := ar.mem.mp hx
            omega
          have la := ar.len
          have rp := (RD.list (.cons (RD.li (k := 1) (B := 200) sm (by omega)) (.cons (RD.li (k := 1) (B := 200) sa (by omega)) (.nil (B := 0))))).fin (by decide) (by decide)
          have lR : (runs row acts).length = m := by rw [runs_len f4, lr]
          walk_at "st"
          refine law_after_ok lr (by omega) f4 ?_
          walk_at "st"
          refine result_ok lr (by omega) f4 ?_
          walk_at "st"
          refine same_ok rfl (sm_li _ _ (by rw [lR]; omega)) ?_
          walk_at "go"
          refine sel_f (congrArg not (eqv_ss _)) ?_
          walk_at "go"
          rw [cut_to ct acts (by decide)]
          have ft := fit_take f4 (Int.toNat 100)
          have lt : (acts.take (Int.toNat 100)).length ≤ 100 := by
            rw [List.length_take]
            exact Nat.min_le_left _ _
          refine forL_inv (fun t env => env = [.m (.scr ns), .m (srcM bg bl bt bb), .un, .v (.int m), .v (lc acts), .v (li (runs (falls m) acts)), .un, .v (li row), .m (.ol ((runs row acts).map .int)), .un, .un, .m (.ol ((dbl ((acts.take (Int.toNat 100)).take t)).map ct)), .un]) rfl ?_ ?_
          · rintro t d e G3 hd3 rfl hG3
            obtain ⟨x, hx, rfl⟩ := map_get hd3
            have ht := (List.getElem?_eq_some_iff.mp hx).1
            walk_at "go"
            refine ⟨le_line (by rw [List.length_map, dbl_len, List.length_take]; show _ + 2 ≤ _; omega), ?_⟩
            walk_at "go"
            show G3 [.m (.scr ns), .m (srcM bg bl bt bb), .un, .v (.int m), .v (lc acts), .v (li (runs (falls m) acts)), .un, .v (li row), .m (.ol ((runs row acts).map .int)), .un, .un, .m (.ol ((dbl ((acts.take (Int.toNat 100)).take t)).map ct ++ [ct x, ct x])), .un]
            rw [dbl_step hx]
            exact hG3 _ rfl
          · rintro e rfl
            rw [List.length_map, List.take_length]
            walk_at "go"
            refine result_ok lr (by omega) f4 ?_
            walk_at "st"
            refine sel_f (congrArg not ((eqv_li _ _).trans (decide_eq_true rfl))) ?_
            walk_at "go"
            refine effect_ok (by omega) (by omega) (dbl_fit ft) ?_
            walk_at "st"
            rw [cut_to ct acts (by decide)]
            refine effect_ok (by omega) (by omega) ft ?_
            walk_at "st"
            rw [runs_dbl ft (falls_len m)]
            refine sel_f (congrArg not ((eqv_li _ _).trans (decide_eq_true rfl))) ?_
            walk_at "go"
            exact hG2 _ ⟨_, _, _, .inr rfl, .inr rfl, rfl, g5.mono (by omega)⟩
    · rintro e ⟨s, z, y, hz, hy, rfl, g⟩
      walk_at "go"
      exact hG _ ⟨_, rfl, g.mono (by show 10000 * i + 1000 + 100 * 3 ≤ _; omega)⟩
  · rintro e ⟨s, rfl, g⟩
    walk_at "go"
    have e1 : runs (falls 3) [(1, 2), (2, 3)] = [2, 1, 3] := by decide
    have e2 : runs [5, 5, 1] [(1, 2), (2, 3)] = [5, 1, 5] := by decide
    have rs := @result_ok 3 [5, 5, 1] [(1, 2), (2, 3)]
    rw [e1, e2] at rs
    refine rs rfl (by omega) (fitb (by decide)) ?_
    walk_at "st"
    rfl


end K07
namespace K07
open PySem PySem.Spec PyProof.Rows L2 PL

def top (i : Nat) : Stmt := PySem.Challenge.pw_sortstretches_k07_results_without_runnin.main.body.getD i (.Pass ⟨0, 0, 0, 0⟩)
abbrev s_check_size : Stmt := top 7
abbrev s_check_script : Stmt := top 8
abbrev s_check_arrangement : Stmt := top 9
abbrev s_after_command : Stmt := top 10
abbrev s_after_script : Stmt := top 11
abbrev s_descending : Stmt := top 13
abbrev s_effect_in : Stmt := top 14
abbrev s_counts_of : Stmt := top 15
abbrev s_led : Stmt := top 16
abbrev s_result_in : Stmt := top 17
abbrev s_effect : Stmt := top 18
abbrev s_result : Stmt := top 19
abbrev s_law_source : Stmt := top 21
abbrev s_law_draw : Stmt := top 22
abbrev s_law_same : Stmt := top 23
abbrev s_law_script : Stmt := top 24
abbrev s_law_after : Stmt := top 25
abbrev s_law_values : Stmt := top 27
abbrev s_law : Stmt := top 28
/-- what the top has left -/
structure Tx (K : PySem.W.Frag) (mg : Str → Option Value) where
  a_check_size : Addr
  fd_check_size : FuncData
  F_check_size : Fun K "check_size" "check_size" s_check_size a_check_size fd_check_size
  m_check_size : mg "check_size" = some (.ref a_check_size)
  a_check_script : Addr
  fd_check_script : FuncData
  F_check_script : Fun K "check_script" "check_script" s_check_script a_check_script fd_check_script
  m_check_script : mg "check_script" = some (.ref a_check_script)
  a_check_arrangement : Addr
  fd_check_arrangement : FuncData
  F_check_arrangement : Fun K "check_arrangement" "check_arrangement" s_check_arrangement a_check_arrangement fd_check_arrangement
  m_check_arrangement : mg "check_arrangement" = some (.ref a_check_arrangement)
  a_after_command : Addr
  fd_after_command : FuncData
  F_after_command : Fun K "after_command" "after_command" s_after_command a_after_command fd_after_command
  m_after_command : mg "after_command" = some (.ref a_after_command)
  a_after_script : Addr
  fd_after_script : FuncData
  F_after_script : Fun K "after_script" "after_script" s_after_script a_after_script fd_after_script
  m_after_script : mg "after_script" = some (.ref a_after_script)
  a_descending : Addr
  fd_descending : FuncData
  F_descending : Fun K "descending" "descending" s_descending a_descending fd_descending
  m_descending : mg "descending" = some (.ref a_descending)
  a_effect_in : Addr
  fd_effect_in : FuncData
  F_effect_in : Fun K "effect_in" "effect_in" s_effect_in a_effect_in fd_effect_in
  m_effect_in : mg "effect_in" = some (.ref a_effect_in)
  a_counts_of : Addr
  fd_counts_of : FuncData
  F_counts_of : Fun K "counts_of" "counts_of" s_counts_of a_counts_of fd_counts_of
  m_counts_of : mg "counts_of" = some (.ref a_counts_of)
  a_led : Addr
  fd_led : FuncData
  F_led : Fun K "led" "led" s_led a_led fd_led
  m_led : mg "led" = some (.ref a_led)
  a_result_in : Addr
  fd_result_in : FuncData
  F_result_in : Fun K "result_in" "result_in" s_result_in a_result_in fd_result_in
  m_result_in : mg "result_in" = some (.ref a_result_in)
  a_effect : Addr
  fd_effect : FuncData
  F_effect : Fun K "effect" "effect" s_effect a_effect fd_effect
  m_effect : mg "effect" = some (.ref a_effect)
  a_result : Addr
  fd_result : FuncData
  F_result : Fun K "result" "result" s_result a_result fd_result
  m_result : mg "result" = some (.ref a_result)
  a_law_source : Addr
  fd_law_source : FuncData
  F_law_source : Fun K "_law_source" "_law_source" s_law_source a_law_source fd_law_source
  m_law_source : mg "_law_source" = some (.ref a_law_source)
  a_law_draw : Addr
  fd_law_draw : FuncData
  F_law_draw : Fun K "_law_draw" "_law_draw" s_law_draw a_law_draw fd_law_draw
  m_law_draw : mg "_law_draw" = some (.ref a_law_draw)
  a_law_same : Addr
  fd_law_same : FuncData
  F_law_same : Fun K "_law_same" "_law_same" s_law_same a_law_same fd_law_same
  m_law_same : mg "_law_same" = some (.ref a_law_same)
  a_law_script : Addr
  fd_law_script : FuncData
  F_law_script : Fun K "_law_script" "_law_script" s_law_script a_law_script fd_law_script
  m_law_script : mg "_law_script" = some (.ref a_law_script)
  a_law_after : Addr
  fd_law_after : FuncData
  F_law_after : Fun K "_law_after" "_law_after" s_law_after a_law_after fd_law_after
  m_law_after : mg "_law_after" = some (.ref a_law_after)
  a_law_values : Addr
  fd_law_values : FuncData
  F_law_values : Fun K "_law_values" "_law_values" s_law_values a_law_values fd_law_values
  m_law_values : mg "_law_values" = some (.ref a_law_values)
  a_law : Addr
  fd_law : FuncData
  F_law : Fun K "law" "law" s_law a_law fd_law
  m_law : mg "law" = some (.ref a_law)
  n_enumerate : mg "enumerate" = none
  n_len : mg "len" = none
  n_sorted : mg "sorted" = none
  n_list : mg "list" = none
  n_range : mg "range" = none
  n_int : mg "int" = none
  n_min : mg "min" = none
  n_set : mg "set" = none
  n_max : mg "max" = none
  n_isinstance : mg "isinstance" = none
  n_bool : mg "bool" = none
  n_str : mg "str" = none
  n_tuple : mg "tuple" = none
  n_repr : mg "repr" = none
section
variable {P : Program} {w : World} {K : PySem.W.Frag} {mg : Str → Option Value} {base : Heap}
theorem bd_check_size (T : Tx K mg) : Binds K T.fd_check_size ["size"] [] := T.F_check_size.binds fun _ _ _ _ _ _ us hl => match us, hl with | [_], _ => rfl
theorem bd_check_script (T : Tx K mg) : Binds K T.fd_check_script ["size", "script"] [] := T.F_check_script.binds fun _ _ _ _ _ _ us hl => match us, hl with | [_, _], _ => rfl
theorem bd_check_arrangement (T : Tx K mg) : Binds K T.fd_check_arrangement ["row"] [] := T.F_check_arrangement.binds fun _ _ _ _ _ _ us hl => match us, hl with | [_], _ => rfl
theorem bd_after_command (T : Tx K mg) : Binds K T.fd_after_command ["row", "command"] [] := T.F_after_command.binds fun _ _ _ _ _ _ us hl => match us, hl with | [_, _], _ => rfl
theorem bd_after_script (T : Tx K mg) : Binds K T.fd_after_script ["row", "script"] [] := T.F_after_script.binds fun _ _ _ _ _ _ us hl => match us, hl with | [_, _], _ => rfl
theorem bd_descending (T : Tx K mg) : Binds K T.fd_descending ["size"] [] := T.F_descending.binds fun _ _ _ _ _ _ us hl => match us, hl with | [_], _ => rfl
theorem bd_effect_in (T : Tx K mg) : Binds K T.fd_effect_in ["size", "commands"] [] := T.F_effect_in.binds fun _ _ _ _ _ _ us hl => match us, hl with | [_, _], _ => rfl
theorem bd_counts_of (T : Tx K mg) : Binds K T.fd_counts_of ["wanted"] [] := T.F_counts_of.binds fun _ _ _ _ _ _ us hl => match us, hl with | [_], _ => rfl
theorem bd_led (T : Tx K mg) : Binds K T.fd_led ["zeros", "table"] [] := T.F_led.binds fun _ _ _ _ _ _ us hl => match us, hl with | [_, _], _ => rfl
theorem bd_result_in (T : Tx K mg) : Binds K T.fd_result_in ["row", "table"] [] := T.F_result_in.binds fun _ _ _ _ _ _ us hl => match us, hl with | [_, _], _ => rfl
theorem bd_effect (T : Tx K mg) : Binds K T.fd_effect ["size", "commands"] [] := T.F_effect.binds fun _ _ _ _ _ _ us hl => match us, hl with | [_, _], _ => rfl
theorem bd_result (T : Tx K mg) : Binds K T.fd_result ["row", "wanted"] [] := T.F_result.binds fun _ _ _ _ _ _ us hl => match us, hl with | [_, _], _ => rfl
theorem bd_law_source (T : Tx K mg) : Binds K T.fd_law_source ["script"] [] := T.F_law_source.binds fun _ _ _ _ _ _ us hl => match us, hl with | [_], _ => rfl
theorem bd_law_draw (T : Tx K mg) : Binds K T.fd_law_draw ["source", "many"] [] := T.F_law_draw.binds fun _ _ _ _ _ _ us hl => match us, hl with | [_, _], _ => rfl
theorem bd_law_same (T : Tx K mg) : Binds K T.fd_law_same ["found", "due"] [] := T.F_law_same.binds fun _ _ _ _ _ _ us hl => match us, hl with | [_, _], _ => rfl
theorem bd_law_script (T : Tx K mg) : Binds K T.fd_law_script ["source", "size_here", "most"] [] := T.F_law_script.binds fun _ _ _ _ _ _ us hl => match us, hl with | [_, _, _], _ => rfl
theorem bd_law_after (T : Tx K mg) : Binds K T.fd_law_after ["line", "acts"] [] := T.F_law_after.binds fun _ _ _ _ _ _ us hl => match us, hl with | [_, _], _ => rfl
theorem bd_law_values (T : Tx K mg) : Binds K T.fd_law_values ["source", "size_here"] [] := T.F_law_values.binds fun _ _ _ _ _ _ us hl => match us, hl with | [_, _], _ => rfl
theorem bd_law (T : Tx K mg) : Binds K T.fd_law ["script"] [] := T.F_law.binds fun _ _ _ _ _ _ us hl => match us, hl with | [_], _ => rfl
theorem sc_check_size : FnScope ["size"] ["size"] (defScope s_check_size) := ⟨rfl, rfl, rfl, by decide +kernel, rfl, by decide +kernel, by decide +kernel⟩
set_option maxHeartbeats 4000000 in
theorem ok_check_size (T : Tx K mg) : FnG P w K mg base CX0 1 T.a_check_size T.fd_check_size ["size"] (liftSp K 1 [] sp_check_size) := by
  unfold sp_check_size
  exact fng_lift T.F_check_size sc_check_size rfl rfl fun cdv A outer s H E0 E hfx hr hg =>
  have nd : (["size"] : List Str).Nodup := sc_check_size.nd
  (ls_one (ls_if (lt_cmp op_lt o_lt (l_name 0 (pv 0) (Nat.le_of_ble_eq_true rfl)) l_int (nomark _)) (ls_one ls_never) ls_nil))
theorem sc_check_script : FnScope ["size", "script", "index", "first", "last"] ["size", "script"] (defScope s_check_script) := ⟨rfl, rfl, rfl, by decide +kernel, rfl, by decide +kernel, by decide +kernel⟩
set_option maxHeartbeats 4000000 in
theorem ok_check_script (T : Tx K mg) : FnG P w K mg base CX0 1 T.a_check_script T.fd_check_script ["size", "script"] (liftSp K 2 [] sp_check_script) := by
  unfold sp_check_script
  exact fng_lift T.F_check_script sc_check_script rfl rfl fun cdv A outer s H E0 E hfx hr hg =>
  have nd : (["size", "script", "index", "first", "last"] : List Str).Nodup := sc_check_script.nd
  (ls_one (ls_B [2, 3, 4] (ls_for (t := (.tup [(.nm 2), (.tup [(.nm 3), (.nm 4)])])) PassesOwn.never rfl (li_enum (fun ta ha => pi_enum (by rfl) T.n_enumerate ha) (l_acons (l_name 1 (pv 1) (Nat.le_of_ble_eq_true rfl)) l_anil)) (pg_tp rfl (pgs_c (pg_nm (pg_name (i := 2) nd rfl (Or.inl rfl))) (pgs_c (pg_tp rfl (pgs_c (pg_nm (pg_name (i := 3) nd rfl (Or.inl rfl))) (pgs_c (pg_nm (pg_name (i := 4) nd rfl (Or.inl rfl))) pgs_n))) pgs_n))) (fix_all hfx rfl) (ls_W [2, 3, 4] (ls_one (ls_if (lt_not (lt_chain3 op_le o_le op_le o_le op_le o_le l_int (l_name 3 (pv 3) (Nat.le_of_ble_eq_true rfl)) (l_name 4 (pv 4) (Nat.le_of_ble_eq_true rfl)) (l_name 0 (pv 0) (Nat.le_of_ble_eq_true rfl)))) (ls_one ls_never) ls_nil))))))
theorem sc_check_arrangement : FnScope ["row", "seen", "index", "value"] ["row"] (defScope s_check_arrangement) := ⟨rfl, rfl, rfl, by decide +kernel, rfl, by decide +kernel, by decide +kernel⟩
set_option maxHeartbeats 4000000 in
theorem ok_check_arrangement (T : Tx K mg) : FnG P w K mg base CX0 1 T.a_check_arrangement T.fd_check_arrangement ["row"] (liftSp K 1 [] sp_check_arrangement) := by
  unfold sp_check_arrangement
  exact fng_lift T.F_check_arrangement sc_check_arrangement rfl rfl fun cdv A outer s H E0 E hfx hr hg =>
  have nd : (["row", "seen", "index", "value"] : List Str).Nodup := sc_check_arrangement.nd
  (ls_cons (ls_set (i := 1) (Nat.le_of_ble_eq_true rfl) (hfx 1 (by decide)) (fun te he => ps_set nd rfl (Or.inl rfl) he) l_dnew)
 (ls_one (ls_B [2, 3] (ls_for (t := (.tup [(.nm 2), (.nm 3)])) PassesOwn.never rfl (li_enum (fun ta ha => pi_enum (by rfl) T.n_enumerate ha) (l_acons (l_name 0 (pv 0) (Nat.le_of_ble_eq_true rfl)) l_anil)) (pg_tp rfl (pgs_c (pg_nm (pg_name (i := 2) nd rfl (Or.inl rfl))) (pgs_c (pg_nm (pg_name (i := 3) nd rfl (Or.inl rfl))) pgs_n))) (fix_all hfx rfl) (ls_W [2, 3] (ls_cons (ls_if (PW.pt (lw_or (lt_not (lt_chain op_le o_le op_le o_le l_int (l_name 3 (pv 3) (Nat.le_of_ble_eq_true rfl)) (l_lenM 0 (pv 0) (Nat.le_of_ble_eq_true rfl) (by rfl) T.n_len (by decide +kernel)))) (lw_or1 (lt_din 1 (un64 hr) (pv 1) (Nat.le_of_ble_eq_true rfl) (l_name 3 (pv 3) (Nat.le_of_ble_eq_true rfl)))))) (ls_one ls_never) ls_nil)
 (ls_one (ls_dput 1 (un64 hr) (pv 1) (Nat.le_of_ble_eq_true rfl) (l_name 3 (pv 3) (Nat.le_of_ble_eq_true rfl)) l_bl))))))))
theorem sc_after_command : FnScope ["row", "command", "first", "last"] ["row", "command"] (defScope s_after_command) := ⟨rfl, rfl, rfl, by decide +kernel, rfl, by decide +kernel, by decide +kernel⟩
set_option maxHeartbeats 4000000 in
theorem ok_after_command (T : Tx K mg) : FnG P w K mg base CX0 1 T.a_after_command T.fd_after_command ["row", "command"] (liftSp K 2 [] sp_after_command) := by
  unfold sp_after_command
  exact fng_lift T.F_after_command sc_after_command rfl rfl fun cdv A outer s H E0 E hfx hr hg =>
  have nd : (["row", "command", "first", "last"] : List Str).Nodup := sc_after_command.nd
  (ls_cons (ls_unp (t := (.tup [(.nm 2), (.nm 3)])) (fix_all hfx rfl) (fun te he => ps_asg he (pg_tp rfl (pgs_c (pg_nm (pg_name (i := 2) nd rfl (Or.inl rfl))) (pgs_c (pg_nm (pg_name (i := 3) nd rfl (Or.inl rfl))) pgs_n)))) (l_name 1 (pv 1) (Nat.le_of_ble_eq_true rfl)))
 (ls_one (ls_ret (l_lst (l_astar (l_e (l_sliceN 0 (pv 0) (Nat.le_of_ble_eq_true rfl) lb_none (lb_some (l_e (l_bin op_sub o_sub (l_name 2 (pv 2) (Nat.le_of_ble_eq_true rfl)) l_int))))) (l_astar (l_e (l_callB cr_sortedI o_sorted (by rfl) T.n_sorted (by decide +kernel) (l_acons (l_e (l_sliceN 0 (pv 0) (Nat.le_of_ble_eq_true rfl) (lb_some (l_e (l_bin op_sub o_sub (l_name 2 (pv 2) (Nat.le_of_ble_eq_true rfl)) l_int))) (lb_some (l_name 3 (pv 3) (Nat.le_of_ble_eq_true rfl))))) l_anil))) (l_astar (l_e (l_sliceN 0 (pv 0) (Nat.le_of_ble_eq_true rfl) (lb_some (l_name 3 (pv 3) (Nat.le_of_ble_eq_true rfl))) lb_none)) l_anil)))))))
theorem sc_after_script : FnScope ["row", "script", "found", "command"] ["row", "script"] (defScope s_after_script) := ⟨rfl, rfl, rfl, by decide +kernel, rfl, by decide +kernel, by decide +kernel⟩
set_option maxHeartbeats 4000000 in
theorem ok_after_script (T : Tx K mg) : FnG P w K mg base CX0 2 T.a_after_script T.fd_after_script ["row", "script"] (liftSp K 2 [] sp_after_script) := by
  unfold sp_after_script
  exact fng_lift T.F_after_script sc_after_script rfl rfl fun cdv A outer s H E0 E hfx hr hg =>
  have nd : (["row", "script", "found", "command"] : List Str).Nodup := sc_after_script.nd
  (ls_cons (ls_set (i := 2) (Nat.le_of_ble_eq_true rfl) (hfx 2 (by decide)) (fun te he => ps_set nd rfl (Or.inl rfl) he) (l_callTy call_list_of o_copy (by rfl) T.n_list (by decide +kernel) (l_acons (l_name 0 (pv 0) (Nat.le_of_ble_eq_true rfl)) l_anil)))
 (ls_cons (ls_B [0, 3] (ls_for (t := (.nm 3)) PassesOwn.never rfl (li_list (l_name 1 (pv 1) (Nat.le_of_ble_eq_true rfl))) (pg_nm (pg_name (i := 3) nd rfl (Or.inl rfl))) (fix_all hfx rfl) (ls_W [0, 3] (ls_one (ls_set (i := 2) (Nat.le_of_ble_eq_true rfl) (hfx 2 (by decide)) (fun te he => ps_set nd rfl (Or.inl rfl) he) (l_call (ok_after_command T) (hr.mono (by decide)) hg (by rfl) T.m_after_command T.F_after_command.kp (bd_after_command T) (l_acons (l_name 2 (pv 2) (Nat.le_of_ble_eq_true rfl)) (l_acons (l_name 3 (pv 3) (Nat.le_of_ble_eq_true rfl)) l_anil))))))))
 (ls_one (ls_retName 2 (pv 2)))))
theorem sc_descending : FnScope ["size"] ["size"] (defScope s_descending) := ⟨rfl, rfl, rfl, by decide +kernel, rfl, by decide +kernel, by decide +kernel⟩
set_option maxHeartbeats 4000000 in
theorem ok_descending (T : Tx K mg) : FnG P w K mg base CX0 1 T.a_descending T.fd_descending ["size"] (liftSp K 1 [] sp_descending) := by
  unfold sp_descending
  exact fng_lift T.F_descending sc_descending rfl rfl fun cdv A outer s H E0 E hfx hr hg =>
  have nd : (["size"] : List Str).Nodup := sc_descending.nd
  (ls_one (ls_ret (l_listRng rfl rfl (by rfl) T.n_list (by rfl) T.n_range (l_acons (l_name 0 (pv 0) (Nat.le_of_ble_eq_true rfl)) (l_acons l_int (l_acons (l_e (l_neg l_int)) l_anil))) (by rfl) (by rfl) (by rfl))))
theorem sc_effect_in : FnScope ["size", "commands"] ["size", "commands"] (defScope s_effect_in) := ⟨rfl, rfl, rfl, by decide +kernel, rfl, by decide +kernel, by decide +kernel⟩
set_option maxHeartbeats 4000000 in
theorem ok_effect_in (T : Tx K mg) : FnG P w K mg base CX0 3 T.a_effect_in T.fd_effect_in ["size", "commands"] (liftSp K 2 [] sp_effect_in) := by
  unfold sp_effect_in
  exact fng_lift T.F_effect_in sc_effect_in rfl rfl fun cdv A outer s H E0 E hfx hr hg =>
  have nd : (["size", "commands"] : List Str).Nodup := sc_effect_in.nd
  (ls_one (ls_ret (l_call (ok_after_script T) (hr.mono (by decide)) hg (by rfl) T.m_after_script T.F_after_script.kp (bd_after_script T) (l_acons (l_e (l_call (ok_descending T) (hr.mono (by decide)) hg (by rfl) T.m_descending T.F_descending.kp (bd_descending T) (l_acons (l_name 0 (pv 0) (Nat.le_of_ble_eq_true rfl)) l_anil))) (l_acons (l_name 1 (pv 1) (Nat.le_of_ble_eq_true rfl)) l_anil)))))
theorem sc_counts_of : FnScope ["wanted", "size", "table", "ones", "row", "value"] ["wanted"] (defScope s_counts_of) := ⟨rfl, rfl, rfl, by decide +kernel, rfl, by decide +kernel, by decide +kernel⟩
set_option maxHeartbeats 4000000 in
theorem ok_counts_of (T : Tx K mg) : FnG P w K mg base CX0 1 T.a_counts_of T.fd_counts_of ["wanted"] (liftSp K 1 [] sp_counts_of) := by
  unfold sp_counts_of
  exact fng_lift T.F_counts_of sc_counts_of rfl rfl fun cdv A outer s H E0 E hfx hr hg =>
  have nd : (["wanted", "size", "table", "ones", "row", "value"] : List Str).Nodup := sc_counts_of.nd
  (ls_cons (ls_set (i := 1) (Nat.le_of_ble_eq_true rfl) (hfx 1 (by decide)) (fun te he => ps_set nd rfl (Or.inl rfl) he) (l_v (l_lenM 0 (pv 0) (Nat.le_of_ble_eq_true rfl) (by rfl) T.n_len (by decide +kernel))))
 (ls_cons (ls_set (i := 2) (Nat.le_of_ble_eq_true rfl) (hfx 2 (by decide)) (fun te he => ps_set nd rfl (Or.inl rfl) he) (l_lst l_anil))
 (ls_cons (ls_B [3, 4, 5] (ls_for (t := (.nm 3)) PassesOwn.never rfl (li_rng1 (by rfl) T.n_range (l_acons (l_e (l_bin or_add o_add (l_name 1 (pv 1) (Nat.le_of_ble_eq_true rfl)) l_int)) l_anil)) (pg_nm (pg_name (i := 3) nd rfl (Or.inl rfl))) (fix_all hfx rfl) (ls_W [3, 4, 5] (ls_cons (ls_set (i := 4) (Nat.le_of_ble_eq_true rfl) (hfx 4 (by decide)) (fun te he => ps_set nd rfl (Or.inl rfl) he) (l_lst (l_acons l_int l_anil)))
 (ls_cons (ls_B [5] (ls_for (t := (.nm 5)) PassesOwn.never rfl (li_list (l_name 0 (pv 0) (Nat.le_of_ble_eq_true rfl))) (pg_nm (pg_name (i := 5) nd rfl (Or.inl rfl))) (fix_all hfx rfl) (ls_W [5] (ls_one (ls_expr (l_v (l_meth 4 m_append (Nat.le_of_ble_eq_true rfl) (fun t ht => pe_bm PySem.F.plainAttrs_list PySem.F.slot_list_append PySem.F.type_list_append mt_append (pv 4) ht) (l_acons (l_e (l_bin or_add o_add (l_ixN 4 (fun _ _ => rfl) (pv 4) (Nat.le_of_ble_eq_true rfl) (l_e (l_neg l_int))) (l_e (l_callTy call_int1 o_int (by rfl) T.n_int (by decide +kernel) (l_acons (l_e (l_cmp op_le o_le (l_name 5 (pv 5) (Nat.le_of_ble_eq_true rfl)) (l_e (l_bin op_sub o_sub (l_name 1 (pv 1) (Nat.le_of_ble_eq_true rfl)) (l_name 3 (pv 3) (Nat.le_of_ble_eq_true rfl)))) (nomark _))) l_anil))))) l_anil))))))))
 (ls_one (ls_expr (l_v (l_meth 2 m_append (Nat.le_of_ble_eq_true rfl) (fun t ht => pe_bm PySem.F.plainAttrs_list PySem.F.slot_list_append PySem.F.type_list_append mt_append (pv 2) ht) (l_acons (l_name 4 (pv 4) (Nat.le_of_ble_eq_true rfl)) l_anil))))))))))
 (ls_one (ls_retName 2 (pv 2))))))
theorem sc_led : FnScope ["zeros", "table", "places", "place", "start"] ["zeros", "table"] (defScope s_led) := ⟨rfl, rfl, rfl, by decide +kernel, rfl, by decide +kernel, by decide +kernel⟩
set_option maxHeartbeats 4000000 in
theorem ok_led (T : Tx K mg) : FnG P w K mg base CX0 1 T.a_led T.fd_led ["zeros", "table"] (liftSp K 2 [] sp_led) := by
  unfold sp_led
  exact fng_lift T.F_led sc_led rfl rfl fun cdv A outer s H E0 E hfx hr hg =>
  have nd : (["zeros", "table", "places", "place", "start"] : List Str).Nodup := sc_led.nd
  (ls_cons (ls_set (i := 2) (Nat.le_of_ble_eq_true rfl) (hfx 2 (by decide)) (fun te he => ps_set nd rfl (Or.inr rfl) he) (l_listRng rfl rfl (by rfl) T.n_list (by rfl) T.n_range (l_acons (l_lenM 0 (pv 0) (Nat.le_of_ble_eq_true rfl) (by rfl) T.n_len (by decide +kernel)) l_anil) (by rfl) (by rfl) (by rfl)))
 (ls_one (ls_ret (l_lc (own := [("place", 3)]) (t := (.nm 3)) rfl nd (li_list (l_name 2 (pv 2) (Nat.le_of_ble_eq_true rfl))) (by kernel_rfl) (mem_all rfl) (fix_all hfx rfl) (fun _ _ _ _ _ => (pg_nm (pg_name (i := 3) nd rfl (by first | exact Or.inl rfl | exact Or.inr rfl)))) (fun _ _ _ _ _ => pts_yes) (fun _ _ _ _ _ => pe_any fun E1 hE1 => (l_e (l_callB (c_min rfl) o_min (by rfl) T.n_min (by decide +kernel) (l_acons (l_e (l_lc (own := [("start", 4)]) (t := (.nm 4)) rfl nd (li_list (l_name 2 (pv 2) (Nat.le_of_ble_eq_true rfl))) (by kernel_rfl) (mem_all rfl) (fix_all (fun i hi => (congrFun hE1 i).trans (hfx i hi)) rfl) (fun _ _ _ _ _ => (pg_nm (pg_name (i := 4) nd rfl (by first | exact Or.inl rfl | exact Or.inr rfl)))) (fun _ _ _ _ _ => pts_yes) (fun _ _ _ _ _ => pe_any fun E2 hE2 => (l_e (l_bin or_add o_add (l_ixN 0 (fun _ _ => rfl) (pv 0) (Nat.le_of_ble_eq_true rfl) (l_name 4 (pv 4) (Nat.le_of_ble_eq_true rfl))) (l_e (l_ix (fun _ _ => rfl) (l_ixN 1 (fun _ _ => rfl) (pv 1) (Nat.le_of_ble_eq_true rfl) (l_name 4 (pv 4) (Nat.le_of_ble_eq_true rfl))) (l_name 3 (pv 3) (Nat.le_of_ble_eq_true rfl))))))))) l_anil))))))))
theorem sc_result_in : FnScope ["row", "table", "found", "before", "value", "zeros", "other", "after", "place", "is_here"] ["row", "table"] (defScope s_result_in) := ⟨rfl, rfl, rfl, by decide +kernel, rfl, by decide +kernel, by decide +kernel⟩
set_option maxHeartbeats 4000000 in
theorem ok_result_in (T : Tx K mg) : FnG P w K mg base CX0 2 T.a_result_in T.fd_result_in ["row", "table"] (liftSp K 2 [] sp_result_in) := by
  unfold sp_result_in
  exact fng_lift T.F_result_in sc_result_in rfl rfl fun cdv A outer s H E0 E hfx hr hg =>
  have nd : (["row", "table", "found", "before", "value", "zeros", "other", "after", "place", "is_here"] : List Str).Nodup := sc_result_in.nd
  (ls_cons (ls_set (i := 2) (Nat.le_of_ble_eq_true rfl) (hfx 2 (by decide)) (fun te he => ps_set nd rfl (Or.inl rfl) he) (l_bin or_mul o_mul (l_e (l_lst (l_acons l_non l_anil))) (l_lenM 0 (pv 0) (Nat.le_of_ble_eq_true rfl) (by rfl) T.n_len (by decide +kernel))))
 (ls_cons (ls_set (i := 3) (Nat.le_of_ble_eq_true rfl) (hfx 3 (by decide)) (fun te he => ps_set nd rfl (Or.inl rfl) he) (l_bin or_mul o_mul (l_e (l_lst (l_acons l_int l_anil))) (l_e (l_bin or_add o_add (l_lenM 0 (pv 0) (Nat.le_of_ble_eq_true rfl) (by rfl) T.n_len (by decide +kernel)) l_int))))
 (ls_cons (ls_B [4, 5, 6, 7, 8, 9] (ls_for (t := (.nm 4)) PassesOwn.never rfl (li_list (l_e (l_sortSet rfl (by rfl) T.n_sorted (by decide +kernel) (by rfl) T.n_set (by decide +kernel) (l_acons (l_name 0 (pv 0) (Nat.le_of_ble_eq_true rfl)) l_anil)))) (pg_nm (pg_name (i := 4) nd rfl (Or.inl rfl))) (fix_all hfx rfl) (ls_W [4, 5, 6, 7, 8, 9] (ls_cons (ls_set (i := 5) (Nat.le_of_ble_eq_true rfl) (hfx 5 (by decide)) (fun te he => ps_set nd rfl (Or.inl rfl) he) (l_lst (l_acons l_int l_anil)))
 (ls_cons (ls_B [6, 7, 8, 9] (ls_for (t := (.nm 6)) PassesOwn.never rfl (li_list (l_name 0 (pv 0) (Nat.le_of_ble_eq_true rfl))) (pg_nm (pg_name (i := 6) nd rfl (Or.inl rfl))) (fix_all hfx rfl) (ls_W [6, 7, 8, 9] (ls_one (ls_expr (l_v (l_meth 5 m_append (Nat.le_of_ble_eq_true rfl) (fun t ht => pe_bm PySem.F.plainAttrs_list PySem.F.slot_list_append PySem.F.type_list_append mt_append (pv 5) ht) (l_acons (l_e (l_bin or_add o_add (l_ixN 5 (fun _ _ => rfl) (pv 5) (Nat.le_of_ble_eq_true rfl) (l_e (l_neg l_int))) (l_e (l_callTy call_int1 o_int (by rfl) T.n_int (by decide +kernel) (l_acons (l_e (l_cmp op_le o_le (l_name 6 (pv 6) (Nat.le_of_ble_eq_true rfl)) (l_name 4 (pv 4) (Nat.le_of_ble_eq_true rfl)) (nomark _))) l_anil))))) l_anil))))))))
 (ls_cons (ls_set (i := 7) (Nat.le_of_ble_eq_true rfl) (hfx 7 (by decide)) (fun te he => ps_set nd rfl (Or.inl rfl) he) (l_call (ok_led T) (hr.mono (by decide)) hg (by rfl) T.m_led T.F_led.kp (bd_led T) (l_acons (l_name 5 (pv 5) (Nat.le_of_ble_eq_true rfl)) (l_acons (l_name 1 (pv 1) (Nat.le_of_ble_eq_true rfl)) l_anil))))
 (ls_cons (ls_B [5, 6, 8, 9] (ls_for (t := (.nm 8)) PassesOwn.never rfl (li_rng1 (by rfl) T.n_range (l_acons (l_lenM 0 (pv 0) (Nat.le_of_ble_eq_true rfl) (by rfl) T.n_len (by decide +kernel)) l_anil)) (pg_nm (pg_name (i := 8) nd rfl (Or.inl rfl))) (fix_all hfx rfl) (ls_W [5, 6, 8, 9] (ls_cons (ls_set (i := 9) (Nat.le_of_ble_eq_true rfl) (hfx 9 (by decide)) (fun te he => ps_set nd rfl (Or.inl rfl) he) (l_v (l_e (l_cmp op_gt o_gt (l_e (l_bin op_sub o_sub (l_ixN 7 (fun _ _ => rfl) (pv 7) (Nat.le_of_ble_eq_true rfl) (l_e (l_bin or_add o_add (l_name 8 (pv 8) (Nat.le_of_ble_eq_true rfl)) l_int))) (l_ixN 7 (fun _ _ => rfl) (pv 7) (Nat.le_of_ble_eq_true rfl) (l_name 8 (pv 8) (Nat.le_of_ble_eq_true rfl))))) (l_e (l_bin op_sub o_sub (l_ixN 3 (fun _ _ => rfl) (pv 3) (Nat.le_of_ble_eq_true rfl) (l_e (l_bin or_add o_add (l_name 8 (pv 8) (Nat.le_of_ble_eq_true rfl)) l_int))) (l_ixN 3 (fun _ _ => rfl) (pv 3) (Nat.le_of_ble_eq_true rfl) (l_name 8 (pv 8) (Nat.le_of_ble_eq_true rfl))))) (nomark _)))))
 (ls_one (ls_if (lt_val (l_v (l_name 9 (pv 9) (Nat.le_of_ble_eq_true rfl)))) (ls_one (ls_setIx 2 (Nat.le_of_ble_eq_true rfl) (fun te ti he hi => ps_asg he (pg_sub (pv 2) hi set_list)) (l_name 4 (pv 4) (Nat.le_of_ble_eq_true rfl)) (l_name 8 (pv 8) (Nat.le_of_ble_eq_true rfl)))) ls_nil))))))
 (ls_one (ls_set (i := 3) (Nat.le_of_ble_eq_true rfl) (hfx 3 (by decide)) (fun te he => ps_set nd rfl (Or.inl rfl) he) (l_v (l_name 7 (pv 7) (Nat.le_of_ble_eq_true rfl))))))))))))
 (ls_one (ls_retName 2 (pv 2))))))
theorem sc_effect : FnScope ["size", "commands"] ["size", "commands"] (defScope s_effect) := ⟨rfl, rfl, rfl, by decide +kernel, rfl, by decide +kernel, by decide +kernel⟩
set_option maxHeartbeats 4000000 in
theorem ok_effect (T : Tx K mg) : FnG P w K mg base CX0 4 T.a_effect T.fd_effect ["size", "commands"] (liftSp K 2 [] sp_effect) := by
  unfold sp_effect
  exact fng_lift T.F_effect sc_effect rfl rfl fun cdv A outer s H E0 E hfx hr hg =>
  have nd : (["size", "commands"] : List Str).Nodup := sc_effect.nd
  (ls_cons (ls_expr (l_call (ok_check_size T) (hr.mono (by decide)) hg (by rfl) T.m_check_size T.F_check_size.kp (bd_check_size T) (l_acons (l_name 0 (pv 0) (Nat.le_of_ble_eq_true rfl)) l_anil)))
 (ls_cons (ls_expr (l_call (ok_check_script T) (hr.mono (by decide)) hg (by rfl) T.m_check_script T.F_check_script.kp (bd_check_script T) (l_acons (l_name 0 (pv 0) (Nat.le_of_ble_eq_true rfl)) (l_acons (l_name 1 (pv 1) (Nat.le_of_ble_eq_true rfl)) l_anil))))
 (ls_one (ls_ret (l_call (ok_effect_in T) (hr.mono (by decide)) hg (by rfl) T.m_effect_in T.F_effect_in.kp (bd_effect_in T) (l_acons (l_name 0 (pv 0) (Nat.le_of_ble_eq_true rfl)) (l_acons (l_name 1 (pv 1) (Nat.le_of_ble_eq_true rfl)) l_anil)))))))
theorem sc_result : FnScope ["row", "wanted"] ["row", "wanted"] (defScope s_result) := ⟨rfl, rfl, rfl, by decide +kernel, rfl, by decide +kernel, by decide +kernel⟩
set_option maxHeartbeats 4000000 in
theorem ok_result (T : Tx K mg) : FnG P w K mg base CX0 3 T.a_result T.fd_result ["row", "wanted"] (liftSp K 2 [] sp_result) := by
  unfold sp_result
  exact fng_lift T.F_result sc_result rfl rfl fun cdv A outer s H E0 E hfx hr hg =>
  have nd : (["row", "wanted"] : List Str).Nodup := sc_result.nd
  (ls_cons (ls_expr (l_call (ok_check_arrangement T) (hr.mono (by decide)) hg (by rfl) T.m_check_arrangement T.F_check_arrangement.kp (bd_check_arrangement T) (l_acons (l_name 1 (pv 1) (Nat.le_of_ble_eq_true rfl)) l_anil)))
 (ls_cons (ls_if (lt_cmp (op_neP (un64 hr)) o_ne (l_lenM 0 (pv 0) (Nat.le_of_ble_eq_true rfl) (by rfl) T.n_len (by decide +kernel)) (l_lenM 1 (pv 1) (Nat.le_of_ble_eq_true rfl) (by rfl) T.n_len (by decide +kernel)) (nomark _)) (ls_one ls_never) ls_nil)
 (ls_one (ls_ret (l_call (ok_result_in T) (hr.mono (by decide)) hg (by rfl) T.m_result_in T.F_result_in.kp (bd_result_in T) (l_acons (l_name 0 (pv 0) (Nat.le_of_ble_eq_true rfl)) (l_acons (l_e (l_call (ok_counts_of T) (hr.mono (by decide)) hg (by rfl) T.m_counts_of T.F_counts_of.kp (bd_counts_of T) (l_acons (l_name 1 (pv 1) (Nat.le_of_ble_eq_true rfl)) l_anil))) l_anil)))))))
theorem sc_law_source : FnScope ["script", "mix", "digits", "cell", "span"] ["script"] (defScope s_law_source) := ⟨rfl, rfl, rfl, by decide +kernel, rfl, by decide +kernel, by decide +kernel⟩
set_option maxHeartbeats 4000000 in
theorem ok_law_source (T : Tx K mg) : FnG P w K mg base CX0 1 T.a_law_source T.fd_law_source ["script"] (liftSp K 1 [0] sp_law_source) := by
  unfold sp_law_source
  exact fng_lift T.F_law_source sc_law_source rfl rfl fun cdv A outer s H E0 E hfx hr hg =>
  have nd : (["script", "mix", "digits", "cell", "span"] : List Str).Nodup := sc_law_source.nd
  (ls_cons (ls_set (i := 1) (Nat.le_of_ble_eq_true rfl) (hfx 1 (by decide)) (fun te he => ps_set nd rfl (Or.inl rfl) he) (l_v l_int))
 (ls_cons (ls_set (i := 2) (Nat.le_of_ble_eq_true rfl) (hfx 2 (by decide)) (fun te he => ps_set nd rfl (Or.inl rfl) he) (l_lst l_anil))
 (ls_cons (ls_B [3, 4] (ls_for (t := (.nm 3)) PassesOwn.never rfl (li_scr 0 (pv 0) (Nat.le_of_ble_eq_true rfl)) (pg_nm (pg_name (i := 3) nd rfl (Or.inl rfl))) (fix_all hfx rfl) (ls_W [3, 4] (ls_cons (ls_set (i := 1) (Nat.le_of_ble_eq_true rfl) (hfx 1 (by decide)) (fun te he => ps_set nd rfl (Or.inl rfl) he) (l_bin op_mod o_mod (l_e (l_bin or_add o_add (l_e (l_bin or_mul o_mul (l_name 1 (pv 1) (Nat.le_of_ble_eq_true rfl)) l_int)) (l_name 3 (pv 3) (Nat.le_of_ble_eq_true rfl)))) (l_e (l_bin op_sub o_sub (l_e (l_bin or_pow o_pow l_int l_int)) l_int))))
 (ls_cons (ls_set (i := 4) (Nat.le_of_ble_eq_true rfl) (hfx 4 (by decide)) (fun te he => ps_set nd rfl (Or.inl rfl) he) (l_v (l_e (l_callB (c_max rfl) o_max (by rfl) T.n_max (by decide +kernel) (l_acons (l_name 3 (pv 3) (Nat.le_of_ble_eq_true rfl)) (l_acons (l_e (l_bin op_sub o_sub l_int (l_name 3 (pv 3) (Nat.le_of_ble_eq_true rfl)))) l_anil))))))
 (ls_one (ls_if (lt_cmp op_ge o_ge (l_name 4 (pv 4) (Nat.le_of_ble_eq_true rfl)) (l_e (l_bin or_pow o_pow l_int l_int)) (nomark _)) (ls_one (ls_expr (l_v (l_meth 2 m_append (Nat.le_of_ble_eq_true rfl) (fun t ht => pe_bm PySem.F.plainAttrs_list PySem.F.slot_list_append PySem.F.type_list_append mt_append (pv 2) ht) (l_acons (l_e (l_bin op_sub o_sub (l_name 4 (pv 4) (Nat.le_of_ble_eq_true rfl)) (l_e (l_bin or_pow o_pow l_int l_int)))) l_anil))))) ls_nil)))))))
 (ls_one (ls_ret (l_lstO (lo_cons (l_move 2 (pv 2) (Nat.le_of_ble_eq_true rfl)) (fun E1 hE1 => (lo_cons (l_v l_int) (fun E2 hE2 => (lo_cons (l_v (l_name 1 (pv 1) (Nat.le_of_ble_eq_true rfl))) (fun E3 hE3 => (lo_cons (l_v l_int) (fun E4 hE4 => lo_nil))))))))))))))
theorem sc_law_draw : FnScope ["source", "many", "drawn", "mixed"] ["source", "many"] (defScope s_law_draw) := ⟨rfl, rfl, rfl, by decide +kernel, rfl, by decide +kernel, by decide +kernel⟩
set_option maxHeartbeats 4000000 in
theorem ok_law_draw (T : Tx K mg) : FnG P w K mg base CX0 1 T.a_law_draw T.fd_law_draw ["source", "many"] (liftSp K 2 [0] sp_law_draw) := by
  unfold sp_law_draw
  exact fng_lift T.F_law_draw sc_law_draw rfl rfl fun cdv A outer s H E0 E hfx hr hg =>
  have nd : (["source", "many", "drawn", "mixed"] : List Str).Nodup := sc_law_draw.nd
  (ls_cons (ls_B [2, 3] (ls_while PassesOwn.never (lt_bor [0] (PW.pt (lw_and (lt_cmp op_lt o_lt (l_ixN 0 (fun _ _ => rfl) (pv 0) (Nat.le_of_ble_eq_true rfl) l_int) l_int (nomark _)) (lw_and1 (lt_cmp (op_neP (un64 hr)) o_ne (l_ixN 0 (fun _ _ => rfl) (pv 0) (Nat.le_of_ble_eq_true rfl) l_int) (l_e (l_lst l_anil)) (nomark _)))))) (ls_W [2, 3] (ls_one (ls_setIx 0 (Nat.le_of_ble_eq_true rfl) (fun te ti he hi => ps_asg he (pg_sub (pv 0) hi set_list)) (l_methL 0 (vs := [.int 0]) m_popAt (fun _ => (.cons (.int _) .nil)) (fun _ _ _ q => q) (fun _ _ => rfl) (pv 0) (Nat.le_of_ble_eq_true rfl) l_int (fun to ho => pe_bm PySem.F.plainAttrs_list PySem.F.slot_list_pop PySem.F.type_list_pop mt_popAt ho (pa_cons pe_int pa_nil))) l_int)))))
 (ls_cons (ls_if (lt_bor [0] (lt_cmp op_ge o_ge (l_ixN 0 (fun _ _ => rfl) (pv 0) (Nat.le_of_ble_eq_true rfl) l_int) l_int (nomark _))) (ls_cons (ls_set (i := 2) (Nat.le_of_ble_eq_true rfl) (hfx 2 (by decide)) (fun te he => ps_set nd rfl (Or.inl rfl) he) (l_bin op_mod o_mod (l_ixN 0 (fun _ _ => rfl) (pv 0) (Nat.le_of_ble_eq_true rfl) l_int) (l_name 1 (pv 1) (Nat.le_of_ble_eq_true rfl))))
 (ls_cons (ls_setIx 0 (Nat.le_of_ble_eq_true rfl) (fun te ti he hi => ps_asg he (pg_sub (pv 0) hi set_list)) (l_e (l_bin op_fdivW o_fdiv (l_ixN 0 (fun _ _ => rfl) (pv 0) (Nat.le_of_ble_eq_true rfl) l_int) (l_name 1 (pv 1) (Nat.le_of_ble_eq_true rfl)))) l_int)
 (ls_one (ls_retName 2 (pv 2))))) ls_nil)
 (ls_cons (ls_setIx 0 (Nat.le_of_ble_eq_true rfl) (fun te ti he hi => ps_asg he (pg_sub (pv 0) hi set_list)) (l_e (l_bin or_add o_add (l_ixN 0 (fun _ _ => rfl) (pv 0) (Nat.le_of_ble_eq_true rfl) l_int) l_int)) l_int)
 (ls_cons (ls_set (i := 3) (Nat.le_of_ble_eq_true rfl) (hfx 3 (by decide)) (fun te he => ps_set nd rfl (Or.inl rfl) he) (l_bin or_mul o_mul (l_e (l_bin or_add o_add (l_ixN 0 (fun _ _ => rfl) (pv 0) (Nat.le_of_ble_eq_true rfl) l_int) l_int)) (l_e (l_bin or_pow o_pow (l_e (l_bin or_add o_add (l_ixN 0 (fun _ _ => rfl) (pv 0) (Nat.le_of_ble_eq_true rfl) l_int) l_int)) l_int))))
 (ls_cons (ls_set (i := 3) (Nat.le_of_ble_eq_true rfl) (hfx 3 (by decide)) (fun te he => ps_set nd rfl (Or.inl rfl) he) (l_bin op_mod o_mod (l_e (l_bin or_add o_add (l_name 3 (pv 3) (Nat.le_of_ble_eq_true rfl)) (l_e (l_bin or_mul o_mul l_int (l_ixN 0 (fun _ _ => rfl) (pv 0) (Nat.le_of_ble_eq_true rfl) l_int))))) (l_e (l_bin op_sub o_sub (l_e (l_bin or_pow o_pow l_int l_int)) l_int))))
 (ls_one (ls_ret (l_bin op_mod o_mod (l_e (l_bin op_fdivW o_fdiv (l_e (l_bin op_mod o_mod (l_e (l_bin or_pow o_pow (l_name 3 (pv 3) (Nat.le_of_ble_eq_true rfl)) l_int)) (l_e (l_bin or_add o_add (l_e (l_bin or_pow o_pow l_int l_int)) l_int)))) l_int)) (l_name 1 (pv 1) (Nat.le_of_ble_eq_true rfl))))))))))
theorem sc_law_same : FnScope ["found", "due", "k"] ["found", "due"] (defScope s_law_same) := ⟨rfl, rfl, rfl, by decide +kernel, rfl, by decide +kernel, by decide +kernel⟩
set_option maxHeartbeats 4000000 in
theorem okr_law_same (T : Tx K mg) : ∀ d : Nat, FnG P w K mg base CX0 (0 + d) T.a_law_same T.fd_law_same ["found", "due"] (liftSp K 2 [] (spr_law_same d)) := by
  intro d
  induction d with
  | zero => exact fng_no rfl
  | succ d ih =>
  refine fng_lift T.F_law_same sc_law_same rfl rfl fun cdv A outer s H E0 E hfx hr hg => ?_
  have nd : (["found", "due", "k"] : List Str).Nodup := sc_law_same.nd
  exact (ls_cons (ls_if (lt_cmp or_is o_is (l_name 1 (pv 1) (Nat.le_of_ble_eq_true rfl)) l_non (nomark _)) (ls_one (ls_ret (l_v (l_e (l_cmp or_is o_is (l_name 0 (pv 0) (Nat.le_of_ble_eq_true rfl)) l_non (nomark _)))))) ls_nil)
 (ls_cons (ls_if (lt_val (l_isi (T := .bool) kt_bool (by rfl) T.n_isinstance (by rfl) T.n_bool (by decide +kernel) (l_name 1 (pv 1) (Nat.le_of_ble_eq_true rfl)))) (ls_one (ls_ret (l_v (l_and (l_e (l_isi (T := .bool) kt_bool (by rfl) T.n_isinstance (by rfl) T.n_bool (by decide +kernel) (l_name 0 (pv 0) (Nat.le_of_ble_eq_true rfl)))) (l_one (l_e (l_cmp (op_eqP (un64 hr)) o_eq (l_name 0 (pv 0) (Nat.le_of_ble_eq_true rfl)) (l_name 1 (pv 1) (Nat.le_of_ble_eq_true rfl)) (nomark _)))))))) ls_nil)
 (ls_cons (ls_if (lt_val (l_isi (T := .int) kt_int (by rfl) T.n_isinstance (by rfl) T.n_int (by decide +kernel) (l_name 1 (pv 1) (Nat.le_of_ble_eq_true rfl)))) (ls_one (ls_ret (l_v (l_and (l_e (l_isi (T := .int) kt_int (by rfl) T.n_isinstance (by rfl) T.n_int (by decide +kernel) (l_name 0 (pv 0) (Nat.le_of_ble_eq_true rfl)))) (l_and (l_not (l_e (l_isi (T := .bool) kt_bool (by rfl) T.n_isinstance (by rfl) T.n_bool (by decide +kernel) (l_name 0 (pv 0) (Nat.le_of_ble_eq_true rfl))))) (l_one (l_e (l_cmp (op_eqP (un64 hr)) o_eq (l_name 0 (pv 0) (Nat.le_of_ble_eq_true rfl)) (l_name 1 (pv 1) (Nat.le_of_ble_eq_true rfl)) (nomark _))))))))) ls_nil)
 (ls_cons (ls_if (lt_val (l_isi (T := .str) kt_str (by rfl) T.n_isinstance (by rfl) T.n_str (by decide +kernel) (l_name 1 (pv 1) (Nat.le_of_ble_eq_true rfl)))) (ls_one (ls_ret (l_v (l_and (l_e (l_isi (T := .str) kt_str (by rfl) T.n_isinstance (by rfl) T.n_str (by decide +kernel) (l_name 0 (pv 0) (Nat.le_of_ble_eq_true rfl)))) (l_one (l_e (l_cmp (op_eqP (un64 hr)) o_eq (l_name 0 (pv 0) (Nat.le_of_ble_eq_true rfl)) (l_name 1 (pv 1) (Nat.le_of_ble_eq_true rfl)) (nomark _)))))))) ls_nil)
 (ls_cons (ls_if (lt_cmp (op_neP (un64 hr)) o_ne (l_e (l_isi (T := .list) kt_list (by rfl) T.n_isinstance (by rfl) T.n_list (by decide +kernel) (l_name 0 (pv 0) (Nat.le_of_ble_eq_true rfl)))) (l_e (l_isi (T := .list) kt_list (by rfl) T.n_isinstance (by rfl) T.n_list (by decide +kernel) (l_name 1 (pv 1) (Nat.le_of_ble_eq_true rfl)))) (nomark _)) (ls_one (ls_ret (l_v l_bl))) ls_nil)
 (ls_cons (ls_if (PW.pt (lw_or (lt_cmp (op_neP (un64 hr)) o_ne (l_e (l_isi (T := .tuple) kt_tuple (by rfl) T.n_isinstance (by rfl) T.n_tuple (by decide +kernel) (l_name 0 (pv 0) (Nat.le_of_ble_eq_true rfl)))) (l_e (l_isi (T := .tuple) kt_tuple (by rfl) T.n_isinstance (by rfl) T.n_tuple (by decide +kernel) (l_name 1 (pv 1) (Nat.le_of_ble_eq_true rfl)))) (nomark _)) (lw_or1 (lt_cmp (op_neP (un64 hr)) o_ne (l_lenM 0 (pv 0) (Nat.le_of_ble_eq_true rfl) (by rfl) T.n_len (by decide +kernel)) (l_lenM 1 (pv 1) (Nat.le_of_ble_eq_true rfl) (by rfl) T.n_len (by decide +kernel)) (nomark _))))) (ls_one (ls_ret (l_v l_bl))) ls_nil)
 (ls_one (ls_ret (l_v (l_e (l_cmp (op_eqP (un64 hr)) o_eq (l_e (l_lc (own := [("k", 2)]) (t := (.nm 2)) rfl nd (li_rng1 (by rfl) T.n_range (l_acons (l_lenM 1 (pv 1) (Nat.le_of_ble_eq_true rfl) (by rfl) T.n_len (by decide +kernel)) l_anil)) (by kernel_rfl) (mem_all rfl) (fix_all hfx rfl) (fun _ _ _ _ _ => (pg_nm (pg_name (i := 2) nd rfl (by first | exact Or.inl rfl | exact Or.inr rfl)))) (fun _ _ _ _ _ => (pts_any fun E1 hE1 => (lt_not (lt_val (l_call ih (hr.mono (Nat.le_refl _)) hg (by rfl) T.m_law_same T.F_law_same.kp (bd_law_same T) (l_acons (l_ixN 0 (fun _ _ => rfl) (pv 0) (Nat.le_of_ble_eq_true rfl) (l_name 2 (pv 2) (Nat.le_of_ble_eq_true rfl))) (l_acons (l_ixN 1 (fun _ _ => rfl) (pv 1) (Nat.le_of_ble_eq_true rfl) (l_name 2 (pv 2) (Nat.le_of_ble_eq_true rfl))) l_anil))))))) (fun _ _ _ _ _ => pe_any fun E1 hE1 => (l_name 2 (pv 2) (Nat.le_of_ble_eq_true rfl))))) (l_e (l_lst l_anil)) (nomark _))))))))))))
theorem ok_law_same (T : Tx K mg) : FnG P w K mg base CX0 6 T.a_law_same T.fd_law_same ["found", "due"] (liftSp K 2 [] sp_law_same) := by
  unfold sp_law_same
  exact okr_law_same T 6
theorem sc_law_script : FnScope ["source", "size_here", "most", "found", "way", "time", "low", "far", "high"] ["source", "size_here", "most"] (defScope s_law_script) := ⟨rfl, rfl, rfl, by decide +kernel, rfl, by decide +kernel, by decide +kernel⟩
set_option maxHeartbeats 4000000 in
theorem ok_law_script (T : Tx K mg) : FnG P w K mg base CX0 2 T.a_law_script T.fd_law_script ["source", "size_here", "most"] (liftSp K 3 [0] sp_law_script) := by
  unfold sp_law_script
  exact fng_lift T.F_law_script sc_law_script rfl rfl fun cdv A outer s H E0 E hfx hr hg =>
  have nd : (["source", "size_here", "most", "found", "way", "time", "low", "far", "high"] : List Str).Nodup := sc_law_script.nd
  (ls_cons (ls_par2 (i := 3) (j := 4) ⟨(Nat.le_of_ble_eq_true rfl), (hfx 3 (by decide))⟩ ⟨(Nat.le_of_ble_eq_true rfl), (hfx 4 (by decide))⟩ (fun ta ha => ps_par rfl nd rfl rfl (by decide) rfl rfl ha (by rfl)) (lo_cons (l_lst l_anil) (fun E1 hE1 => (lo_cons (l_call (ok_law_draw T) (hr.mono (by decide)) hg (by rfl) T.m_law_draw T.F_law_draw.kp (bd_law_draw T) (l_alend 0 (pv 0) (Nat.le_of_ble_eq_true rfl) (l_acons l_int l_anil))) (fun E2 hE2 => lo_nil)))))
 (ls_cons (ls_B [5, 6, 7, 8] (ls_for (t := (.nm 5)) PassesOwn.never rfl (li_rng1 (by rfl) T.n_range (l_acons (l_e (l_call (ok_law_draw T) (hr.mono (by decide)) hg (by rfl) T.m_law_draw T.F_law_draw.kp (bd_law_draw T) (l_alend 0 (pv 0) (Nat.le_of_ble_eq_true rfl) (l_acons (l_e (l_bin or_add o_add (l_name 2 (pv 2) (Nat.le_of_ble_eq_true rfl)) l_int)) l_anil)))) l_anil)) (pg_nm (pg_name (i := 5) nd rfl (Or.inl rfl))) (fix_all hfx rfl) (ls_W [5, 6, 7, 8] (ls_cons (ls_set (i := 6) (Nat.le_of_ble_eq_true rfl) (hfx 6 (by decide)) (fun te he => ps_set nd rfl (Or.inl rfl) he) (l_bin or_add o_add l_int (l_e (l_call (ok_law_draw T) (hr.mono (by decide)) hg (by rfl) T.m_law_draw T.F_law_draw.kp (bd_law_draw T) (l_alend 0 (pv 0) (Nat.le_of_ble_eq_true rfl) (l_acons (l_name 1 (pv 1) (Nat.le_of_ble_eq_true rfl)) l_anil))))))
 (ls_cons (ls_set (i := 7) (Nat.le_of_ble_eq_true rfl) (hfx 7 (by decide)) (fun te he => ps_set nd rfl (Or.inl rfl) he) (l_ix (fun _ _ => rfl) (l_e (l_lst (l_acons (l_name 1 (pv 1) (Nat.le_of_ble_eq_true rfl)) (l_acons (l_e (l_callB (c_min rfl) o_min (by rfl) T.n_min (by decide +kernel) (l_acons (l_name 1 (pv 1) (Nat.le_of_ble_eq_true rfl)) (l_acons (l_e (l_bin or_add o_add (l_name 6 (pv 6) (Nat.le_of_ble_eq_true rfl)) l_int)) l_anil)))) (l_acons (l_e (l_callB (c_min rfl) o_min (by rfl) T.n_min (by decide +kernel) (l_acons (l_name 1 (pv 1) (Nat.le_of_ble_eq_true rfl)) (l_acons (l_e (l_bin or_add o_add (l_name 6 (pv 6) (Nat.le_of_ble_eq_true rfl)) l_int)) l_anil)))) (l_acons (l_name 1 (pv 1) (Nat.le_of_ble_eq_true rfl)) l_anil)))))) (l_name 4 (pv 4) (Nat.le_of_ble_eq_true rfl))))
 (ls_cons (ls_set (i := 8) (Nat.le_of_ble_eq_true rfl) (hfx 8 (by decide)) (fun te he => ps_set nd rfl (Or.inl rfl) he) (l_bin or_add o_add (l_name 6 (pv 6) (Nat.le_of_ble_eq_true rfl)) (l_e (l_call (ok_law_draw T) (hr.mono (by decide)) hg (by rfl) T.m_law_draw T.F_law_draw.kp (bd_law_draw T) (l_alend 0 (pv 0) (Nat.le_of_ble_eq_true rfl) (l_acons (l_e (l_bin or_add o_add (l_e (l_bin op_sub o_sub (l_name 7 (pv 7) (Nat.le_of_ble_eq_true rfl)) (l_name 6 (pv 6) (Nat.le_of_ble_eq_true rfl)))) l_int)) l_anil))))))
 (ls_cons (ls_if (lt_cmp (op_eqP (un64 hr)) o_eq (l_name 4 (pv 4) (Nat.le_of_ble_eq_true rfl)) l_int (nomark _)) (ls_one (ls_set (i := 6) (Nat.le_of_ble_eq_true rfl) (hfx 6 (by decide)) (fun te he => ps_set nd rfl (Or.inl rfl) he) (l_bin or_add o_add l_int (l_e (l_call (ok_law_draw T) (hr.mono (by decide)) hg (by rfl) T.m_law_draw T.F_law_draw.kp (bd_law_draw T) (l_alend 0 (pv 0) (Nat.le_of_ble_eq_true rfl) (l_acons (l_e (l_bin or_add o_add l_int (l_e (l_bin op_fdivW o_fdiv (l_name 6 (pv 6) (Nat.le_of_ble_eq_true rfl)) l_int)))) l_anil))))))) ls_nil)
 (ls_one (ls_expr (l_v (l_meth 3 m_append (Nat.le_of_ble_eq_true rfl) (fun t ht => pe_bm PySem.F.plainAttrs_list PySem.F.slot_list_append PySem.F.type_list_append mt_append (pv 3) ht) (l_acons (l_e (l_tup (l_acons (l_name 6 (pv 6) (Nat.le_of_ble_eq_true rfl)) (l_acons (l_name 8 (pv 8) (Nat.le_of_ble_eq_true rfl)) l_anil)))) l_anil))))))))))))
 (ls_one (ls_retName 3 (pv 3)))))
theorem sc_law_after : FnScope ["line", "acts", "low", "high"] ["line", "acts"] (defScope s_law_after) := ⟨rfl, rfl, rfl, by decide +kernel, rfl, by decide +kernel, by decide +kernel⟩
set_option maxHeartbeats 4000000 in
theorem ok_law_after (T : Tx K mg) : FnG P w K mg base CX0 1 T.a_law_after T.fd_law_after ["line", "acts"] (liftSp K 2 [] sp_law_after) := by
  unfold sp_law_after
  exact fng_lift T.F_law_after sc_law_after rfl rfl fun cdv A outer s H E0 E hfx hr hg =>
  have nd : (["line", "acts", "low", "high"] : List Str).Nodup := sc_law_after.nd
  (ls_cons (ls_set (i := 0) (Nat.le_of_ble_eq_true rfl) (hfx 0 (by decide)) (fun te he => ps_set nd rfl (Or.inl rfl) he) (l_callTy call_list_of o_copy (by rfl) T.n_list (by decide +kernel) (l_acons (l_name 0 (pv 0) (Nat.le_of_ble_eq_true rfl)) l_anil)))
 (ls_cons (ls_B [2, 3] (ls_for (t := (.tup [(.nm 2), (.nm 3)])) PassesOwn.never rfl (li_list (l_name 1 (pv 1) (Nat.le_of_ble_eq_true rfl))) (pg_tp rfl (pgs_c (pg_nm (pg_name (i := 2) nd rfl (Or.inl rfl))) (pgs_c (pg_nm (pg_name (i := 3) nd rfl (Or.inl rfl))) pgs_n))) (fix_all hfx rfl) (ls_W [2, 3] (ls_one (ls_set (i := 0) (Nat.le_of_ble_eq_true rfl) (hfx 0 (by decide)) (fun te he => ps_set nd rfl (Or.inl rfl) he) (l_bin or_add o_add (l_e (l_bin or_add o_add (l_e (l_sliceN 0 (pv 0) (Nat.le_of_ble_eq_true rfl) lb_none (lb_some (l_e (l_bin op_sub o_sub (l_name 2 (pv 2) (Nat.le_of_ble_eq_true rfl)) l_int))))) (l_e (l_callB cr_sortedI o_sorted (by rfl) T.n_sorted (by decide +kernel) (l_acons (l_e (l_sliceN 0 (pv 0) (Nat.le_of_ble_eq_true rfl) (lb_some (l_e (l_bin op_sub o_sub (l_name 2 (pv 2) (Nat.le_of_ble_eq_true rfl)) l_int))) (lb_some (l_name 3 (pv 3) (Nat.le_of_ble_eq_true rfl))))) l_anil))))) (l_e (l_sliceN 0 (pv 0) (Nat.le_of_ble_eq_true rfl) (lb_some (l_name 3 (pv 3) (Nat.le_of_ble_eq_true rfl))) lb_none))))))))
 (ls_one (ls_retName 0 (pv 0)))))
theorem sc_law_values : FnScope ["source", "size_here", "far", "shift", "time"] ["source", "size_here"] (defScope s_law_values) := ⟨rfl, rfl, rfl, by decide +kernel, rfl, by decide +kernel, by decide +kernel⟩
set_option maxHeartbeats 4000000 in
theorem ok_law_values (T : Tx K mg) : FnG P w K mg base CX0 2 T.a_law_values T.fd_law_values ["source", "size_here"] (liftSp K 2 [0] sp_law_values) := by
  unfold sp_law_values
  exact fng_lift T.F_law_values sc_law_values rfl rfl fun cdv A outer s H E0 E hfx hr hg =>
  have nd : (["source", "size_here", "far", "shift", "time"] : List Str).Nodup := sc_law_values.nd
  (ls_cons (ls_set (i := 2) (Nat.le_of_ble_eq_true rfl) (hfx 2 (by decide)) (fun te he => ps_set nd rfl (Or.inr rfl) he) (l_ix (fun _ _ => rfl) (l_e (l_lst (l_acons l_int (l_acons l_int (l_acons l_int (l_acons (l_e (l_bin or_pow o_pow l_int l_int)) l_anil)))))) (l_e (l_call (ok_law_draw T) (hr.mono (by decide)) hg (by rfl) T.m_law_draw T.F_law_draw.kp (bd_law_draw T) (l_alend 0 (pv 0) (Nat.le_of_ble_eq_true rfl) (l_acons l_int l_anil))))))
 (ls_cons (ls_set (i := 3) (Nat.le_of_ble_eq_true rfl) (hfx 3 (by decide)) (fun te he => ps_set nd rfl (Or.inr rfl) he) (l_ix (fun _ _ => rfl) (l_e (l_lst (l_acons l_int (l_acons (l_e (l_bin op_sub o_sub l_int (l_e (l_bin op_fdivW o_fdiv (l_name 2 (pv 2) (Nat.le_of_ble_eq_true rfl)) l_int)))) (l_acons (l_e (l_bin op_sub o_sub l_int (l_name 2 (pv 2) (Nat.le_of_ble_eq_true rfl)))) l_anil))))) (l_e (l_call (ok_law_draw T) (hr.mono (by decide)) hg (by rfl) T.m_law_draw T.F_law_draw.kp (bd_law_draw T) (l_alend 0 (pv 0) (Nat.le_of_ble_eq_true rfl) (l_acons l_int l_anil))))))
 (ls_one (ls_ret (l_lc (own := [("time", 4)]) (t := (.nm 4)) rfl nd (li_rng1 (by rfl) T.n_range (l_acons (l_name 1 (pv 1) (Nat.le_of_ble_eq_true rfl)) l_anil)) (by kernel_rfl) (mem_all rfl) (fix_all hfx rfl) (fun _ _ _ _ _ => (pg_nm (pg_name (i := 4) nd rfl (by first | exact Or.inl rfl | exact Or.inr rfl)))) (fun _ _ _ _ _ => pts_yes) (fun _ _ _ _ _ => pe_any fun E1 hE1 => (l_e (l_bin or_add o_add (l_e (l_call (ok_law_draw T) (hr.mono (by decide)) hg (by rfl) T.m_law_draw T.F_law_draw.kp (bd_law_draw T) (l_alend 0 (pv 0) (Nat.le_of_ble_eq_true rfl) (l_acons (l_name 2 (pv 2) (Nat.le_of_ble_eq_true rfl)) l_anil)))) (l_name 3 (pv 3) (Nat.le_of_ble_eq_true rfl))))))))))
theorem sc_law : FnScope ["script", "source", "k", "size_here", "acts", "wanted", "time", "line", "due", "saved", "told", "double", "pair"] ["script"] (defScope s_law) := ⟨rfl, rfl, rfl, by decide +kernel, rfl, by decide +kernel, by decide +kernel⟩
set_option maxHeartbeats 4000000 in
theorem ok_law (T : Tx K mg) : FnG P w K mg base CX0 7 T.a_law T.fd_law ["script"] (liftSp K 1 [0] sp_law) := by
  unfold sp_law
  exact fng_lift T.F_law sc_law rfl rfl fun cdv A outer s H E0 E hfx hr hg =>
  have nd : (["script", "source", "k", "size_here", "acts", "wanted", "time", "line", "due", "saved", "told", "double", "pair"] : List Str).Nodup := sc_law.nd
  (ls_cons (ls_set (i := 1) (Nat.le_of_ble_eq_true rfl) (hfx 1 (by decide)) (fun te he => ps_set nd rfl (Or.inl rfl) he) (l_call (ok_law_source T) (hr.mono (by decide)) hg (by rfl) T.m_law_source T.F_law_source.kp (bd_law_source T) (l_alend 0 (pv 0) (Nat.le_of_ble_eq_true rfl) l_anil)))
 (ls_cons (ls_B [2, 3, 4, 5, 6, 7, 8, 9, 10, 11, 12] (ls_for (t := (.nm 2)) PassesOwn.never rfl (li_rng1 (by rfl) T.n_range (l_acons (l_e (l_bin or_add o_add l_int (l_e (l_callB (c_min rfl) o_min (by rfl) T.n_min (by decide +kernel) (l_acons l_int (l_acons (l_lenM 0 (pv 0) (Nat.le_of_ble_eq_true rfl) (by rfl) T.n_len (by decide +kernel)) l_anil)))))) l_anil)) (pg_nm (pg_name (i := 2) nd rfl (Or.inl rfl))) (fix_all hfx rfl) (ls_W [2, 3, 4, 5, 6, 7, 8, 9, 10, 11, 12] (ls_cons (ls_set (i := 3) (Nat.le_of_ble_eq_true rfl) (hfx 3 (by decide)) (fun te he => ps_set nd rfl (Or.inl rfl) he) (l_bin or_add o_add l_int (l_e (l_call (ok_law_draw T) (hr.mono (by decide)) hg (by rfl) T.m_law_draw T.F_law_draw.kp (bd_law_draw T) (l_alend 1 (pv 1) (Nat.le_of_ble_eq_true rfl) (l_acons (l_e (l_ix (fun _ _ => rfl) (l_e (l_lst (l_acons l_int (l_acons l_int (l_acons l_int l_anil))))) (l_e (l_call (ok_law_draw T) (hr.mono (by decide)) hg (by rfl) T.m_law_draw T.F_law_draw.kp (bd_law_draw T) (l_alend 1 (pv 1) (Nat.le_of_ble_eq_true rfl) (l_acons l_int l_anil)))))) l_anil))))))
 (ls_cons (ls_set (i := 4) (Nat.le_of_ble_eq_true rfl) (hfx 4 (by decide)) (fun te he => ps_set nd rfl (Or.inl rfl) he) (l_call (ok_law_script T) (hr.mono (by decide)) hg (by rfl) T.m_law_script T.F_law_script.kp (bd_law_script T) (l_alend 1 (pv 1) (Nat.le_of_ble_eq_true rfl) (l_acons (l_name 3 (pv 3) (Nat.le_of_ble_eq_true rfl)) (l_acons (l_e (l_ix (fun _ _ => rfl) (l_e (l_lst (l_acons l_int (l_acons l_int l_anil)))) (l_e (l_call (ok_law_draw T) (hr.mono (by decide)) hg (by rfl) T.m_law_draw T.F_law_draw.kp (bd_law_draw T) (l_alend 1 (pv 1) (Nat.le_of_ble_eq_true rfl) (l_acons l_int l_anil)))))) l_anil)))))
 (ls_cons (ls_set (i := 5) (Nat.le_of_ble_eq_true rfl) (hfx 5 (by decide)) (fun te he => ps_set nd rfl (Or.inl rfl) he) (l_call (ok_effect T) (hr.mono (by decide)) hg (by rfl) T.m_effect T.F_effect.kp (bd_effect T) (l_acons (l_name 3 (pv 3) (Nat.le_of_ble_eq_true rfl)) (l_acons (l_name 4 (pv 4) (Nat.le_of_ble_eq_true rfl)) l_anil))))
 (ls_one (ls_B [2, 6, 7, 8, 9, 10, 11, 12] (ls_for (t := (.nm 6)) PassesOwn.never rfl (li_rng1 (by rfl) T.n_range (l_acons l_int l_anil)) (pg_nm (pg_name (i := 6) nd rfl (Or.inl rfl))) (fix_all hfx rfl) (ls_W [2, 6, 7, 8, 9, 10, 11, 12] (ls_cons (ls_set (i := 7) (Nat.le_of_ble_eq_true rfl) (hfx 7 (by decide)) (fun te he => ps_set nd rfl (Or.inl rfl) he) (l_call (ok_law_values T) (hr.mono (by decide)) hg (by rfl) T.m_law_values T.F_law_values.kp (bd_law_values T) (l_alend 1 (pv 1) (Nat.le_of_ble_eq_true rfl) (l_acons (l_name 3 (pv 3) (Nat.le_of_ble_eq_true rfl)) l_anil))))
 (ls_cons (ls_par2 (i := 8) (j := 9) ⟨(Nat.le_of_ble_eq_true rfl), (hfx 8 (by decide))⟩ ⟨(Nat.le_of_ble_eq_true rfl), (hfx 9 (by decide))⟩ (fun ta ha => ps_par rfl nd rfl rfl (by decide) rfl rfl ha (by rfl)) (lo_cons (l_call (ok_law_after T) (hr.mono (by decide)) hg (by rfl) T.m_law_after T.F_law_after.kp (bd_law_after T) (l_acons (l_name 7 (pv 7) (Nat.le_of_ble_eq_true rfl)) (l_acons (l_name 4 (pv 4) (Nat.le_of_ble_eq_true rfl)) l_anil))) (fun E1 hE1 => (lo_cons (l_v (l_e (l_callB (c_repr hg (un64 hr)) o_repr (by rfl) T.n_repr (by decide +kernel) (l_acons (l_e (l_lst (l_acons (l_name 7 (pv 7) (Nat.le_of_ble_eq_true rfl)) (l_acons (l_name 5 (pv 5) (Nat.le_of_ble_eq_true rfl)) l_anil)))) l_anil)))) (fun E2 hE2 => lo_nil)))))
 (ls_cons (ls_set (i := 10) (Nat.le_of_ble_eq_true rfl) (hfx 10 (by decide)) (fun te he => ps_set nd rfl (Or.inl rfl) he) (l_call (ok_result T) (hr.mono (by decide)) hg (by rfl) T.m_result T.F_result.kp (bd_result T) (l_acons (l_name 7 (pv 7) (Nat.le_of_ble_eq_true rfl)) (l_acons (l_name 5 (pv 5) (Nat.le_of_ble_eq_true rfl)) l_anil))))
 (ls_cons (ls_if (lt_bor [0, 1, 5, 7, 8, 9, 10, 11] (PW.pt (lw_or (lt_not (lt_val (l_call (ok_law_same T) (hr.mono (by decide)) hg (by rfl) T.m_law_same T.F_law_same.kp (bd_law_same T) (l_acons (l_name 10 (pv 10) (Nat.le_of_ble_eq_true rfl)) (l_acons (l_name 8 (pv 8) (Nat.le_of_ble_eq_true rfl)) l_anil))))) (lw_or1 (lt_cmp (op_neP (un64 hr)) o_ne (l_e (l_callB (c_repr hg (un64 hr)) o_repr (by rfl) T.n_repr (by decide +kernel) (l_acons (l_e (l_lst (l_acons (l_name 7 (pv 7) (Nat.le_of_ble_eq_true rfl)) (l_acons (l_name 5 (pv 5) (Nat.le_of_ble_eq_true rfl)) l_anil)))) l_anil))) (l_name 9 (pv 9) (Nat.le_of_ble_eq_true rfl)) (nomark _)))))) (ls_one (ls_ret (l_v l_bl))) ls_nil)
 (ls_cons (ls_expr (l_v (l_meth 10 m_append (Nat.le_of_ble_eq_true rfl) (fun t ht => pe_bm PySem.F.plainAttrs_list PySem.F.slot_list_append PySem.F.type_list_append mt_append (pv 10) ht) (l_acons l_int l_anil))))
 (ls_cons (ls_expr (l_v (l_meth0 10 m_reverse (Nat.le_of_ble_eq_true rfl) (pe_bm0 PySem.F.plainAttrs_list PySem.F.slot_list_reverse PySem.F.type_list_reverse mt_reverse (pv 10)))))
 (ls_cons (ls_set (i := 11) (Nat.le_of_ble_eq_true rfl) (hfx 11 (by decide)) (fun te he => ps_set nd rfl (Or.inl rfl) he) (l_lst l_anil))
 (ls_cons (ls_B [2, 6, 9, 10, 12] (ls_for (t := (.nm 12)) PassesOwn.never rfl (li_list (l_e (l_sliceN 4 (pv 4) (Nat.le_of_ble_eq_true rfl) lb_none (lb_some l_int)))) (pg_nm (pg_name (i := 12) nd rfl (Or.inl rfl))) (fix_all hfx rfl) (ls_W [2, 6, 9, 10, 12] (ls_one (ls_expr (l_v (l_meth 11 m_extend (Nat.le_of_ble_eq_true rfl) (fun t ht => pe_bm PySem.F.plainAttrs_list PySem.F.slot_list_extend PySem.F.type_list_extend mt_extend (pv 11) ht) (l_acons (l_e (l_lst (l_acons (l_name 12 (pv 12) (Nat.le_of_ble_eq_true rfl)) (l_acons (l_name 12 (pv 12) (Nat.le_of_ble_eq_true rfl)) l_anil)))) l_anil))))))))
 (ls_one (ls_if (lt_bor [0, 1, 3, 4, 5, 7, 8, 10, 11] (PW.pt (lw_or (lt_cmp (op_neP (un64 hr)) o_ne (l_e (l_call (ok_result T) (hr.mono (by decide)) hg (by rfl) T.m_result T.F_result.kp (bd_result T) (l_acons (l_name 7 (pv 7) (Nat.le_of_ble_eq_true rfl)) (l_acons (l_name 5 (pv 5) (Nat.le_of_ble_eq_true rfl)) l_anil)))) (l_name 8 (pv 8) (Nat.le_of_ble_eq_true rfl)) (nomark _)) (lw_or1 (lt_cmp (op_neP (un64 hr)) o_ne (l_e (l_call (ok_effect T) (hr.mono (by decide)) hg (by rfl) T.m_effect T.F_effect.kp (bd_effect T) (l_acons (l_name 3 (pv 3) (Nat.le_of_ble_eq_true rfl)) (l_acons (l_name 11 (pv 11) (Nat.le_of_ble_eq_true rfl)) l_anil)))) (l_e (l_call (ok_effect T) (hr.mono (by decide)) hg (by rfl) T.m_effect T.F_effect.kp (bd_effect T) (l_acons (l_name 3 (pv 3) (Nat.le_of_ble_eq_true rfl)) (l_acons (l_e (l_sliceN 4 (pv 4) (Nat.le_of_ble_eq_true rfl) lb_none (lb_some l_int))) l_anil)))) (nomark _)))))) (ls_one (ls_ret (l_v l_bl))) ls_nil))))))))))))))))))))
 (ls_one (ls_ret (l_v (l_e (l_cmp (op_eqP (un64 hr)) o_eq (l_e (l_call (ok_result T) (hr.mono (by decide)) hg (by rfl) T.m_result T.F_result.kp (bd_result T) (l_acons (l_e (l_lst (l_acons l_int (l_acons l_int (l_acons l_int l_anil))))) (l_acons (l_e (l_lst (l_acons l_int (l_acons l_int (l_acons l_int l_anil))))) l_anil)))) (l_e (l_lst (l_acons l_int (l_acons l_int (l_acons l_int l_anil))))) (nomark _))))))))
end
theorem all_mk {l : PySem.W.OpenLaw} {w : World} {K : PySem.W.Frag} {h : Heap} {mg : Str → Option Value} {fa : Addr} (X : K.In h) (G : h.Ns mainGlobals mg) (hfa : mg "law" = some (.ref fa))
    {f_check_size : Addr} {od_check_size an_check_size : Option Addr} {sl_check_size : Array (Option Value)} {oc_check_size kV_check_size dc_check_size pm_check_size cd_check_size ct_check_size : Value}
    {f_check_script : Addr} {od_check_script an_check_script : Option Addr} {sl_check_script : Array (Option Value)} {oc_check_script kV_check_script dc_check_script pm_check_script cd_check_script ct_check_script : Value}
    {f_check_arrangement : Addr} {od_check_arrangement an_check_arrangement : Option Addr} {sl_check_arrangement : Array (Option Value)} {oc_check_arrangement kV_check_arrangement dc_check_arrangement pm_check_arrangement cd_check_arrangement ct_check_arrangement : Value}
    {f_after_command : Addr} {od_after_command an_after_command : Option Addr} {sl_after_command : Array (Option Value)} {oc_after_command kV_after_command dc_after_command pm_after_command cd_after_command ct_after_command : Value}
    {f_after_script : Addr} {od_after_script an_after_script : Option Addr} {sl_after_script : Array (Option Value)} {oc_after_script kV_after_script dc_after_script pm_after_script cd_after_script ct_after_script : Value}
    {f_descending : Addr} {od_descending an_descending : Option Addr} {sl_descending : Array (Option Value)} {oc_descending kV_descending dc_descending pm_descending cd_descending ct_descending : Value}
    {f_effect_in : Addr} {od_effect_in an_effect_in : Option Addr} {sl_effect_in : Array (Option Value)} {oc_effect_in kV_effect_in dc_effect_in pm_effect_in cd_effect_in ct_effect_in : Value}
    {f_counts_of : Addr} {od_counts_of an_counts_of : Option Addr} {sl_counts_of : Array (Option Value)} {oc_counts_of kV_counts_of dc_counts_of pm_counts_of cd_counts_of ct_counts_of : Value}
    {f_led : Addr} {od_led an_led : Option Addr} {sl_led : Array (Option Value)} {oc_led kV_led dc_led pm_led cd_led ct_led : Value}
    {f_result_in : Addr} {od_result_in an_result_in : Option Addr} {sl_result_in : Array (Option Value)} {oc_result_in kV_result_in dc_result_in pm_result_in cd_result_in ct_result_in : Value}
    {f_effect : Addr} {od_effect an_effect : Option Addr} {sl_effect : Array (Option Value)} {oc_effect kV_effect dc_effect pm_effect cd_effect ct_effect : Value}
    {f_result : Addr} {od_result an_result : Option Addr} {sl_result : Array (Option Value)} {oc_result kV_result dc_result pm_result cd_result ct_result : Value}
    {f_law_source : Addr} {od_law_source an_law_source : Option Addr} {sl_law_source : Array (Option Value)} {oc_law_source kV_law_source dc_law_source pm_law_source cd_law_source ct_law_source : Value}
    {f_law_draw : Addr} {od_law_draw an_law_draw : Option Addr} {sl_law_draw : Array (Option Value)} {oc_law_draw kV_law_draw dc_law_draw pm_law_draw cd_law_draw ct_law_draw : Value}
    {f_law_same : Addr} {od_law_same an_law_same : Option Addr} {sl_law_same : Array (Option Value)} {oc_law_same kV_law_same dc_law_same pm_law_same cd_law_same ct_law_same : Value}
    {f_law_script : Addr} {od_law_script an_law_script : Option Addr} {sl_law_script : Array (Option Value)} {oc_law_script kV_law_script dc_law_script pm_law_script cd_law_script ct_law_script : Value}
    {f_law_after : Addr} {od_law_after an_law_after : Option Addr} {sl_law_after : Array (Option Value)} {oc_law_after kV_law_after dc_law_after pm_law_after cd_law_after ct_law_after : Value}
    {f_law_values : Addr} {od_law_values an_law_values : Option Addr} {sl_law_values : Array (Option Value)} {oc_law_values kV_law_values dc_law_values pm_law_values cd_law_values ct_law_values : Value}
    {f_law : Addr} {od_law an_law : Option Addr} {sl_law : Array (Option Value)} {oc_law kV_law dc_law pm_law cd_law ct_law : Value}
    (a_check_size : PySem.W.nsIn K mainGlobals "check_size" = some (some (.ref f_check_size))) (l_check_size : K.lookup f_check_size = some ⟨oc_check_size, od_check_size, .func (PySem.W.fnOf "check_size" "check_size" (defArgs s_check_size) (defBody s_check_size) (defScope s_check_size) .none kV_check_size dc_check_size pm_check_size an_check_size cd_check_size ct_check_size), sl_check_size⟩) (c_check_size : PySem.W.codeIn K cd_check_size "check_size" = true) (k_check_size : PySem.W.keepIn K (.ref f_check_size) = true)
    (a_check_script : PySem.W.nsIn K mainGlobals "check_script" = some (some (.ref f_check_script))) (l_check_script : K.lookup f_check_script = some ⟨oc_check_script, od_check_script, .func (PySem.W.fnOf "check_script" "check_script" (defArgs s_check_script) (defBody s_check_script) (defScope s_check_script) .none kV_check_script dc_check_script pm_check_script an_check_script cd_check_script ct_check_script), sl_check_script⟩) (c_check_script : PySem.W.codeIn K cd_check_script "check_script" = true) (k_check_script : PySem.W.keepIn K (.ref f_check_script) = true)
    (a_check_arrangement : PySem.W.nsIn K mainGlobals "check_arrangement" = some (some (.ref f_check_arrangement))) (l_check_arrangement : K.lookup f_check_arrangement = some ⟨oc_check_arrangement, od_check_arrangement, .func (PySem.W.fnOf "check_arrangement" "check_arrangement" (defArgs s_check_arrangement) (defBody s_check_arrangement) (defScope s_check_arrangement) .none kV_check_arrangement dc_check_arrangement pm_check_arrangement an_check_arrangement cd_check_arrangement ct_check_arrangement), sl_check_arrangement⟩) (c_check_arrangement : PySem.W.codeIn K cd_check_arrangement "check_arrangement" = true) (k_check_arrangement : PySem.W.keepIn K (.ref f_check_arrangement) = true)
    (a_after_command : PySem.W.nsIn K mainGlobals "after_command" = some (some (.ref f_after_command))) (l_after_command : K.lookup f_after_command = some ⟨oc_after_command, od_after_command, .func (PySem.W.fnOf "after_command" "after_command" (defArgs s_after_command) (defBody s_after_command) (defScope s_after_command) .none kV_after_command dc_after_command pm_after_command an_after_command cd_after_command ct_after_command), sl_after_command⟩) (c_after_command : PySem.W.codeIn K cd_after_command "after_command" = true) (k_after_command : PySem.W.keepIn K (.ref f_after_command) = true)
    (a_after_script : PySem.W.nsIn K mainGlobals "after_script" = some (some (.ref f_after_script))) (l_after_script : K.lookup f_after_script = some ⟨oc_after_script, od_after_script, .func (PySem.W.fnOf "after_script" "after_script" (defArgs s_after_script) (defBody s_after_script) (defScope s_after_script) .none kV_after_script dc_after_script pm_after_script an_after_script cd_after_script ct_after_script), sl_after_script⟩) (c_after_script : PySem.W.codeIn K cd_after_script "after_script" = true) (k_after_script : PySem.W.keepIn K (.ref f_after_script) = true)
    (a_descending : PySem.W.nsIn K mainGlobals "descending" = some (some (.ref f_descending))) (l_descending : K.lookup f_descending = some ⟨oc_descending, od_descending, .func (PySem.W.fnOf "descending" "descending" (defArgs s_descending) (defBody s_descending) (defScope s_descending) .none kV_descending dc_descending pm_descending an_descending cd_descending ct_descending), sl_descending⟩) (c_descending : PySem.W.codeIn K cd_descending "descending" = true) (k_descending : PySem.W.keepIn K (.ref f_descending) = true)
    (a_effect_in : PySem.W.nsIn K mainGlobals "effect_in" = some (some (.ref f_effect_in))) (l_effect_in : K.lookup f_effect_in = some ⟨oc_effect_in, od_effect_in, .func (PySem.W.fnOf "effect_in" "effect_in" (defArgs s_effect_in) (defBody s_effect_in) (defScope s_effect_in) .none kV_effect_in dc_effect_in pm_effect_in an_effect_in cd_effect_in ct_effect_in), sl_effect_in⟩) (c_effect_in : PySem.W.codeIn K cd_effect_in "effect_in" = true) (k_effect_in : PySem.W.keepIn K (.ref f_effect_in) = true)
    (a_counts_of : PySem.W.nsIn K mainGlobals "counts_of" = some (some (.ref f_counts_of))) (l_counts_of : K.lookup f_counts_of = some ⟨oc_counts_of, od_counts_of, .func (PySem.W.fnOf "counts_of" "counts_of" (defArgs s_counts_of) (defBody s_counts_of) (defScope s_counts_of) .none kV_counts_of dc_counts_of pm_counts_of an_counts_of cd_counts_of ct_counts_of), sl_counts_of⟩) (c_counts_of : PySem.W.codeIn K cd_counts_of "counts_of" = true) (k_counts_of : PySem.W.keepIn K (.ref f_counts_of) = true)
    (a_led : PySem.W.nsIn K mainGlobals "led" = some (some (.ref f_led))) (l_led : K.lookup f_led = some ⟨oc_led, od_led, .func (PySem.W.fnOf "led" "led" (defArgs s_led) (defBody s_led) (defScope s_led) .none kV_led dc_led pm_led an_led cd_led ct_led), sl_led⟩) (c_led : PySem.W.codeIn K cd_led "led" = true) (k_led : PySem.W.keepIn K (.ref f_led) = true)
    (a_result_in : PySem.W.nsIn K mainGlobals "result_in" = some (some (.ref f_result_in))) (l_result_in : K.lookup f_result_in = some ⟨oc_result_in, od_result_in, .func (PySem.W.fnOf "result_in" "result_in" (defArgs s_result_in) (defBody s_result_in) (defScope s_result_in) .none kV_result_in dc_result_in pm_result_in an_result_in cd_result_in ct_result_in), sl_result_in⟩) (c_result_in : PySem.W.codeIn K cd_result_in "result_in" = true) (k_result_in : PySem.W.keepIn K (.ref f_result_in) = true)
    (a_effect : PySem.W.nsIn K mainGlobals "effect" = some (some (.ref f_effect))) (l_effect : K.lookup f_effect = some ⟨oc_effect, od_effect, .func (PySem.W.fnOf "effect" "effect" (defArgs s_effect) (defBody s_effect) (defScope s_effect) .none kV_effect dc_effect pm_effect an_effect cd_effect ct_effect), sl_effect⟩) (c_effect : PySem.W.codeIn K cd_effect "effect" = true) (k_effect : PySem.W.keepIn K (.ref f_effect) = true)
    (a_result : PySem.W.nsIn K mainGlobals "result" = some (some (.ref f_result))) (l_result : K.lookup f_result = some ⟨oc_result, od_result, .func (PySem.W.fnOf "result" "result" (defArgs s_result) (defBody s_result) (defScope s_result) .none kV_result dc_result pm_result an_result cd_result ct_result), sl_result⟩) (c_result : PySem.W.codeIn K cd_result "result" = true) (k_result : PySem.W.keepIn K (.ref f_result) = true)
    (a_law_source : PySem.W.nsIn K mainGlobals "_law_source" = some (some (.ref f_law_source))) (l_law_source : K.lookup f_law_source = some ⟨oc_law_source, od_law_source, .func (PySem.W.fnOf "_law_source" "_law_source" (defArgs s_law_source) (defBody s_law_source) (defScope s_law_source) .none kV_law_source dc_law_source pm_law_source an_law_source cd_law_source ct_law_source), sl_law_source⟩) (c_law_source : PySem.W.codeIn K cd_law_source "_law_source" = true) (k_law_source : PySem.W.keepIn K (.ref f_law_source) = true)
    (a_law_draw : PySem.W.nsIn K mainGlobals "_law_draw" = some (some (.ref f_law_draw))) (l_law_draw : K.lookup f_law_draw = some ⟨oc_law_draw, od_law_draw, .func (PySem.W.fnOf "_law_draw" "_law_draw" (defArgs s_law_draw) (defBody s_law_draw) (defScope s_law_draw) .none kV_law_draw dc_law_draw pm_law_draw an_law_draw cd_law_draw ct_law_draw), sl_law_draw⟩) (c_law_draw : PySem.W.codeIn K cd_law_draw "_law_draw" = true) (k_law_draw : PySem.W.keepIn K (.ref f_law_draw) = true)
    (a_law_same : PySem.W.nsIn K mainGlobals "_law_same" = some (some (.ref f_law_same))) (l_law_same : K.lookup f_law_same = some ⟨oc_law_same, od_law_same, .func (PySem.W.fnOf "_law_same" "_law_same" (defArgs s_law_same) (defBody s_law_same) (defScope s_law_same) .none kV_law_same dc_law_same pm_law_same an_law_same cd_law_same ct_law_same), sl_law_same⟩) (c_law_same : PySem.W.codeIn K cd_law_same "_law_same" = true) (k_law_same : PySem.W.keepIn K (.ref f_law_same) = true)
    (a_law_script : PySem.W.nsIn K mainGlobals "_law_script" = some (some (.ref f_law_script))) (l_law_script : K.lookup f_law_script = some ⟨oc_law_script, od_law_script, .func (PySem.W.fnOf "_law_script" "_law_script" (defArgs s_law_script) (defBody s_law_script) (defScope s_law_script) .none kV_law_script dc_law_script pm_law_script an_law_script cd_law_script ct_law_script), sl_law_script⟩) (c_law_script : PySem.W.codeIn K cd_law_script "_law_script" = true) (k_law_script : PySem.W.keepIn K (.ref f_law_script) = true)
    (a_law_after : PySem.W.nsIn K mainGlobals "_law_after" = some (some (.ref f_law_after))) (l_law_after : K.lookup f_law_after = some ⟨oc_law_after, od_law_after, .func (PySem.W.fnOf "_law_after" "_law_after" (defArgs s_law_after) (defBody s_law_after) (defScope s_law_after) .none kV_law_after dc_law_after pm_law_after an_law_after cd_law_after ct_law_after), sl_law_after⟩) (c_law_after : PySem.W.codeIn K cd_law_after "_law_after" = true) (k_law_after : PySem.W.keepIn K (.ref f_law_after) = true)
    (a_law_values : PySem.W.nsIn K mainGlobals "_law_values" = some (some (.ref f_law_values))) (l_law_values : K.lookup f_law_values = some ⟨oc_law_values, od_law_values, .func (PySem.W.fnOf "_law_values" "_law_values" (defArgs s_law_values) (defBody s_law_values) (defScope s_law_values) .none kV_law_values dc_law_values pm_law_values an_law_values cd_law_values ct_law_values), sl_law_values⟩) (c_law_values : PySem.W.codeIn K cd_law_values "_law_values" = true) (k_law_values : PySem.W.keepIn K (.ref f_law_values) = true)
    (a_law : PySem.W.nsIn K mainGlobals "law" = some (some (.ref f_law))) (l_law : K.lookup f_law = some ⟨oc_law, od_law, .func (PySem.W.fnOf "law" "law" (defArgs s_law) (defBody s_law) (defScope s_law) .none kV_law dc_law pm_law an_law cd_law ct_law), sl_law⟩) (c_law : PySem.W.codeIn K cd_law "law" = true) (k_law : PySem.W.keepIn K (.ref f_law) = true)
    (z_enumerate : PySem.W.nsIn K mainGlobals "enumerate" = some none)
    (z_len : PySem.W.nsIn K mainGlobals "len" = some none)
    (z_sorted : PySem.W.nsIn K mainGlobals "sorted" = some none)
    (z_list : PySem.W.nsIn K mainGlobals "list" = some none)
    (z_range : PySem.W.nsIn K mainGlobals "range" = some none)
    (z_int : PySem.W.nsIn K mainGlobals "int" = some none)
    (z_min : PySem.W.nsIn K mainGlobals "min" = some none)
    (z_set : PySem.W.nsIn K mainGlobals "set" = some none)
    (z_max : PySem.W.nsIn K mainGlobals "max" = some none)
    (z_isinstance : PySem.W.nsIn K mainGlobals "isinstance" = some none)
    (z_bool : PySem.W.nsIn K mainGlobals "bool" = some none)
    (z_str : PySem.W.nsIn K mainGlobals "str" = some none)
    (z_tuple : PySem.W.nsIn K mainGlobals "tuple" = some none)
    (z_repr : PySem.W.nsIn K mainGlobals "repr" = some none) :
    ∃ fd : FuncData, (∀ (s : Shared) (v : Value), BindsTo s fd ⟨[v], []⟩ [("script", v)]) ∧ ∀ base : Heap, K.In base → base.Ns mainGlobals mg → FnG l.prog w K mg base CX0 7 fa fd ["script"] (liftSp K 1 [0] sp_law) := by
  have e := hfa.symm.trans (PySem.W.mg_of X G a_law)
  cases e
  let T : Tx K mg := { a_check_size := f_check_size, fd_check_size := _, F_check_size := fun_mk (st := s_check_size) l_check_size c_check_size k_check_size, m_check_size := PySem.W.mg_of X G a_check_size, a_check_script := f_check_script, fd_check_script := _, F_check_script := fun_mk (st := s_check_script) l_check_script c_check_script k_check_script, m_check_script := PySem.W.mg_of X G a_check_script, a_check_arrangement := f_check_arrangement, fd_check_arrangement := _, F_check_arrangement := fun_mk (st := s_check_arrangement) l_check_arrangement c_check_arrangement k_check_arrangement, m_check_arrangement := PySem.W.mg_of X G a_check_arrangement, a_after_command := f_after_command, fd_after_command := _, F_after_command := fun_mk (st := s_after_command) l_after_command c_after_command k_after_command, m_after_command := PySem.W.mg_of X G a_after_command, a_after_script := f_after_script, fd_after_script := _, F_after_script := fun_mk (st := s_after_script) l_after_script c_after_script k_after_script, m_after_script := PySem.W.mg_of X G a_after_script, a_descending := f_descending, fd_descending := _, F_descending := fun_mk (st := s_descending) l_descending c_descending k_descending, m_descending := PySem.W.mg_of X G a_descending, a_effect_in := f_effect_in, fd_effect_in := _, F_effect_in := fun_mk (st := s_effect_in) l_effect_in c_effect_in k_effect_in, m_effect_in := PySem.W.mg_of X G a_effect_in, a_counts_of := f_counts_of, fd_counts_of := _, F_counts_of := fun_mk (st := s_counts_of) l_counts_of c_counts_of k_counts_of, m_counts_of := PySem.W.mg_of X G a_counts_of, a_led := f_led, fd_led := _, F_led := fun_mk (st := s_led) l_led c_led k_led, m_led := PySem.W.mg_of X G a_led, a_result_in := f_result_in, fd_result_in := _, F_result_in := fun_mk (st := s_result_in) l_result_in c_result_in k_result_in, m_result_in := PySem.W.mg_of X G a_result_in, a_effect := f_effect, fd_effect := _, F_effect := fun_mk (st := s_effect) l_effect c_effect k_effect, m_effect := PySem.W.mg_of X G a_effect, a_result := f_result, fd_result := _, F_result := fun_mk (st := s_result) l_result c_result k_result, m_result := PySem.W.mg_of X G a_result, a_law_source := f_law_source, fd_law_source := _, F_law_source := fun_mk (st := s_law_source) l_law_source c_law_source k_law_source, m_law_source := PySem.W.mg_of X G a_law_source, a_law_draw := f_law_draw, fd_law_draw := _, F_law_draw := fun_mk (st := s_law_draw) l_law_draw c_law_draw k_law_draw, m_law_draw := PySem.W.mg_of X G a_law_draw, a_law_same := f_law_same, fd_law_same := _, F_law_same := fun_mk (st := s_law_same) l_law_same c_law_same k_law_same, m_law_same := PySem.W.mg_of X G a_law_same, a_law_script := f_law_script, fd_law_script := _, F_law_script := fun_mk (st := s_law_script) l_law_script c_law_script k_law_script, m_law_script := PySem.W.mg_of X G a_law_script, a_law_after := f_law_after, fd_law_after := _, F_law_after := fun_mk (st := s_law_after) l_law_after c_law_after k_law_after, m_law_after := PySem.W.mg_of X G a_law_after, a_law_values := f_law_values, fd_law_values := _, F_law_values := fun_mk (st := s_law_values) l_law_values c_law_values k_law_values, m_law_values := PySem.W.mg_of X G a_law_values, a_law := fa, fd_law := _, F_law := fun_mk (st := s_law) l_law c_law k_law, m_law := PySem.W.mg_of X G a_law, n_enumerate := PySem.W.mg_none_of X G z_enumerate, n_len := PySem.W.mg_none_of X G z_len, n_sorted := PySem.W.mg_none_of X G z_sorted, n_list := PySem.W.mg_none_of X G z_list, n_range := PySem.W.mg_none_of X G z_range, n_int := PySem.W.mg_none_of X G z_int, n_min := PySem.W.mg_none_of X G z_min, n_set := PySem.W.mg_none_of X G z_set, n_max := PySem.W.mg_none_of X G z_max, n_isinstance := PySem.W.mg_none_of X G z_isinstance, n_bool := PySem.W.mg_none_of X G z_bool, n_str := PySem.W.mg_none_of X G z_str, n_tuple := PySem.W.mg_none_of X G z_tuple, n_repr := PySem.W.mg_none_of X G z_repr }
  exact ⟨_, fun s v => .of_eq rfl, fun base _ _ => ok_law T⟩
end K07

open PySem PySem.W PyProof.Rows in
set_option maxRecDepth 100000 in
set_option maxHeartbeats 0 in
theorem PySem.Challenge.cw_sortstretches_k07_results_without_runnin_holds : PySem.Challenge.rw_sortstretches_k07_results_without_runnin.Holds := by
  w_on; o_law; k_head; (case hw => w_witness2)
  k_fill
  refine PL.walk_pl (l := PySem.Challenge.rw_sortstretches_k07_results_without_runnin) (n := 63) (k := 7) (x := "script") (sp := K07.sp_law) rfl (by decide) rfl ⟨rfl, by decide, by decide⟩ (fun w h Y => PySem.W.kIn_of Y) ?F K07.law_true
  case F =>
    intro w mg fa h KX G hmg
    refine' K07.all_mk KX G hmg ?a_check_size ?l_check_size ?c_check_size ?k_check_size ?a_check_script ?l_check_script ?c_check_script ?k_check_script ?a_check_arrangement ?l_check_arrangement ?c_check_arrangement ?k_check_arrangement ?a_after_command ?l_after_command ?c_after_command ?k_after_command ?a_after_script ?l_after_script ?c_after_script ?k_after_script ?a_descending ?l_descending ?c_descending ?k_descending ?a_effect_in ?l_effect_in ?c_effect_in ?k_effect_in ?a_counts_of ?l_counts_of ?c_counts_of ?k_counts_of ?a_led ?l_led ?c_led ?k_led ?a_result_in ?l_result_in ?c_result_in ?k_result_in ?a_effect ?l_effect ?c_effect ?k_effect ?a_result ?l_result ?c_result ?k_result ?a_law_source ?l_law_source ?c_law_source ?k_law_source ?a_law_draw ?l_law_draw ?c_law_draw ?k_law_draw ?a_law_same ?l_law_same ?c_law_same ?k_law_same ?a_law_script ?l_law_script ?c_law_script ?k_law_script ?a_law_after ?l_law_after ?c_law_after ?k_law_after ?a_law_values ?l_law_values ?c_law_values ?k_law_values ?a_law ?l_law ?c_law ?k_law ?z_enumerate ?z_len ?z_sorted ?z_list ?z_range ?z_int ?z_min ?z_set ?z_max ?z_isinstance ?z_bool ?z_str ?z_tuple ?z_repr
    (case a_check_size => k_is)
    (case l_check_size => k_is)
    (case c_check_size => k_is)
    (case k_check_size => k_is)
    (case a_check_script => k_is)
    (case l_check_script => k_is)
    (case c_check_script => k_is)
    (case k_check_script => k_is)
    (case a_check_arrangement => k_is)
    (case l_check_arrangement => k_is)
    (case c_check_arrangement => k_is)
    (case k_check_arrangement => k_is)
    (case a_after_command => k_is)
    (case l_after_command => k_is)
    (case c_after_command => k_is)
    (case k_after_command => k_is)
    (case a_after_script => k_is)
    (case l_after_script => k_is)
    (case c_after_script => k_is)
    (case k_after_script => k_is)
    (case a_descending => k_is)
    (case l_descending => k_is)
    (case c_descending => k_is)
    (case k_descending => k_is)
    (case a_effect_in => k_is)
    (case l_effect_in => k_is)
    (case c_effect_in => k_is)
    (case k_effect_in => k_is)
    (case a_counts_of => k_is)
    (case l_counts_of => k_is)
    (case c_counts_of => k_is)
    (case k_counts_of => k_is)
    (case a_led => k_is)
    (case l_led => k_is)
    (case c_led => k_is)
    (case k_led => k_is)
    (case a_result_in => k_is)
    (case l_result_in => k_is)
    (case c_result_in => k_is)
    (case k_result_in => k_is)
    (case a_effect => k_is)
    (case l_effect => k_is)
    (case c_effect => k_is)
    (case k_effect => k_is)
    (case a_result => k_is)
    (case l_result => k_is)
    (case c_result => k_is)
    (case k_result => k_is)
    (case a_law_source => k_is)
    (case l_law_source => k_is)
    (case c_law_source => k_is)
    (case k_law_source => k_is)
    (case a_law_draw => k_is)
    (case l_law_draw => k_is)
    (case c_law_draw => k_is)
    (case k_law_draw => k_is)
    (case a_law_same => k_is)
    (case l_law_same => k_is)
    (case c_law_same => k_is)
    (case k_law_same => k_is)
    (case a_law_script => k_is)
    (case l_law_script => k_is)
    (case c_law_script => k_is)
    (case k_law_script => k_is)
    (case a_law_after => k_is)
    (case l_law_after => k_is)
    (case c_law_after => k_is)
    (case k_law_after => k_is)
    (case a_law_values => k_is)
    (case l_law_values => k_is)
    (case c_law_values => k_is)
    (case k_law_values => k_is)
    (case a_law => k_is)
    (case l_law => k_is)
    (case c_law => k_is)
    (case k_law => k_is)
    (case z_enumerate => k_is)
    (case z_len => k_is)
    (case z_sorted => k_is)
    (case z_list => k_is)
    (case z_range => k_is)
    (case z_int => k_is)
    (case z_min => k_is)
    (case z_set => k_is)
    (case z_max => k_is)
    (case z_isinstance => k_is)
    (case z_bool => k_is)
    (case z_str => k_is)
    (case z_tuple => k_is)
    (case z_repr => k_is)

