import PyProof.Rows.All
import Wide.All
import OpenK.AllK
import Wide.FinOn
import HandS.ForMost
import HandS.Wide
import HandS.WideMore
import HandS.SortInts
import HandS.SortKw
import HandS.NoneIn
import HandS.Style
import HandS.Flow
import HandS.Deep
import HandS.IsInst
import HandS.Rev
import HandS.Zip
import KE.Datum
import HandS.Star
import HandS.Conv
import HandS.SetFor
import HandS.RaiseMore
import KE.KSortedM
import HandS.Flt
import KE.GoesEnum
import HandS.GenList
import PyProof.Commute
import PyProof.EnumFor
import PyProof.Draws
import HandS.Exc
import HandS.ExcCtx
import KE.KExcSuper
import KE.RegKSuper
import HandS.Text
import HandS.Codes
import HandS.SuiteRaise
import PySem.Challenge.RW_sortstretches_k52_whole_texts_and_script
set_option Elab.async false
set_option linter.all false
set_option maxRecDepth 100000
/-! The pure layer: heap-free readings over the hand layer. -/
namespace PL
open PySem L2

/-! ### 1. data that stands still: Fp F v d, by the sub-heap F of what never changes again -/
mutual
inductive Fp (F : Hp) : V → PyData → Prop
  | non : Fp F .non .none
  | bl (b : Bool) : Fp F (.bl b) (.bool b)
  | int (i : Int) : Fp F (.int i) (.int i)
  | str (x : Str) : Fp F (.str x) (.str x)
  | lst {a : Addr} {xs : List V} {ds : List PyData} : F a = some (.lst xs) → FpAll F xs ds → Fp F (.ref a) (.list ds)
  | tup {a : Addr} {xs : List V} {ds : List PyData} : F a = some (.tup xs) → FpAll F xs ds → Fp F (.ref a) (.tuple ds)
inductive FpAll (F : Hp) : List V → List PyData → Prop
  | nil : FpAll F [] []
  | cons {v : V} {vs : List V} {d : PyData} {ds : List PyData} : Fp F v d → FpAll F vs ds → FpAll F (v :: vs) (d :: ds)
end

theorem Fp.to {F F' : Hp} (s : Same F F') {v : V} {d : PyData} (h : Fp F v d) : Fp F' v d :=
  Fp.rec (motive_1 := fun v d _ => Fp F' v d) (motive_2 := fun vs ds _ => FpAll F' vs ds) .non .bl .int .str
    (fun e _ ih => .lst (s _ _ e) ih) (fun e _ ih => .tup (s _ _ e) ih) .nil (fun _ _ i1 i2 => .cons i1 i2) h
theorem FpAll.to {F F' : Hp} (s : Same F F') : ∀ {vs : List V} {ds : List PyData}, FpAll F vs ds → FpAll F' vs ds
  | _, _, .nil => .nil
  | _, _, .cons h r => .cons (h.to s) (FpAll.to s r)
theorem Fp.dp {K : PySem.W.Frag} {F H : Hp} (s : Same F H) {v : V} {d : PyData} (h : Fp F v d) : Dp K H v d :=
  Fp.rec (motive_1 := fun v d _ => Dp K H v d) (motive_2 := fun vs ds _ => DpAll K H vs ds) .non .bl .int .str
    (fun e _ ih => .lst (SqL.of (s _ _ e)) ih) (fun e _ ih => .tup (SqT.of (s _ _ e)) ih) .nil (fun _ _ i1 i2 => .cons i1 i2) h
theorem FpAll.length {F : Hp} : ∀ {vs : List V} {ds : List PyData}, FpAll F vs ds → vs.length = ds.length
  | _, _, .nil => rfl
  | _, _, .cons _ r => by rw [List.length_cons, List.length_cons, FpAll.length r]
theorem FpAll.get {F : Hp} : ∀ {vs : List V} {ds : List PyData} {i : Nat} {d : PyData}, FpAll F vs ds → ds[i]? = some d → ∃ v, vs[i]? = some v ∧ Fp F v d
  | _, _, 0, _, .cons h _, e => by
    rw [List.getElem?_cons_zero] at e
    cases e
    exact ⟨_, rfl, h⟩
  | _, _, i + 1, _, .cons _ r, e => by
    rw [List.getElem?_cons_succ] at e
    obtain ⟨v, h1, h2⟩ := FpAll.get r e
    exact ⟨v, by rw [List.getElem?_cons_succ]; exact h1, h2⟩
theorem FpAll.get' {F : Hp} : ∀ {vs : List V} {ds : List PyData} {i : Nat} {v : V}, FpAll F vs ds → vs[i]? = some v → ∃ d, ds[i]? = some d ∧ Fp F v d
  | _, _, 0, _, .cons h _, e => by
    rw [List.getElem?_cons_zero] at e
    cases e
    exact ⟨_, rfl, h⟩
  | _, _, i + 1, _, .cons _ r, e => by
    rw [List.getElem?_cons_succ] at e
    obtain ⟨v, h1, h2⟩ := FpAll.get' r e
    exact ⟨v, by rw [List.getElem?_cons_succ]; exact h1, h2⟩
theorem FpAll.app {F : Hp} : ∀ {vs us : List V} {ds es : List PyData}, FpAll F vs ds → FpAll F us es → FpAll F (vs ++ us) (ds ++ es)
  | _, _, _, _, .nil, h => h
  | _, _, _, _, .cons h r, k => .cons h (FpAll.app r k)
theorem FpAll.take {F : Hp} : ∀ {vs : List V} {ds : List PyData} (n : Nat), FpAll F vs ds → FpAll F (vs.take n) (ds.take n)
  | _, _, 0, _ => .nil
  | _, _, _ + 1, .nil => .nil
  | _, _, n + 1, .cons h r => .cons h (FpAll.take n r)
theorem FpAll.drop {F : Hp} : ∀ {vs : List V} {ds : List PyData} (n : Nat), FpAll F vs ds → FpAll F (vs.drop n) (ds.drop n)
  | _, _, 0, h => h
  | _, _, _ + 1, .nil => .nil
  | _, _, n + 1, .cons _ r => FpAll.drop n r
theorem FpAll.set {F : Hp} {v : V} {d : PyData} (h : Fp F v d) : ∀ {vs : List V} {ds : List PyData} (n : Nat), FpAll F vs ds → FpAll F (vs.set n v) (ds.set n d)
  | _, _, _, .nil => .nil
  | _, _, 0, .cons _ r => .cons h r
  | _, _, n + 1, .cons k r => .cons k (FpAll.set h n r)
theorem FpAll.eraseIdx {F : Hp} : ∀ {vs : List V} {ds : List PyData} (n : Nat), FpAll F vs ds → FpAll F (vs.eraseIdx n) (ds.eraseIdx n)
  | _, _, _, .nil => .nil
  | _, _, 0, .cons _ r => r
  | _, _, n + 1, .cons k r => .cons k (FpAll.eraseIdx n r)
theorem FpAll.reverse {F : Hp} : ∀ {vs : List V} {ds : List PyData}, FpAll F vs ds → FpAll F vs.reverse ds.reverse
  | _, _, .nil => .nil
  | _, _, .cons h r => by
    rw [List.reverse_cons, List.reverse_cons]
    exact (FpAll.reverse r).app (.cons h .nil)
theorem FpAll.ints {F : Hp} : ∀ (ns : List Int), FpAll F (ns.map V.int) (ns.map PyData.int)
  | [] => .nil
  | n :: ns => .cons (.int n) (FpAll.ints ns)
theorem FpAll.of_ints {F : Hp} : ∀ {vs : List V} {ns : List Int}, FpAll F vs (ns.map PyData.int) → vs = ns.map V.int
  | _, [], h => by cases h; rfl
  | _, n :: ns, h => by
    rw [List.map_cons] at h
    cases h with
    | cons h r =>
      cases h
      rw [FpAll.of_ints r]
      rfl

/-! ### 2. owned things -/
/-- what a slot may own: a list of still data; a list of things; a dict with plain keys; a dict with tuple keys; an instance; the script -/
inductive MO where
  | fz (d : PyData)
  | ol (ds : List PyData)
  | lst (cs : List MO)
  | dk (ms : List (Key × MO))
  | dt (lk : Bool) (ms : List (List Key × PyData))
  | ins (C : Addr) (fs : List (Str × MO))
  | scr (ns : List Int)
  | st (ns : List Int)
inductive FpT (F : Hp) : List (List Key × V) → List (List Key × PyData) → Prop
  | nil : FpT F [] []
  | cons {k : List Key} {v : V} {d : PyData} {vs : List (List Key × V)} {ds : List (List Key × PyData)} : Fp F v d → FpT F vs ds → FpT F ((k, v) :: vs) ((k, d) :: ds)
mutual
inductive Mp (K : PySem.W.Frag) (F H : Hp) : V → MO → List Addr → Prop
  | fz {v : V} {d : PyData} : Fp F v d → Mp K F H v (.fz d) []
  | ol {a : Addr} {vs : List V} {ds : List PyData} : H a = some (.lst vs) → FpAll F vs ds → Mp K F H (.ref a) (.ol ds) [a]
  | lst {a : Addr} {vs : List V} {cs : List MO} {as : List Addr} : H a = some (.lst vs) → MpAll K F H vs cs as → Mp K F H (.ref a) (.lst cs) (a :: as)
  | dk {a : Addr} {kvs : List (Key × V)} {ms : List (Key × MO)} {as : List Addr} : H a = some (.dK kvs) → MpKV K F H kvs ms as → Mp K F H (.ref a) (.dk ms) (a :: as)
  | dt {a : Addr} {kvs : List (List Key × V)} {ms : List (List Key × PyData)} : H a = some (.dT kvs) → FpT F kvs ms → Mp K F H (.ref a) (.dt false ms) [a]
  | dl {a : Addr} {o : Obj} {kvs : List (List Key × V)} {ms : List (List Key × PyData)} : F a = some (.frz o (.dT kvs)) → FpT F kvs ms → Mp K F H (.ref a) (.dt true ms) []
  | ins {a C dx : Addr} {fs : List (Str × V)} {ms : List (Str × MO)} {as : List Addr} : H a = some (.ins C dx fs) → MpFs K F H fs ms as → Mp K F H (.ref a) (.ins C ms) (a :: as)
  | scr {a : Addr} {ns : List Int} : SqL K F a (ns.map V.int) → Mp K F H (.ref a) (.scr ns) []
  | st {a : Addr} {ns : List Int} {S : Int → Bool} {c : Nat} : H a = some (.set S c) → (∀ k, S k = decide (k ∈ ns)) → Mp K F H (.ref a) (.st ns) [a]
inductive MpAll (K : PySem.W.Frag) (F H : Hp) : List V → List MO → List Addr → Prop
  | nil : MpAll K F H [] [] []
  | cons {v : V} {vs : List V} {c : MO} {cs : List MO} {as bs : List Addr} : Mp K F H v c as → MpAll K F H vs cs bs → MpAll K F H (v :: vs) (c :: cs) (as ++ bs)
inductive MpKV (K : PySem.W.Frag) (F H : Hp) : List (Key × V) → List (Key × MO) → List Addr → Prop
  | nil : MpKV K F H [] [] []
  | cons {k : Key} {v : V} {vs : List (Key × V)} {c : MO} {cs : List (Key × MO)} {as bs : List Addr} : Mp K F H v c as → MpKV K F H vs cs bs → MpKV K F H ((k, v) :: vs) ((k, c) :: cs) (as ++ bs)
inductive MpFs (K : PySem.W.Frag) (F H : Hp) : List (Str × V) → List (Str × MO) → List Addr → Prop
  | nil : MpFs K F H [] [] []
  | cons {k : Str} {v : V} {vs : List (Str × V)} {c : MO} {cs : List (Str × MO)} {as bs : List Addr} : Mp K F H v c as → MpFs K F H vs cs bs → MpFs K F H ((k, v) :: vs) ((k, c) :: cs) (as ++ bs)
end
theorem FpT.to {F F' : Hp} (s : Same F F') : ∀ {vs : List (List Key × V)} {ds : List (List Key × PyData)}, FpT F vs ds → FpT F' vs ds
  | _, _, .nil => .nil
  | _, _, .cons h r => .cons (h.to s) (FpT.to s r)

section
variable {K : PySem.W.Frag} {F F' H H' : Hp}
theorem Mp.to (s : Same F F') {v : V} {c : MO} {as : List Addr} (h : Mp K F H v c as) (k : ∀ a ∈ as, H' a = H a) : Mp K F' H' v c as := by
  refine Mp.rec (K := K) (F := F) (H := H) (motive_1 := fun v c as _ => (∀ a ∈ as, H' a = H a) → Mp K F' H' v c as) (motive_2 := fun vs cs as _ => (∀ a ∈ as, H' a = H a) → MpAll K F' H' vs cs as)
    (motive_3 := fun vs cs as _ => (∀ a ∈ as, H' a = H a) → MpKV K F' H' vs cs as) (motive_4 := fun vs cs as _ => (∀ a ∈ as, H' a = H a) → MpFs K F' H' vs cs as)
    ?_ ?_ ?_ ?_ ?_ ?_ ?_ ?_ ?_ ?_ ?_ ?_ ?_ ?_ ?_ h k
  · exact fun h _ => .fz (h.to s)
  · exact fun e h k => .ol ((k _ List.mem_cons_self).trans e) (h.to s)
  · exact fun e _ ih k => .lst ((k _ List.mem_cons_self).trans e) (ih fun a ha => k a (List.mem_cons_of_mem _ ha))
  · exact fun e _ ih k => .dk ((k _ List.mem_cons_self).trans e) (ih fun a ha => k a (List.mem_cons_of_mem _ ha))
  · exact fun e h k => .dt ((k _ List.mem_cons_self).trans e) (h.to s)
  · exact fun e h _ => .dl (s _ _ e) (h.to s)
  · exact fun e _ ih k => .ins ((k _ List.mem_cons_self).trans e) (ih fun a ha => k a (List.mem_cons_of_mem _ ha))
  · exact fun h _ => .scr (s.seq h)
  · exact fun e h k => .st ((k _ List.mem_cons_self).trans e) h
  · exact fun _ => .nil
  · exact fun _ _ i1 i2 k => .cons (i1 fun a ha => k a (List.mem_append_left _ ha)) (i2 fun a ha => k a (List.mem_append_right _ ha))
  · exact fun _ => .nil
  · exact fun _ _ i1 i2 k => .cons (i1 fun a ha => k a (List.mem_append_left _ ha)) (i2 fun a ha => k a (List.mem_append_right _ ha))
  · exact fun _ => .nil
  · exact fun _ _ i1 i2 k => .cons (i1 fun a ha => k a (List.mem_append_left _ ha)) (i2 fun a ha => k a (List.mem_append_right _ ha))
theorem some_ne {α : Type} {x : Option α} {y : α} (h : x = some y) : x ≠ none := fun e => by rw [e] at h; cases h
theorem Mp.live {v : V} {c : MO} {as : List Addr} (h : Mp K F H v c as) : ∀ a ∈ as, H a ≠ none := by
  have c1 : ∀ {a : Addr} {as : List Addr} {o : HO}, H a = some o → (∀ b ∈ as, H b ≠ none) → ∀ b ∈ a :: as, H b ≠ none := fun e k b hb => by
    rcases List.mem_cons.mp hb with z | z
    · rw [z]; exact some_ne e
    · exact k b z
  have c2 : ∀ {as bs : List Addr}, (∀ b ∈ as, H b ≠ none) → (∀ b ∈ bs, H b ≠ none) → ∀ b ∈ as ++ bs, H b ≠ none := fun k1 k2 b hb => (List.mem_append.mp hb).elim (k1 b) (k2 b)
  have c0 : ∀ b ∈ ([] : List Addr), H b ≠ none := fun b hb => absurd hb (by simp)
  exact Mp.rec (K := K) (F := F) (H := H) (motive_1 := fun v c as _ => ∀ a ∈ as, H a ≠ none) (motive_2 := fun vs cs as _ => ∀ a ∈ as, H a ≠ none)
    (motive_3 := fun vs cs as _ => ∀ a ∈ as, H a ≠ none) (motive_4 := fun vs cs as _ => ∀ a ∈ as, H a ≠ none)
    (fun _ => c0) (fun e _ => c1 e c0) (fun e _ ih => c1 e ih) (fun e _ ih => c1 e ih) (fun e _ => c1 e c0) (fun _ _ => c0) (fun e _ ih => c1 e ih) (fun _ => c0) (fun e _ => c1 e c0) c0 (fun _ _ => c2) c0 (fun _ _ => c2) c0 (fun _ _ => c2) h
/-- a tuple stands there -/
def IsTp (H : Hp) (a : Addr) : Prop := ∃ xs, H a = some (.tup xs)
theorem ntp_of {a : Addr} {o : HO} (h : H a = some o) (n : ∀ xs, o ≠ .tup xs) : ¬ IsTp H a := fun ⟨xs, e⟩ => by
  rw [h] at e
  exact n xs (Option.some.inj e)
theorem Mp.ntp {v : V} {c : MO} {as : List Addr} (h : Mp K F H v c as) : ∀ a ∈ as, ¬ IsTp H a := by
  have c1 : ∀ {a : Addr} {as : List Addr} {o : HO}, H a = some o → (∀ xs, o ≠ .tup xs) → (∀ b ∈ as, ¬ IsTp H b) → ∀ b ∈ a :: as, ¬ IsTp H b := fun e n k b hb => by
    rcases List.mem_cons.mp hb with z | z
    · rw [z]; exact ntp_of e n
    · exact k b z
  have c2 : ∀ {as bs : List Addr}, (∀ b ∈ as, ¬ IsTp H b) → (∀ b ∈ bs, ¬ IsTp H b) → ∀ b ∈ as ++ bs, ¬ IsTp H b := fun k1 k2 b hb => (List.mem_append.mp hb).elim (k1 b) (k2 b)
  have c0 : ∀ b ∈ ([] : List Addr), ¬ IsTp H b := fun b hb => absurd hb (by simp)
  exact Mp.rec (K := K) (F := F) (H := H) (motive_1 := fun v c as _ => ∀ a ∈ as, ¬ IsTp H a) (motive_2 := fun vs cs as _ => ∀ a ∈ as, ¬ IsTp H a)
    (motive_3 := fun vs cs as _ => ∀ a ∈ as, ¬ IsTp H a) (motive_4 := fun vs cs as _ => ∀ a ∈ as, ¬ IsTp H a)
    (fun _ => c0) (fun e _ => c1 e (fun _ z => nomatch z) c0) (fun e _ ih => c1 e (fun _ z => nomatch z) ih) (fun e _ ih => c1 e (fun _ z => nomatch z) ih) (fun e _ => c1 e (fun _ z => nomatch z) c0) (fun _ _ => c0) (fun e _ ih => c1 e (fun _ z => nomatch z) ih) (fun _ => c0) (fun e _ => c1 e (fun _ z => nomatch z) c0) c0 (fun _ _ => c2) c0 (fun _ _ => c2) c0 (fun _ _ => c2) h
theorem MpAll.to (s : Same F F') : ∀ {vs : List V} {cs : List MO} {as : List Addr}, MpAll K F H vs cs as → (∀ a ∈ as, H' a = H a) → MpAll K F' H' vs cs as
  | _, _, _, .nil, _ => .nil
  | _, _, _, .cons h r, k => .cons (h.to s fun a ha => k a (List.mem_append_left _ ha)) (MpAll.to s r fun a ha => k a (List.mem_append_right _ ha))
theorem MpKV.to (s : Same F F') : ∀ {vs : List (Key × V)} {cs : List (Key × MO)} {as : List Addr}, MpKV K F H vs cs as → (∀ a ∈ as, H' a = H a) → MpKV K F' H' vs cs as
  | _, _, _, .nil, _ => .nil
  | _, _, _, .cons h r, k => .cons (h.to s fun a ha => k a (List.mem_append_left _ ha)) (MpKV.to s r fun a ha => k a (List.mem_append_right _ ha))
theorem MpFs.to (s : Same F F') : ∀ {vs : List (Str × V)} {cs : List (Str × MO)} {as : List Addr}, MpFs K F H vs cs as → (∀ a ∈ as, H' a = H a) → MpFs K F' H' vs cs as
  | _, _, _, .nil, _ => .nil
  | _, _, _, .cons h r, k => .cons (h.to s fun a ha => k a (List.mem_append_left _ ha)) (MpFs.to s r fun a ha => k a (List.mem_append_right _ ha))
end
end PL

namespace PL
open PySem L2

/-! ### 3. slots, and how they are held -/
inductive Sl where
  | un
  | v (d : PyData)
  | m (c : MO)
abbrev PEnv := List Sl
/-- the entry: what was still, the heap, what was lent (may change), the slots that stay bound -/
structure Ent where
  F0 : Hp
  H0 : Hp
  B : Addr → Prop
  fix : Nat → Option V
def SlOk (K : PySem.W.Frag) (F H : Hp) (x : Option V) (s : Sl) (as : List Addr) : Prop := match s with
  | .un => as = []
  | .v d => ∃ v, x = some v ∧ Fp F v d ∧ as = []
  | .m c => ∃ v, x = some v ∧ Mp K F H v c as
structure SR (K : PySem.W.Frag) (E : Ent) (F H : Hp) (σ : St) (env : PEnv) (As : Nat → List Addr) : Prop where
  sub : Same F H
  f0 : Same E.F0 F
  grow : ∀ a, F a ≠ none → E.F0 a ≠ none ∨ E.H0 a = none ∨ E.B a ∨ IsTp E.H0 a
  keep : ∀ b o, E.H0 b = some o → ¬ E.B b → H b = some o
  len : σ.length = env.length
  slot : ∀ i s, env[i]? = some s → ∃ x, σ[i]? = some x ∧ SlOk K F H x s (As i)
  out : ∀ i, env.length ≤ i → As i = []
  own : ∀ i a, a ∈ As i → F a = none ∧ (E.B a ∨ E.H0 a = none)
  nd : ∀ i, (As i).Nodup
  disj : ∀ i j a, i ≠ j → a ∈ As i → a ∉ As j
  fix : ∀ i v, E.fix i = some v → σ[i]? = some (some v)
/-- a result: still, or owned and new to all slots -/
def RsOk (K : PySem.W.Frag) (E : Ent) (F H : Hp) (As : Nat → List Addr) (v : V) (r : Sl) (ar : List Addr) : Prop :=
  SlOk K F H (some v) r ar ∧ ar.Nodup ∧ (∀ a ∈ ar, F a = none ∧ (E.B a ∨ E.H0 a = none)) ∧ ∀ i, ∀ a ∈ ar, a ∉ As i

section
variable {K : PySem.W.Frag} {E : Ent} {F H F' H' : Hp} {σ : St} {env : PEnv} {As : Nat → List Addr}
theorem SlOk.to {x : Option V} {s : Sl} {as : List Addr} (h : SlOk K F H x s as) (f : Same F F') (k : ∀ a ∈ as, H' a = H a) : SlOk K F' H' x s as := by
  cases s with
  | un => exact h
  | v d =>
    obtain ⟨v, e, h, z⟩ := h
    exact ⟨v, e, h.to f, z⟩
  | m c =>
    obtain ⟨v, e, h⟩ := h
    exact ⟨v, e, h.to f k⟩
theorem SlOk.live {x : Option V} {s : Sl} {as : List Addr} (h : SlOk K F H x s as) : ∀ a ∈ as, H a ≠ none := by
  cases s with
  | un =>
    have z : as = [] := h
    rw [z]
    exact fun a ha => absurd ha (by simp)
  | v d =>
    obtain ⟨v, e, h, z⟩ := h
    rw [z]
    exact fun a ha => absurd ha (by simp)
  | m c =>
    obtain ⟨v, e, h⟩ := h
    exact h.live
theorem SR.live (S : SR K E F H σ env As) (i : Nat) : ∀ a ∈ As i, H a ≠ none := fun a ha => by
  by_cases hi : i < env.length
  · obtain ⟨x, _, h⟩ := S.slot i env[i] (List.getElem?_eq_getElem hi)
    exact h.live a ha
  · rw [S.out i (by omega)] at ha
    cases ha
/-- what is free now was free at the entry, or lent -/
theorem SR.free (S : SR K E F H σ env As) {a : Addr} (h : H a = none) : E.H0 a = none ∨ E.B a := by
  cases q : E.H0 a with
  | none => exact .inl rfl
  | some o =>
    refine .inr (Classical.byContradiction fun nb => ?_)
    rw [S.keep a o q nb] at h
    cases h
theorem SlOk.ntp {x : Option V} {s : Sl} {as : List Addr} (h : SlOk K F H x s as) : ∀ a ∈ as, ¬ IsTp H a := by
  cases s with
  | un =>
    have z : as = [] := h
    rw [z]
    exact fun a ha => absurd ha (by simp)
  | v d =>
    obtain ⟨v, e, h, z⟩ := h
    rw [z]
    exact fun a ha => absurd ha (by simp)
  | m c =>
    obtain ⟨v, e, h⟩ := h
    exact h.ntp
theorem SR.ntp (S : SR K E F H σ env As) (i : Nat) : ∀ a ∈ As i, ¬ IsTp H a := fun a ha => by
  by_cases hi : i < env.length
  · obtain ⟨x, _, h⟩ := S.slot i env[i] (List.getElem?_eq_getElem hi)
    exact h.ntp a ha
  · rw [S.out i (by omega)] at ha
    cases ha
/-- a tuple of now was one at the entry, or new, or lent -/
theorem SR.tp (S : SR K E F H σ env As) {a : Addr} (h : IsTp H a) : E.H0 a = none ∨ E.B a ∨ IsTp E.H0 a := by
  cases q : E.H0 a with
  | none => exact .inl rfl
  | some o =>
    by_cases nb : E.B a
    · exact .inr (.inl nb)
    · obtain ⟨xs, e⟩ := h
      have z := S.keep a o q nb
      rw [e] at z
      cases z
      exact .inr (.inr ⟨xs, q⟩)
theorem SR.free' (S : SR K E F H σ env As) {a : Addr} (h : H a = none) : E.H0 a = none ∨ E.B a ∨ IsTp E.H0 a := (S.free h).elim .inl fun z => .inr (.inl z)
/-- the heap grows, what is still grows by new things only -/
structure Gr (F H F' H' : Hp) : Prop where
  ff : Same F F'
  fh : Same F' H'
  hh : Same H H'
  new : ∀ a, F' a ≠ none → F a ≠ none ∨ H a = none ∨ IsTp H a
theorem Gr.refl (h : Same F H) : Gr F H F H := ⟨Same.refl F, h, Same.refl H, fun _ z => .inl z⟩
theorem Gr.trans {F2 H2 : Hp} (g : Gr F H F' H') (k : Gr F' H' F2 H2) : Gr F H F2 H2 := ⟨g.ff.trans k.ff, k.fh, g.hh.trans k.hh, fun a z => by
  rcases k.new a z with e | e | ⟨xs, e⟩
  · exact g.new a e
  · exact .inr (.inl (g.hh.free e))
  · cases q : H a with
    | none => exact .inr (.inl rfl)
    | some o =>
      have y := g.hh a o q
      rw [e] at y
      cases y
      exact .inr (.inr ⟨xs, q⟩)⟩
theorem Gr.off (g : Gr F H F' H') {a : Addr} (h1 : F a = none) (h2 : H a ≠ none) (h3 : ¬ IsTp H a) : F' a = none := by
  cases q : F' a with
  | none => rfl
  | some o =>
    rcases g.new a (some_ne q) with z | z | z
    · exact absurd h1 z
    · exact absurd z h2
    · exact absurd z h3
theorem SR.gr (S : SR K E F H σ env As) (g : Gr F H F' H') : SR K E F' H' σ env As where
  sub := g.fh
  f0 := S.f0.trans g.ff
  grow := fun a h => by
    rcases g.new a h with z | z | z
    · exact S.grow a z
    · exact .inr (S.free' z)
    · exact .inr (S.tp z)
  keep := fun b o e n => g.hh b o (S.keep b o e n)
  len := S.len
  slot := fun i s e => by
    obtain ⟨x, h1, h2⟩ := S.slot i s e
    refine ⟨x, h1, h2.to g.ff fun a ha => ?_⟩
    cases q : H a with
    | none => exact absurd q (S.live i a ha)
    | some o => exact g.hh a o q
  out := S.out
  own := fun i a h => ⟨g.off (S.own i a h).1 (S.live i a h) (S.ntp i a h), (S.own i a h).2⟩
  nd := S.nd
  disj := S.disj
  fix := S.fix
theorem RsOk.gr {v : V} {r : Sl} {ar : List Addr} (R : RsOk K E F H As v r ar) (g : Gr F H F' H') : RsOk K E F' H' As v r ar := by
  obtain ⟨h, n, o, d⟩ := R
  refine ⟨h.to g.ff fun a ha => ?_, n, fun a ha => ⟨g.off (o a ha).1 (h.live a ha) (h.ntp a ha), (o a ha).2⟩, d⟩
  cases q : H a with
  | none => exact absurd q (h.live a ha)
  | some o => exact g.hh a o q
/-- a new thing p = o, still -/
theorem Gr.laid (h : Same F H) {p : Addr} {o : HO} (hp : H p = none) : Gr F H (upd F p o) (upd H p o) := by
  have fp : F p = none := h.free hp
  refine ⟨fun b u e => ?_, fun b u e => ?_, fun b u e => ?_, fun a e => ?_⟩
  · rw [upd_ne (ne_of_none e fp)]
    exact e
  · by_cases q : b = p
    · rw [q, upd_same] at e ⊢
      exact e
    · rw [upd_ne q] at e ⊢
      exact h b u e
  · rw [upd_ne (ne_of_none e hp)]
    exact e
  · by_cases q : a = p
    · rw [q]
      exact .inr (.inl hp)
    · rw [upd_ne q] at e
      exact .inl e
/-- a new thing p = o, owned -/
theorem Gr.made (h : Same F H) {p : Addr} {o : HO} (hp : H p = none) : Gr F H F (upd H p o) :=
  ⟨Same.refl F, fun b u e => by rw [upd_ne (ne_of_none e (h.free hp))]; exact h b u e, fun b u e => by rw [upd_ne (ne_of_none e hp)]; exact e, fun a e => .inl e⟩

/-! what is owned becomes still -/
/-- the still form of an owned thing -/
def MO.ds? : List (Option PyData) → Option (List PyData)
  | [] => some []
  | some d :: r => (MO.ds? r).map (d :: ·)
  | none :: _ => none
mutual
def MO.d? : MO → Option PyData
  | .fz d => some d
  | .ol ds => some (.list ds)
  | .lst cs => (MO.dAll? cs).map .list
  | _ => none
def MO.dAll? : List MO → Option (List PyData)
  | [] => some []
  | c :: cs => match MO.d? c, MO.dAll? cs with
    | some d, some ds => some (d :: ds)
    | _, _ => none
end
/-- F with the things of H at as -/
def frz (F H : Hp) (as : List Addr) : Hp := fun a => if a ∈ as then H a else F a
theorem frz_of {as : List Addr} {a : Addr} (h : a ∈ as) : frz F H as a = H a := if_pos h
theorem frz_not {as : List Addr} {a : Addr} (h : a ∉ as) : frz F H as a = F a := if_neg h
theorem frz_sub (s : Same F H) (as : List Addr) : Same F (frz F H as) := fun b o e => by
  by_cases h : b ∈ as
  · rw [frz_of h]; exact s b o e
  · rw [frz_not h]; exact e
theorem frz_le (s : Same F H) (as : List Addr) : Same (frz F H as) H := fun b o e => by
  by_cases h : b ∈ as
  · rw [frz_of h] at e; exact e
  · rw [frz_not h] at e; exact s b o e
mutual
theorem Mp.still {F2 : Hp} (f : Same F F2) : ∀ {c : MO} {v : V} {as : List Addr} {d : PyData}, Mp K F H v c as → c.d? = some d → (∀ a ∈ as, F2 a = H a) → Fp F2 v d
  | .fz _, _, _, _, .fz h, e, _ => by
    rw [MO.d?] at e
    cases e
    exact h.to f
  | .ol _, _, _, _, .ol h1 h2, e, k => by
    rw [MO.d?] at e
    cases e
    exact .lst ((k _ List.mem_cons_self).trans h1) (h2.to f)
  | .lst cs, _, _, _, .lst h1 h2, e, k => by
    rw [MO.d?] at e
    obtain ⟨ds, e1, e2⟩ := Option.map_eq_some_iff.mp e
    rw [← e2]
    exact .lst ((k _ List.mem_cons_self).trans h1) (MpAll.still f h2 e1 fun a ha => k a (List.mem_cons_of_mem _ ha))
  | .dk _, _, _, _, _, e, _ => by rw [MO.d?] at e; cases e; all_goals (intros; first | contradiction | (intro h; cases h))
  | .dt _ _, _, _, _, _, e, _ => by rw [MO.d?] at e; cases e; all_goals (intros; first | contradiction | (intro h; cases h))
  | .ins _ _, _, _, _, _, e, _ => by rw [MO.d?] at e; cases e; all_goals (intros; first | contradiction | (intro h; cases h))
  | .scr _, _, _, _, _, e, _ => by rw [MO.d?] at e; cases e; all_goals (intros; first | contradiction | (intro h; cases h))
  | .st _, _, _, _, _, e, _ => by rw [MO.d?] at e; cases e; all_goals (intros; first | contradiction | (intro h; cases h))
theorem MpAll.still {F2 : Hp} (f : Same F F2) : ∀ {cs : List MO} {vs : List V} {as : List Addr} {ds : List PyData}, MpAll K F H vs cs as → MO.dAll? cs = some ds → (∀ a ∈ as, F2 a = H a) → FpAll F2 vs ds
  | [], _, _, _, .nil, e, _ => by
    rw [MO.dAll?] at e
    cases e
    exact .nil
  | c :: cs, _, _, _, .cons h r, e, k => by
    rw [MO.dAll?] at e
    cases e1 : c.d? with
    | none => rw [e1] at e; cases e
    | some d =>
      cases e2 : MO.dAll? cs with
      | none => rw [e1, e2] at e; cases e
      | some ds =>
        rw [e1, e2] at e
        cases e
        exact .cons (Mp.still f h e1 fun a ha => k a (List.mem_append_left _ ha)) (MpAll.still f r e2 fun a ha => k a (List.mem_append_right _ ha))
end
def Sl.d? : Sl → Option PyData
  | .un => none
  | .v d => some d
  | .m c => c.d?
theorem RsOk.still {v : V} {r : Sl} {ar : List Addr} {d : PyData} (S : SR K E F H σ env As) (R : RsOk K E F H As v r ar) (e : r.d? = some d) :
    SR K E (frz F H ar) H σ env As ∧ Same F (frz F H ar) ∧ Fp (frz F H ar) v d := by
  obtain ⟨h, n, o, dj⟩ := R
  have f := frz_sub (F := F) S.sub ar
  refine ⟨⟨frz_le S.sub ar, S.f0.trans f, fun a z => ?_, S.keep, S.len, fun i s q => ?_, S.out, fun i a q => ⟨?_, (S.own i a q).2⟩, S.nd, S.disj, S.fix⟩, f, ?_⟩
  · by_cases q : a ∈ ar
    · exact .inr ((o a q).2.elim (fun z => .inr (.inl z)) .inl)
    · rw [frz_not q] at z
      exact S.grow a z
  · obtain ⟨x, h1, h2⟩ := S.slot i s q
    exact ⟨x, h1, h2.to f fun _ _ => rfl⟩
  · rw [frz_not fun z => dj i a z q]
    exact (S.own i a q).1
  · cases r with
    | un => cases e
    | v d' =>
      obtain ⟨v', e1, h1, _⟩ := h
      cases e1
      cases e
      exact h1.to f
    | m c =>
      obtain ⟨v', e1, h1⟩ := h
      cases e1
      exact Mp.still f h1 e fun a ha => frz_of ha

/-! slots set -/
theorem getElem?_set_of {α : Type} {l : List α} {i j : Nat} {x y : α} (h : (l.set i x)[j]? = some y) : (i = j ∧ y = x ∧ i < l.length) ∨ (i ≠ j ∧ l[j]? = some y) := by
  by_cases e : i = j
  · subst e
    by_cases hl : i < l.length
    · rw [List.getElem?_set_self hl] at h
      cases h
      exact .inl ⟨rfl, rfl, hl⟩
    · rw [List.getElem?_eq_none (by simpa using hl)] at h
      cases h
  · rw [List.getElem?_set_ne e] at h
    exact .inr ⟨e, h⟩
def setA (As : Nat → List Addr) (i : Nat) (as : List Addr) : Nat → List Addr := fun j => if j = i then as else As j
theorem setA_same {i : Nat} {as : List Addr} : setA As i as i = as := if_pos rfl
theorem setA_ne {i j : Nat} {as : List Addr} (h : j ≠ i) : setA As i as j = As j := if_neg h
theorem setA_mem {i j : Nat} {as : List Addr} {a : Addr} (h : a ∈ setA As i as j) : (j = i ∧ a ∈ as) ∨ (j ≠ i ∧ a ∈ As j) := by
  by_cases e : j = i
  · subst e
    rw [setA_same] at h
    exact .inl ⟨rfl, h⟩
  · rw [setA_ne e] at h
    exact .inr ⟨e, h⟩
/-- a result goes into a slot -/
theorem SR.set {v : V} {r : Sl} {ar : List Addr} (S : SR K E F H σ env As) (R : RsOk K E F H As v r ar) {i : Nat} (hi : i < env.length) (hf : E.fix i = none) : SR K E F H (σ.set i (some v)) (env.set i r) (setA As i ar) where
  sub := S.sub
  f0 := S.f0
  grow := S.grow
  keep := S.keep
  len := by rw [List.length_set, List.length_set]; exact S.len
  slot := fun j s e => by
    rcases getElem?_set_of e with ⟨rfl, rfl, _⟩ | ⟨ne, e⟩
    · exact ⟨some v, List.getElem?_set_self (by rw [S.len]; exact hi), by rw [setA_same]; exact R.1⟩
    · obtain ⟨x, h1, h2⟩ := S.slot j s e
      exact ⟨x, by rw [List.getElem?_set_ne ne]; exact h1, by rw [setA_ne (Ne.symm ne)]; exact h2⟩
  out := fun j h => by
    rw [List.length_set] at h
    rw [setA_ne (by omega)]
    exact S.out j h
  own := fun j a h => by
    rcases setA_mem h with ⟨_, h⟩ | ⟨_, h⟩
    · exact R.2.2.1 a h
    · exact S.own j a h
  nd := fun j => by
    by_cases e : j = i
    · rw [e, setA_same]; exact R.2.1
    · rw [setA_ne e]; exact S.nd j
  disj := fun j k a ne h1 h2 => by
    rcases setA_mem h1 with ⟨e1, h1⟩ | ⟨n1, h1⟩
    · rcases setA_mem h2 with ⟨e2, h2⟩ | ⟨n2, h2⟩
      · exact ne (e1.trans e2.symm)
      · exact R.2.2.2 k a h1 h2
    · rcases setA_mem h2 with ⟨e2, h2⟩ | ⟨n2, h2⟩
      · exact R.2.2.2 j a h2 h1
      · exact S.disj j k a ne h1 h2
  fix := fun j w e => by
    have ne : i ≠ j := fun z => by
      rw [← z, hf] at e
      cases e
    rw [List.getElem?_set_ne ne]
    exact S.fix j w e
/-- a still value is a result -/
theorem RsOk.v {v : V} {d : PyData} (h : Fp F v d) : RsOk K E F H As v (.v d) [] := ⟨⟨v, rfl, h, rfl⟩, List.nodup_nil, fun a ha => absurd ha (by simp), fun i a ha => absurd ha (by simp)⟩
/-- a new owned thing -/
theorem RsOk.new {p : Addr} {o : HO} {c : MO} (S : SR K E F H σ env As) (hp : H p = none) (h : Mp K F (upd H p o) (.ref p) c [p]) : RsOk K E F (upd H p o) As (.ref p) (.m c) [p] := by
  refine ⟨⟨_, rfl, h⟩, by simp, fun a ha => ?_, fun i a ha q => ?_⟩
  · rw [List.mem_singleton.mp ha]
    exact ⟨S.sub.free hp, (S.free hp).symm⟩
  · rw [List.mem_singleton.mp ha] at q
    exact S.live i p q hp
/-- the content of an owned slot changes in place: the heap at its addresses alone -/
theorem SR.write (S : SR K E F H σ env As) {i : Nat} {v : V} {c' : MO} {as' : List Addr} (hi : i < env.length) (hσ : σ[i]? = some (some v)) (m : Mp K F H' v c' as') (nd : as'.Nodup) (sub : ∀ a ∈ as', a ∈ As i ∨ H a = none)
    (k : ∀ b, b ∉ As i → H b ≠ none → H' b = H b) : SR K E F H' σ (env.set i (.m c')) (setA As i as') where
  sub := fun b o e => by
    have z := S.sub b o e
    rw [k b (fun q => by rw [(S.own i b q).1] at e; cases e) (some_ne z)]
    exact z
  f0 := S.f0
  grow := S.grow
  keep := fun b o e n => by
    have z := S.keep b o e n
    rw [k b (fun q => (S.own i b q).2.elim n fun w => by rw [w] at e; cases e) (some_ne z)]
    exact z
  len := by rw [List.length_set]; exact S.len
  slot := fun j s e => by
    rcases getElem?_set_of e with ⟨rfl, rfl, _⟩ | ⟨ne, e⟩
    · exact ⟨some v, hσ, by rw [setA_same]; exact ⟨v, rfl, m⟩⟩
    · obtain ⟨x, h1, h2⟩ := S.slot j s e
      refine ⟨x, h1, ?_⟩
      rw [setA_ne (Ne.symm ne)]
      exact h2.to (Same.refl F) fun a ha => k a (fun q => S.disj j i a (Ne.symm ne) ha q) (S.live j a ha)
  out := fun j h => by
    rw [List.length_set] at h
    rw [setA_ne (by omega)]
    exact S.out j h
  own := fun j a h => by
    rcases setA_mem h with ⟨_, h⟩ | ⟨_, h⟩
    · rcases sub a h with z | z
      · exact S.own i a z
      · exact ⟨S.sub.free z, (S.free z).symm⟩
    · exact S.own j a h
  nd := fun j => by
    by_cases e : j = i
    · rw [e, setA_same]; exact nd
    · rw [setA_ne e]; exact S.nd j
  disj := fun j l a ne h1 h2 => by
    have no : ∀ j', j' ≠ i → a ∈ As j' → a ∈ as' → False := fun j' n q z => by
      rcases sub a z with y | y
      · exact S.disj j' i a n q y
      · exact S.live j' a q y
    rcases setA_mem h1 with ⟨e1, h1⟩ | ⟨n1, h1⟩
    · rcases setA_mem h2 with ⟨e2, h2⟩ | ⟨n2, h2⟩
      · exact ne (e1.trans e2.symm)
      · exact no l n2 h2 h1
    · rcases setA_mem h2 with ⟨e2, h2⟩ | ⟨n2, h2⟩
      · exact no j n1 h1 h2
      · exact S.disj j l a ne h1 h2
  fix := S.fix
end

/-! ghost slots behind the def's own: things held while more is evaluated -/
section
variable {K : PySem.W.Frag} {E : Ent} {F H F' H' : Hp} {σ : St} {env : PEnv} {As : Nat → List Addr}
theorem SR.push {v : V} {r : Sl} {ar : List Addr} (S : SR K E F H σ env As) (R : RsOk K E F H As v r ar) : SR K E F H (σ ++ [some v]) (env ++ [r]) (setA As env.length ar) where
  sub := S.sub
  f0 := S.f0
  grow := S.grow
  keep := S.keep
  len := by rw [List.length_append, List.length_append, S.len]; rfl
  slot := fun i s e => by
    by_cases hi : i < env.length
    · rw [List.getElem?_append_left hi] at e
      obtain ⟨x, h1, h2⟩ := S.slot i s e
      exact ⟨x, by rw [List.getElem?_append_left (by rw [S.len]; exact hi)]; exact h1, by rw [setA_ne (by omega)]; exact h2⟩
    · have hi' : i = env.length := by
        have := (List.getElem?_eq_some_iff.mp e).1
        rw [List.length_append, List.length_singleton] at this
        omega
      subst hi'
      rw [List.getElem?_append_right (Nat.le_refl _), Nat.sub_self] at e
      cases e
      refine ⟨some v, ?_, by rw [setA_same]; exact R.1⟩
      rw [List.getElem?_append_right (by rw [S.len]; exact Nat.le_refl _), S.len, Nat.sub_self]
      rfl
  out := fun i h => by
    rw [List.length_append, List.length_singleton] at h
    rw [setA_ne (by omega)]
    exact S.out i (by omega)
  own := fun j a h => by
    rcases setA_mem h with ⟨_, h⟩ | ⟨_, h⟩
    · exact R.2.2.1 a h
    · exact S.own j a h
  nd := fun j => by
    by_cases e : j = env.length
    · rw [e, setA_same]; exact R.2.1
    · rw [setA_ne e]; exact S.nd j
  disj := fun j k a ne h1 h2 => by
    rcases setA_mem h1 with ⟨e1, h1⟩ | ⟨n1, h1⟩
    · rcases setA_mem h2 with ⟨e2, h2⟩ | ⟨n2, h2⟩
      · exact ne (e1.trans e2.symm)
      · exact R.2.2.2 k a h1 h2
    · rcases setA_mem h2 with ⟨e2, h2⟩ | ⟨n2, h2⟩
      · exact R.2.2.2 j a h2 h1
      · exact S.disj j k a ne h1 h2
  fix := fun i w e => by
    have z := S.fix i w e
    rw [List.getElem?_append_left (List.getElem?_eq_some_iff.mp z).1]
    exact z
/-- the last ghost slot is taken out again -/
theorem SR.pop {v : V} {r : Sl} (S : SR K E F H (σ ++ [some v]) (env ++ [r]) As) (hf : ∀ i w, E.fix i = some w → i < env.length) : SR K E F H σ env (setA As env.length []) ∧ RsOk K E F H (setA As env.length []) v r (As env.length) := by
  have hl : σ.length = env.length := by
    have := S.len
    rw [List.length_append, List.length_append, List.length_singleton, List.length_singleton] at this
    omega
  obtain ⟨x, h1, h2⟩ := S.slot env.length r (by rw [List.getElem?_append_right (Nat.le_refl _), Nat.sub_self]; rfl)
  have ex : x = some v := by
    rw [List.getElem?_append_right (by rw [hl]; exact Nat.le_refl _), hl, Nat.sub_self] at h1
    exact (Option.some.inj h1).symm
  subst ex
  refine ⟨⟨S.sub, S.f0, S.grow, S.keep, hl, fun i s e => ?_, fun i h => ?_, fun j a h => ?_, fun j => ?_, fun j k a ne h1 h2 => ?_, fun i w e => ?_⟩, h2, S.nd _, fun a ha => S.own _ a ha, fun i a ha q => ?_⟩
  · have hi := (List.getElem?_eq_some_iff.mp e).1
    obtain ⟨x, q1, q2⟩ := S.slot i s (by rw [List.getElem?_append_left hi]; exact e)
    rw [List.getElem?_append_left (by rw [hl]; exact hi)] at q1
    exact ⟨x, q1, by rw [setA_ne (by omega)]; exact q2⟩
  · by_cases e : i = env.length
    · rw [e, setA_same]
    · rw [setA_ne e]
      exact S.out i (by rw [List.length_append, List.length_singleton]; omega)
  · rcases setA_mem h with ⟨_, h⟩ | ⟨_, h⟩
    · cases h
    · exact S.own j a h
  · by_cases e : j = env.length
    · rw [e, setA_same]; exact List.nodup_nil
    · rw [setA_ne e]; exact S.nd j
  · rcases setA_mem h1 with ⟨_, h1⟩ | ⟨_, h1⟩
    · cases h1
    · rcases setA_mem h2 with ⟨_, h2⟩ | ⟨_, h2⟩
      · cases h2
      · exact S.disj j k a ne h1 h2
  · have z := S.fix i w e
    rw [List.getElem?_append_left (by rw [hl]; exact hf i w e)] at z
    exact z
  · rcases setA_mem q with ⟨_, q⟩ | ⟨n, q⟩
    · cases q
    · exact S.disj _ _ a (Ne.symm n) ha q
/-- an owned slot is taken out (moved) -/
theorem SR.move (S : SR K E F H σ env As) {i : Nat} {r : Sl} {v : V} (hi : env[i]? = some r) (hσ : σ[i]? = some (some v)) : SR K E F H σ (env.set i .un) (setA As i []) ∧ RsOk K E F H (setA As i []) v r (As i) := by
  have hl := (List.getElem?_eq_some_iff.mp hi).1
  obtain ⟨x, h1, h2⟩ := S.slot i r hi
  have ex : x = some v := by
    rw [hσ] at h1
    exact (Option.some.inj h1).symm
  subst ex
  refine ⟨⟨S.sub, S.f0, S.grow, S.keep, by rw [List.length_set]; exact S.len, fun j s e => ?_, fun j h => ?_, fun j a h => ?_, fun j => ?_, fun j k a ne h1 h2 => ?_, S.fix⟩, h2, S.nd _, fun a ha => S.own _ a ha, fun j a ha q => ?_⟩
  · rcases getElem?_set_of e with ⟨rfl, rfl, _⟩ | ⟨ne, e⟩
    · exact ⟨some v, hσ, by rw [setA_same]; exact (rfl : ([] : List Addr) = [])⟩
    · obtain ⟨x, q1, q2⟩ := S.slot j s e
      exact ⟨x, q1, by rw [setA_ne (Ne.symm ne)]; exact q2⟩
  · by_cases e : j = i
    · rw [e, setA_same]
    · rw [setA_ne e]
      exact S.out j (by rw [List.length_set] at h; exact h)
  · rcases setA_mem h with ⟨_, h⟩ | ⟨_, h⟩
    · cases h
    · exact S.own j a h
  · by_cases e : j = i
    · rw [e, setA_same]; exact List.nodup_nil
    · rw [setA_ne e]; exact S.nd j
  · rcases setA_mem h1 with ⟨_, h1⟩ | ⟨_, h1⟩
    · cases h1
    · rcases setA_mem h2 with ⟨_, h2⟩ | ⟨_, h2⟩
      · cases h2
      · exact S.disj j k a ne h1 h2
  · rcases setA_mem q with ⟨_, q⟩ | ⟨n, q⟩
    · cases q
    · exact S.disj _ _ a (Ne.symm n) ha q
/-- a slot's owned thing becomes still -/
theorem SR.still (S : SR K E F H σ env As) {i : Nat} {r : Sl} {d : PyData} (hi : env[i]? = some r) (e : r.d? = some d) :
    ∃ v, σ[i]? = some (some v) ∧ SR K E (frz F H (As i)) H σ (env.set i (.v d)) (setA As i []) ∧ Same F (frz F H (As i)) ∧ Fp (frz F H (As i)) v d := by
  obtain ⟨x, h1, h2⟩ := S.slot i r hi
  obtain ⟨v, ev⟩ : ∃ v, x = some v := by
    cases r with
    | un => cases e
    | v d' => obtain ⟨v, e1, _⟩ := h2; exact ⟨v, e1⟩
    | m c => obtain ⟨v, e1, _⟩ := h2; exact ⟨v, e1⟩
  subst ev
  obtain ⟨S1, R1⟩ := S.move hi h1
  obtain ⟨S2, f, h⟩ := R1.still S1 e
  refine ⟨v, h1, ?_, f, h⟩
  have hl := (List.getElem?_eq_some_iff.mp hi).1
  refine ⟨S2.sub, S2.f0, S2.grow, S2.keep, by rw [List.length_set]; exact S.len, fun j s q => ?_, fun j q => S2.out j (by rw [List.length_set] at q ⊢; exact q), S2.own, S2.nd, S2.disj, S2.fix⟩
  rcases getElem?_set_of q with ⟨rfl, rfl, _⟩ | ⟨ne, q⟩
  · exact ⟨some v, h1, by rw [setA_same]; exact ⟨v, rfl, h, rfl⟩⟩
  · exact S2.slot j s (by rw [List.getElem?_set_ne ne]; exact q)
end
end PL

namespace PL
open PySem L2

/-! ### 4. readings without a heap, and their lifting -/
abbrev PX := PEnv → (PyData → PEnv → Prop) → Prop
abbrev PO := PEnv → (Sl → PEnv → Prop) → Prop
abbrev PTt := PEnv → (Bool → PEnv → Prop) → Prop
/-- an argument: a still datum, or a slot that is lent -/
inductive Ag where
  | d (x : PyData)
  | s (i : Nat)
abbrev PAs := PEnv → (List Ag → PEnv → Prop) → Prop
structure PEnds where
  nx : PEnv → Prop
  rt : Sl → PEnv → Prop
  bk : PEnv → Prop := fun _ => False
  ct : PEnv → Prop := fun _ => False
abbrev PSt := PEnds → PEnv → Prop
def FixIn (E : Ent) (σ : St) : Prop := ∀ i w, E.fix i = some w → i < σ.length

section
variable (K : PySem.W.Frag) (E : Ent)
def KE (σ ts : St) (F : Hp) (Q : VK) (Q' : PyData → PEnv → Prop) : Prop := ∀ v d F' H' env' As', SR K E F' H' (σ ++ ts) env' As' → Same F F' → Fp F' v d → Q' d env' → Q v H'
def KO (σ ts : St) (F : Hp) (Q : VK) (Q' : Sl → PEnv → Prop) : Prop := ∀ v r ar F' H' env' As', SR K E F' H' (σ ++ ts) env' As' → Same F F' → RsOk K E F' H' As' v r ar → Q' r env' → Q v H'
def KT (σ ts : St) (F : Hp) (Q : Bool → Hp → Prop) (Q' : Bool → PEnv → Prop) : Prop := ∀ b F' H' env' As', SR K E F' H' (σ ++ ts) env' As' → Same F F' → Q' b env' → Q b H'
def AgOk (F : Hp) (σ : St) : V → Ag → Prop
  | v, .d x => Fp F v x
  | v, .s i => σ[i]? = some (some v)
def KA (σ ts : St) (F : Hp) (Q : List V → Hp → Prop) (Q' : List Ag → PEnv → Prop) : Prop := ∀ vs gs F' H' env' As', SR K E F' H' (σ ++ ts) env' As' → Same F F' → Paired (AgOk F' σ) vs gs → Q' gs env' → Q vs H'
structure KS (σ : St) (F : Hp) (D : Ends) (D' : PEnds) : Prop where
  nx : ∀ σ' F' H' env' As', σ'.length = σ.length → SR K E F' H' σ' env' As' → Same F F' → D'.nx env' → D.nx σ' H'
  bk : ∀ σ' F' H' env' As', σ'.length = σ.length → SR K E F' H' σ' env' As' → Same F F' → D'.bk env' → D.bk σ' H'
  ct : ∀ σ' F' H' env' As', σ'.length = σ.length → SR K E F' H' σ' env' As' → Same F F' → D'.ct env' → D.ct σ' H'
  rt : ∀ σ' F' H' env' As', σ'.length = σ.length → SR K E F' H' σ' env' As' → Same F F' → ∀ v r ar, RsOk K E F' H' As' v r ar → D'.rt r env' → D.rt v H'
def liftE (p : PX) : TE := fun σ H Q => ∃ ts F env As Q', SR K E F H (σ ++ ts) env As ∧ FixIn E σ ∧ p env Q' ∧ KE K E σ ts F Q Q'
def liftO (p : PO) : TE := fun σ H Q => ∃ ts F env As Q', SR K E F H (σ ++ ts) env As ∧ FixIn E σ ∧ p env Q' ∧ KO K E σ ts F Q Q'
def liftT (p : PTt) : TT := fun σ H Q => ∃ ts F env As Q', SR K E F H (σ ++ ts) env As ∧ FixIn E σ ∧ p env Q' ∧ KT K E σ ts F Q Q'
def liftA (p : PAs) : TA := fun σ H Q => ∃ ts F env As Q', SR K E F H (σ ++ ts) env As ∧ FixIn E σ ∧ p env Q' ∧ KA K E σ ts F Q Q'
def liftS (p : PSt) : TS := fun D σ H => ∃ F env As D', SR K E F H σ env As ∧ FixIn E σ ∧ p D' env ∧ KS K E σ F D D'
end

theorem pe_w {X : Cx} {e : Expr} {t t' : TE} (h : PE X e t) (w : ∀ σ H Q, t' σ H Q → t σ H Q) : PE X e t' := ⟨fun pins s σ H Q I q => h.run pins s σ H Q I (w _ _ _ q)⟩
theorem pt_w {X : Cx} {e : Expr} {t t' : TT} (h : PT X e t) (w : ∀ σ H Q, t' σ H Q → t σ H Q) : PT X e t' := ⟨fun pins s σ H Q I q => h.run pins s σ H Q I (w _ _ _ q)⟩
theorem pw_w {X : Cx} {e : Expr} {t t' : TT} (h : PW X e t) (w : ∀ σ H Q, t' σ H Q → t σ H Q) : PW X e t' := ⟨fun wh pins s σ H Q I q => h.run wh pins s σ H Q I (w _ _ _ q)⟩
theorem pa_w {X : Cx} {es : List Expr} {t t' : TA} (h : PA X es t) (w : ∀ σ H Q, t' σ H Q → t σ H Q) : PA X es t' := ⟨fun pos pins s σ H Q I q => h.run pos pins s σ H Q I (w _ _ _ q)⟩
theorem ps_w {X : Cx} {st : Stmt} {t t' : TS} (h : PS X st t) (w : ∀ D σ H, t' D σ H → t D σ H) : PS X st t' := ⟨fun pins s σ H D I q => h.run pins s σ H D I (w _ _ _ q)⟩
theorem pss_w {X : Cx} {st : List Stmt} {t t' : TS} (h : PSs X st t) (w : ∀ D σ H, t' D σ H → t D σ H) : PSs X st t' := ⟨fun pins s σ H D I q => h.run pins s σ H D I (w _ _ _ q)⟩

/-- item by item with its place -/
def mapI (f : Nat → Sl → Sl) : Nat → PEnv → PEnv
  | _, [] => []
  | n, s :: r => f n s :: mapI f (n + 1) r
def allI (f : Nat → Sl → Bool) : Nat → PEnv → Bool
  | _, [] => true
  | n, s :: r => f n s && allI f (n + 1) r
theorem mapI_gen (f : Nat → Sl → Sl) : ∀ (l : PEnv) (n : Nat), mapI f n l = l.mapIdx fun i s => f (n + i) s
  | [], _ => rfl
  | s :: r, n => by
    rw [mapI, mapI_gen f r (n + 1), List.mapIdx_cons, Nat.add_zero]
    congr 1
    refine congrArg (fun g => List.mapIdx g r) (funext fun i => funext fun s => ?_)
    rw [show n + 1 + i = n + (i + 1) by omega]
theorem mapI_eq (f : Nat → Sl → Sl) (l : PEnv) : mapI f 0 l = l.mapIdx f := by
  rw [mapI_gen]
  refine congrArg (fun g => List.mapIdx g l) (funext fun i => funext fun s => ?_)
  rw [Nat.zero_add]
theorem allI_gen (f : Nat → Sl → Bool) : ∀ (l : PEnv) (n : Nat), allI f n l = (l.mapIdx fun i s => f (n + i) s).all id
  | [], _ => rfl
  | s :: r, n => by
    rw [allI, allI_gen f r (n + 1), List.mapIdx_cons, Nat.add_zero, List.all_cons]
    congr 1
    refine congrArg (fun g => List.all (List.mapIdx g r) id) (funext fun i => funext fun s => ?_)
    rw [show n + 1 + i = n + (i + 1) by omega]
theorem allI_eq (f : Nat → Sl → Bool) (l : PEnv) : allI f 0 l = (l.mapIdx f).all id := by
  rw [allI_gen]
  refine congrArg (fun g => List.all (List.mapIdx g l) id) (funext fun i => funext fun s => ?_)
  rw [Nat.zero_add]

/-- a choice by a truth value -/
@[irreducible] def sel (c : Bool) (a b : Prop) : Prop := match c with
  | true => a
  | false => b
theorem sel_tt {a b : Prop} : sel true a b = a := by unfold sel; rfl
theorem sel_ff {a b : Prop} : sel false a b = b := by unfold sel; rfl
theorem sel_t {c : Bool} {a b : Prop} (e : c = true) (h : a) : sel c a b := by subst e; rw [sel_tt]; exact h
theorem sel_f {c : Bool} {a b : Prop} (e : c = false) (h : b) : sel c a b := by subst e; rw [sel_ff]; exact h
theorem sel_by {c : Bool} {a b : Prop} (h : c = true → a) (h' : c = false → b) : sel c a b := by
  cases c
  · exact sel_f rfl (h' rfl)
  · exact sel_t rfl (h rfl)

/-! ### 5. names, constants, coercions -/
def pC (d : PyData) : PX := fun env Q => Q d env
def pName (i : Nat) : PX := fun env Q => match env[i]? with
  | some (.v d) => Q d env
  | some (.m c) => match c.d? with
    | some d => Q d (env.set i (.v d))
    | none => False
  | _ => False
/-- what is owned becomes still -/
def pE (p : PO) : PX := fun env Q => p env fun r env' => match r.d? with
  | some d => Q d env'
  | none => False
def pV (p : PX) : PO := fun env Q => p env fun d env' => Q (.v d) env'
section
variable {X : Cx} {E : Ent}
theorem l_const {e : Expr} {v : V} {d : PyData} (h : PE X e (tC v)) (r : ∀ F, Fp F v d) : PE X e (liftE X.K E (pC d)) :=
  pe_w h fun σ H Q ⟨ts, F, env, As, Q', S, _, p, k⟩ => k v d F H env As S (Same.refl F) (r F) p
theorem l_int {i j pos} : PE X (.Constant (.int i) j pos) (liftE X.K E (pC (.int i))) := l_const pe_int fun _ => .int i
theorem l_bl {b j pos} : PE X (.Constant (.bool b) j pos) (liftE X.K E (pC (.bool b))) := l_const pe_bl fun _ => .bl b
theorem l_non {j pos} : PE X (.Constant .none j pos) (liftE X.K E (pC .none)) := l_const pe_non fun _ => .non
theorem l_str {x j pos} : PE X (.Constant (.str x) j pos) (liftE X.K E (pC (.str x))) := l_const pe_str fun _ => .str x
theorem app_get {σ ts : St} {i : Nat} {x : Option V} (hi : i < σ.length) (h : (σ ++ ts)[i]? = some x) : σ[i]? = some x := by
  rw [List.getElem?_append_left hi] at h
  exact h
/-- the slot of a name, read -/
theorem l_name (i : Nat) {x : Str} {pos : Pos} (h : PE X (.Name x pos) (tVar i)) (hN : i < X.N.length) : PE X (.Name x pos) (liftE X.K E (pName i)) := by
  refine ⟨fun pins s σ H Q I q => h.run pins s σ H Q I ?_⟩
  obtain ⟨ts, F, env, As, Q', S, _, p, k⟩ := q
  have hi : i < σ.length := by rw [I.len]; exact hN
  unfold pName at p
  split at p
  · rename_i d e
    obtain ⟨x', h1, v, e1, h2, _⟩ := S.slot i _ e
    subst e1
    exact ⟨v, app_get hi h1, k v d F H env As S (Same.refl F) h2 p⟩
  · rename_i c e
    split at p
    · rename_i d ed
      obtain ⟨v, h1, S', f, h2⟩ := S.still e ed
      exact ⟨v, app_get hi h1, k v d _ H _ _ S' f h2 p⟩
    · exact p.elim
  · exact p.elim
theorem l_e {e : Expr} {p : PO} (h : PE X e (liftO X.K E p)) : PE X e (liftE X.K E (pE p)) := by
  refine pe_w h fun σ H Q ⟨ts, F, env, As, Q', S, fx, p, k⟩ => ⟨ts, F, env, As, _, S, fx, p, ?_⟩
  intro v r ar F' H' env' As' S' f R q
  split at q
  · rename_i d ed
    obtain ⟨S2, f2, h2⟩ := R.still S' ed
    exact k v d _ H' env' As' S2 (f.trans f2) h2 q
  · exact q.elim
theorem l_v {e : Expr} {p : PX} (h : PE X e (liftE X.K E p)) : PE X e (liftO X.K E (pV p)) := by
  refine pe_w h fun σ H Q ⟨ts, F, env, As, Q', S, fx, p, k⟩ => ⟨ts, F, env, As, _, S, fx, p, ?_⟩
  intro v d F' H' env' As' S' f R q
  exact k v (.v d) [] F' H' env' As' S' f (.v R) q
end

/-! ### 6. operations on values -/
def RsNew (K : PySem.W.Frag) (H F' H' : Hp) (z : V) (r : Sl) (ar : List Addr) : Prop := SlOk K F' H' (some z) r ar ∧ ar.Nodup ∧ ∀ a ∈ ar, F' a = none ∧ H a = none
theorem RsNew.v {K : PySem.W.Frag} {H F' H' : Hp} {z : V} {d : PyData} (h : Fp F' z d) : RsNew K H F' H' z (.v d) [] := ⟨⟨z, rfl, h, rfl⟩, List.nodup_nil, fun a ha => absurd ha (by simp)⟩
theorem RsNew.ok {K : PySem.W.Frag} {E : Ent} {F H F' H' : Hp} {σ : St} {env : PEnv} {As : Nat → List Addr} {z : V} {r : Sl} {ar : List Addr} (S : SR K E F H σ env As) (n : RsNew K H F' H' z r ar) : RsOk K E F' H' As z r ar :=
  ⟨n.1, n.2.1, fun a ha => ⟨(n.2.2 a ha).1, (S.free (n.2.2 a ha).2).symm⟩, fun i a ha q => S.live i a q (n.2.2 a ha).2⟩
/-- a new owned list of still data -/
theorem RsNew.ol {K : PySem.W.Frag} {F H : Hp} (s : Same F H) {p : Addr} {vs : List V} {ds : List PyData} (hp : H p = none) (h : FpAll F vs ds) : RsNew K H F (upd H p (.lst vs)) (.ref p) (.m (.ol ds)) [p] :=
  ⟨⟨_, rfl, .ol upd_same h⟩, by simp, fun a ha => by
    rw [List.mem_singleton.mp ha]
    exact ⟨s.free hp, hp⟩⟩
/-- what follows a value operation -/
abbrev KN (K : PySem.W.Frag) (F H : Hp) (Q : VK) (P : Sl → Prop) : Prop := ∀ z r ar F' H', Gr F H F' H' → RsNew K H F' H' z r ar → P r → Q z H'
/-- the operation r on values is rp on data -/
def Op1 (K : PySem.W.Frag) (r : V → Hp → VK → Prop) (rp : PyData → (Sl → Prop) → Prop) : Prop := ∀ F H x d Q P, Same F H → Fp F x d → rp d P → KN K F H Q P → r x H Q
def Op2 (K : PySem.W.Frag) (r : V → V → Hp → VK → Prop) (rp : PyData → PyData → (Sl → Prop) → Prop) : Prop := ∀ F H x y d e Q P, Same F H → Fp F x d → Fp F y e → rp d e P → KN K F H Q P → r x y H Q
def OpL (K : PySem.W.Frag) (r : List V → Hp → VK → Prop) (rp : List PyData → (Sl → Prop) → Prop) : Prop := ∀ F H xs ds Q P, Same F H → FpAll F xs ds → rp ds P → KN K F H Q P → r xs H Q
theorem KN.flat {K : PySem.W.Frag} {F H : Hp} {Q : VK} {P : Sl → Prop} (k : KN K F H Q P) (s : Same F H) {z : V} {d : PyData} (h : Fp F z d) (p : P (.v d)) : Q z H := k z (.v d) [] F H (Gr.refl s) (.v h) p
theorem KN.list {K : PySem.W.Frag} {F H : Hp} {Q : VK} {P : Sl → Prop} (k : KN K F H Q P) (s : Same F H) {vs : List V} {ds : List PyData} (h : FpAll F vs ds) (p : P (.m (.ol ds))) : ∀ a, H a = none → Q (.ref a) (upd H a (.lst vs)) :=
  fun a ha => k _ _ _ F _ (Gr.made s ha) (RsNew.ol s ha h) p
theorem KN.tup {K : PySem.W.Frag} {F H : Hp} {Q : VK} {P : Sl → Prop} (k : KN K F H Q P) (s : Same F H) {vs : List V} {ds : List PyData} (h : FpAll F vs ds) (p : P (.v (.tuple ds))) : ∀ a, H a = none → Q (.ref a) (upd H a (.tup vs)) := fun a ha => by
  have g := Gr.laid (o := HO.tup vs) s ha
  exact k _ _ _ _ _ g (.v (.tup upd_same (h.to g.ff))) p

def pOp1 (rp : PyData → (Sl → Prop) → Prop) (pa : PX) : PO := fun env Q => pa env fun d env1 => rp d fun r => Q r env1
def pOp2 (rp : PyData → PyData → (Sl → Prop) → Prop) (pa pb : PX) : PO := fun env Q => pa env fun d env1 => pb env1 fun e env2 => rp d e fun r => Q r env2
section
variable {X : Cx} {E : Ent}
/-- one after the other -/
theorem l_two {pa pb : PX} {a b : Expr} (ha : PE X a (liftE X.K E pa)) (hb : PE X b (liftE X.K E pb)) {σ : St} {H : Hp} {R : V → V → Hp → Prop} {ts : St} {F : Hp} {env : PEnv} {As : Nat → List Addr} {Q' : PyData → PyData → PEnv → Prop}
    (S : SR X.K E F H (σ ++ ts) env As) (fx : FixIn E σ) (p : pa env fun d env1 => pb env1 fun e env2 => Q' d e env2)
    (k : ∀ x y d e F' H' env' As', SR X.K E F' H' (σ ++ ts) env' As' → Same F F' → Fp F' x d → Fp F' y e → Q' d e env' → R x y H') :
    liftE X.K E pa σ H fun x H1 => liftE X.K E pb σ H1 fun y H2 => R x y H2 :=
  ⟨ts, F, env, As, _, S, fx, p, fun x d F1 H1 env1 As1 S1 f1 h1 q1 => ⟨ts, F1, env1, As1, _, S1, fx, q1, fun y e F2 H2 env2 As2 S2 f2 h2 q2 => k x y d e F2 H2 env2 As2 S2 (f1.trans f2) (h1.to f2) h2 q2⟩⟩
theorem KN.ko {σ ts : St} {F F' H' : Hp} {Q : VK} {Q' : Sl → PEnv → Prop} {env' : PEnv} {As' : Nat → List Addr} (k : KO X.K E σ ts F Q Q') (S : SR X.K E F' H' (σ ++ ts) env' As') (f : Same F F') : KN X.K F' H' Q fun r => Q' r env' :=
  fun z r ar F2 H2 g n q => k z r ar F2 H2 env' As' (S.gr g) (f.trans g.ff) (n.ok S) q
theorem l_op2 {e a b : Expr} {r : V → V → Hp → VK → Prop} {rp : PyData → PyData → (Sl → Prop) → Prop} {pa pb : PX} (hr : Op2 X.K r rp) (h : ∀ ta tb, PE X a ta → PE X b tb → PE X e (tOp r ta tb)) (ha : PE X a (liftE X.K E pa)) (hb : PE X b (liftE X.K E pb)) :
    PE X e (liftO X.K E (pOp2 rp pa pb)) := by
  refine pe_w (h _ _ ha hb) fun σ H Q ⟨ts, F, env, As, Q', S, fx, p, k⟩ => ?_
  refine l_two ha hb S fx p fun x y d e F' H' env' As' S' f h1 h2 q => ?_
  exact hr F' H' x y d e Q _ S'.sub h1 h2 q (KN.ko k S' f)
end
end PL

namespace PL
open PySem L2

/-! ### 7. operators on data -/
def addD : PyData → PyData → (Sl → Prop) → Prop
  | .int i, .int j, P => P (.v (.int (i + j)))
  | .str a, .str b, P => a.length + b.length ≤ sizeLine ∧ P (.v (.str (a ++ b)))
  | .list a, .list b, P => a.length + b.length ≤ sizeLine ∧ P (.m (.ol (a ++ b)))
  | _, _, _ => False
def subD : PyData → PyData → (Sl → Prop) → Prop
  | .int i, .int j, P => P (.v (.int (i - j)))
  | _, _, _ => False
def mulD : PyData → PyData → (Sl → Prop) → Prop
  | .int i, .int j, P => i.natAbs.log2 + j.natAbs.log2 < 1000000 ∧ P (.v (.int (i * j)))
  | .list a, .int k, P => (-(2 ^ 63) ≤ k ∧ k < 2 ^ 63 ∧ a.length * k.toNat ≤ sizeLine) ∧ P (.m (.ol (List.replicate k.toNat a).flatten))
  | _, _, _ => False
def fdivD : PyData → PyData → (Sl → Prop) → Prop
  | .int i, .int j, P => (0 < j ∧ j.natAbs.log2 < 9000) ∧ P (.v (.int (i / j)))
  | _, _, _ => False
def modD : PyData → PyData → (Sl → Prop) → Prop
  | .int i, .int j, P => 0 < j ∧ P (.v (.int (i % j)))
  | _, _, _ => False
def powD : PyData → PyData → (Sl → Prop) → Prop
  | .int i, .int j, P => (0 ≤ j ∧ (i.natAbs.log2 + 1) * j.toNat ≤ 2 ^ 27) ∧ P (.v (.int (i ^ j.toNat)))
  | _, _, _ => False
def negD : PyData → (Sl → Prop) → Prop
  | .int i, P => P (.v (.int (-i)))
  | _, _ => False
def ltD : PyData → PyData → (Sl → Prop) → Prop
  | .int i, .int j, P => P (.v (.bool (decide (i < j))))
  | _, _, _ => False
def leD : PyData → PyData → (Sl → Prop) → Prop
  | .int i, .int j, P => P (.v (.bool (decide (i ≤ j))))
  | _, _, _ => False
def gtD : PyData → PyData → (Sl → Prop) → Prop
  | .int i, .int j, P => P (.v (.bool (decide (j < i))))
  | _, _, _ => False
def geD : PyData → PyData → (Sl → Prop) → Prop
  | .int i, .int j, P => P (.v (.bool (decide (j ≤ i))))
  | _, _, _ => False
def okd (d : PyData) : Bool := d.plain && decide (d.depth ≤ 60)
def eqD (d e : PyData) (P : Sl → Prop) : Prop := (okd d = true ∧ okd e = true) ∧ P (.v (.bool (PyData.eqv d e)))
def neD (d e : PyData) (P : Sl → Prop) : Prop := (okd d = true ∧ okd e = true) ∧ P (.v (.bool (!PyData.eqv d e)))
def inD : PyData → PyData → (Sl → Prop) → Prop
  | d, .list ds, P => (okd d = true ∧ okd (.list ds) = true) ∧ P (.v (.bool (ds.any fun z => PyData.eqv z d)))
  | d, .tuple ds, P => (okd d = true ∧ okd (.tuple ds) = true) ∧ P (.v (.bool (ds.any fun z => PyData.eqv z d)))
  | _, _, _ => False
def notInD : PyData → PyData → (Sl → Prop) → Prop
  | d, .list ds, P => (okd d = true ∧ okd (.list ds) = true) ∧ P (.v (.bool (!ds.any fun z => PyData.eqv z d)))
  | d, .tuple ds, P => (okd d = true ∧ okd (.tuple ds) = true) ∧ P (.v (.bool (!ds.any fun z => PyData.eqv z d)))
  | _, _, _ => False
def isNone : PyData → Bool
  | .none => true
  | _ => false
def isD : PyData → PyData → (Sl → Prop) → Prop
  | d, .none, P => P (.v (.bool (isNone d)))
  | .bool a, .bool b, P => P (.v (.bool (decide (a = b))))
  | _, _, _ => False
def isNotD : PyData → PyData → (Sl → Prop) → Prop
  | d, .none, P => P (.v (.bool (!isNone d)))
  | .bool a, .bool b, P => P (.v (.bool (!decide (a = b))))
  | _, _, _ => False
def ixD : PyData → PyData → (Sl → Prop) → Prop
  | .list ds, .int i, P => ∃ x, atI ds i = some x ∧ P (.v x)
  | .tuple ds, .int i, P => ∃ x, atI ds i = some x ∧ P (.v x)
  | .str z, .int i, P => z.length ≤ sizeLine ∧ ∃ c, atI z.cps.toList i = some c ∧ P (.v (.str ⟨#[c]⟩))
  | _, _, _ => False

section
variable {X : Cx} {E : Ent} {K : PySem.W.Frag}
theorem Fp.int_inv {F : Hp} {x : V} {i : Int} (h : Fp F x (.int i)) : x = .int i := by cases h; rfl
theorem Fp.str_inv {F : Hp} {x : V} {i : Str} (h : Fp F x (.str i)) : x = .str i := by cases h; rfl
theorem Fp.bl_inv {F : Hp} {x : V} {i : Bool} (h : Fp F x (.bool i)) : x = .bl i := by cases h; rfl
theorem Fp.non_inv {F : Hp} {x : V} (h : Fp F x .none) : x = .non := by cases h; rfl
theorem Fp.lst_inv {F : Hp} {x : V} {ds : List PyData} (h : Fp F x (.list ds)) : ∃ a vs, x = .ref a ∧ F a = some (.lst vs) ∧ FpAll F vs ds := by
  cases h with
  | lst h1 h2 => exact ⟨_, _, rfl, h1, h2⟩
theorem Fp.tup_inv {F : Hp} {x : V} {ds : List PyData} (h : Fp F x (.tuple ds)) : ∃ a vs, x = .ref a ∧ F a = some (.tup vs) ∧ FpAll F vs ds := by
  cases h with
  | tup h1 h2 => exact ⟨_, _, rfl, h1, h2⟩
/-- two ints in, something flat out -/
theorem op2_I {C : Int → Int → Prop} {g : Int → Int → V} {gd : Int → Int → PyData} {rp : PyData → PyData → (Sl → Prop) → Prop} (hg : ∀ F i j, Fp F (g i j) (gd i j)) (h : ∀ d e P, rp d e P → ∃ i j, d = .int i ∧ e = .int j ∧ C i j ∧ P (.v (gd i j))) : Op2 K (rI C g) rp := by
  intro F H x y d e Q P s h1 h2 p k
  obtain ⟨i, j, rfl, rfl, c, q⟩ := h _ _ _ p
  exact ⟨i, j, h1.int_inv, h2.int_inv, c, k.flat s (hg F i j) q⟩
theorem op2_I0 {g : Int → Int → V} {gd : Int → Int → PyData} {rp : PyData → PyData → (Sl → Prop) → Prop} (hg : ∀ F i j, Fp F (g i j) (gd i j)) (h : ∀ d e P, rp d e P → ∃ i j, d = .int i ∧ e = .int j ∧ P (.v (gd i j))) : Op2 K (rI0 g) rp := by
  intro F H x y d e Q P s h1 h2 p k
  obtain ⟨i, j, rfl, rfl, q⟩ := h _ _ _ p
  exact ⟨i, j, h1.int_inv, h2.int_inv, k.flat s (hg F i j) q⟩
def rAddD : R2 := fun x y H Q => rI0 (fun i j => .int (i + j)) x y H Q ∨ ((∃ i j, x = .str i ∧ y = .str j ∧ i.length + j.length ≤ sizeLine ∧ Q (.str (i ++ j)) H) ∨ rCat x y H Q)
theorem or_add : OpR X (binaryOp .Add) rAddD := op_add.or (op_add_str.or op_cat)
theorem o_add : Op2 K rAddD addD := by
  intro F H x y d e Q P s h1 h2 p k
  unfold addD at p
  split at p
  · exact .inl ⟨_, _, h1.int_inv, h2.int_inv, k.flat s (.int _) p⟩
  · exact .inr (.inl ⟨_, _, h1.str_inv, h2.str_inv, p.1, k.flat s (.str _) p.2⟩)
  · obtain ⟨a, vs, rfl, ha, ra⟩ := h1.lst_inv
    obtain ⟨b, us, rfl, hb, rb⟩ := h2.lst_inv
    exact .inr (.inr ⟨a, b, vs, us, rfl, rfl, s _ _ ha, s _ _ hb, by rw [ra.length, rb.length]; exact p.1, k.list s (ra.app rb) p.2⟩)
  · exact p.elim
theorem o_sub : Op2 K (rI0 fun i j => .int (i - j)) subD := op2_I0 (gd := fun i j => .int (i - j)) (fun _ _ _ => .int _) fun d e P p => by
  unfold subD at p
  split at p
  · exact ⟨_, _, rfl, rfl, p⟩
  · exact p.elim
theorem FpAll.rep {F : Hp} {vs : List V} {ds : List PyData} (h : FpAll F vs ds) : ∀ n : Nat, FpAll F (List.replicate n vs).flatten (List.replicate n ds).flatten
  | 0 => .nil
  | n + 1 => by
    rw [List.replicate_succ, List.replicate_succ, List.flatten_cons, List.flatten_cons]
    exact h.app (FpAll.rep h n)
def rMulD : R2 := fun x y H Q => rI CMulW (fun i j => .int (i * j)) x y H Q ∨ rRep x y H Q
theorem or_mul : OpR X (binaryOp .Mult) rMulD := op_mulW.or op_rep
theorem o_mul : Op2 K rMulD mulD := by
  intro F H x y d e Q P s h1 h2 p k
  unfold mulD at p
  split at p
  · exact .inl ⟨_, _, h1.int_inv, h2.int_inv, p.1, k.flat s (.int _) p.2⟩
  · obtain ⟨a, vs, rfl, ha, ra⟩ := h1.lst_inv
    exact .inr ⟨a, _, vs, rfl, h2.int_inv, s _ _ ha, p.1.1, p.1.2.1, by rw [ra.length]; exact p.1.2.2, k.list s (ra.rep _) p.2⟩
  · exact p.elim
theorem o_fdiv : Op2 K (rI CDivW fun i j => .int (i / j)) fdivD := op2_I (gd := fun i j => .int (i / j)) (fun _ _ _ => .int _) fun d e P p => by
  unfold fdivD at p
  split at p
  · exact ⟨_, _, rfl, rfl, p.1, p.2⟩
  · exact p.elim
theorem o_mod : Op2 K (rI (fun _ j => 0 < j) fun i j => .int (i % j)) modD := op2_I (gd := fun i j => .int (i % j)) (fun _ _ _ => .int _) fun d e P p => by
  unfold modD at p
  split at p
  · exact ⟨_, _, rfl, rfl, p.1, p.2⟩
  · exact p.elim
def CPowW (i j : Int) : Prop := 0 ≤ j ∧ (i.natAbs.log2 + 1) * j.toNat ≤ 2 ^ 27
theorem or_pow : OpR X (binaryOp .Pow) (rI CPowW fun i j => .int (i ^ j.toNat)) := opI fun i j _ _ _ _ _ hc q => by
  refine PyProof.Rows.pow_int hc.1 ?_ q
  have b : Builtin.Int.intBits i ≤ i.natAbs.log2 + 1 := by
    unfold Builtin.Int.intBits
    split <;> omega
  have h2 : Builtin.Int.intBits i * j.toNat ≤ 2 ^ 27 := Nat.le_trans (Nat.mul_le_mul_right _ b) hc.2
  obtain ⟨n, rfl⟩ := Int.eq_ofNat_of_zero_le hc.1
  have h3 : Builtin.Int.intBits i * n ≤ 2 ^ 27 := h2
  have h4 : ((Builtin.Int.intBits i * n : Nat) : Int) ≤ ((2 ^ 27 : Nat) : Int) := Int.ofNat_le.mpr h3
  rw [Int.natCast_mul] at h4
  exact h4
theorem o_pow : Op2 K (rI CPowW fun i j => .int (i ^ j.toNat)) powD := op2_I (gd := fun i j => .int (i ^ j.toNat)) (fun _ _ _ => .int _) fun d e P p => by
  unfold powD at p
  split at p
  · exact ⟨_, _, rfl, rfl, p.1, p.2⟩
  · exact p.elim
theorem o_lt : Op2 K (rI0 fun i j => .bl (decide (i < j))) ltD := op2_I0 (gd := fun i j => .bool (decide (i < j))) (fun _ _ _ => .bl _) fun d e P p => by
  unfold ltD at p
  split at p
  · exact ⟨_, _, rfl, rfl, p⟩
  · exact p.elim
theorem o_le : Op2 K (rI0 fun i j => .bl (decide (i ≤ j))) leD := op2_I0 (gd := fun i j => .bool (decide (i ≤ j))) (fun _ _ _ => .bl _) fun d e P p => by
  unfold leD at p
  split at p
  · exact ⟨_, _, rfl, rfl, p⟩
  · exact p.elim
theorem o_gt : Op2 K (rI0 fun i j => .bl (decide (j < i))) gtD := op2_I0 (gd := fun i j => .bool (decide (j < i))) (fun _ _ _ => .bl _) fun d e P p => by
  unfold gtD at p
  split at p
  · exact ⟨_, _, rfl, rfl, p⟩
  · exact p.elim
theorem o_ge : Op2 K (rI0 fun i j => .bl (decide (j ≤ i))) geD := op2_I0 (gd := fun i j => .bool (decide (j ≤ i))) (fun _ _ _ => .bl _) fun d e P p => by
  unfold geD at p
  split at p
  · exact ⟨_, _, rfl, rfl, p⟩
  · exact p.elim
theorem okd_plain {d : PyData} (h : okd d = true) : d.plain = true := (Bool.and_eq_true_iff.mp h).1
theorem okd_depth {d : PyData} (h : okd d = true) : d.depth ≤ 60 := of_decide_eq_true (Bool.and_eq_true_iff.mp h).2
def rEqP (K : PySem.W.Frag) : R2 := fun x y H Q => ∃ d e, Dp K H x d ∧ Dp K H y e ∧ okd d = true ∧ okd e = true ∧ Q (.bl (PyData.eqv d e)) H
def rNeP (K : PySem.W.Frag) : R2 := fun x y H Q => ∃ d e, Dp K H x d ∧ Dp K H y e ∧ okd d = true ∧ okd e = true ∧ Q (.bl (!PyData.eqv d e)) H
def rInP (K : PySem.W.Frag) : R2 := fun x y H Q => ∃ d ds, Dp K H x d ∧ (Dp K H y (.list ds) ∨ Dp K H y (.tuple ds)) ∧ okd d = true ∧ okd (.list ds) = true ∧ Q (.bl (ds.any fun z => PyData.eqv z d)) H
def rNotInP (K : PySem.W.Frag) : R2 := fun x y H Q => ∃ d ds, Dp K H x d ∧ (Dp K H y (.list ds) ∨ Dp K H y (.tuple ds)) ∧ okd d = true ∧ okd (.list ds) = true ∧ Q (.bl (!ds.any fun z => PyData.eqv z d)) H
theorem okd_room {d e : PyData} {u : Nat} (h : okd d = true) (hu : u + 64 < cLine) : u + min d.depth e.depth < cLine := by
  have := okd_depth h
  omega
theorem okd_room2 {d : PyData} {ds : List PyData} {u : Nat} (h : okd d = true) (hu : u + 65 < cLine) : u + 1 + min (PyData.depthAll ds) d.depth < cLine := by
  have := okd_depth h
  omega
theorem okd_all {ds : List PyData} (h : okd (.list ds) = true) : PyData.plainAll ds = true := okd_plain h
theorem op_eqP (hu : X.A.units + 64 < cLine) : OpR X (compareOp .Eq) (rEqP X.K) := by
  intro pins s σ H x y v u Q I rx ry h
  obtain ⟨d, e, hd, he, sd, se, q⟩ := h
  obtain ⟨as, r1⟩ := Dp.reads I d x v hd rx
  obtain ⟨bs, r2⟩ := Dp.reads I e y u he ry
  exact SeqAt.eq_plain r1 r2 (okd_plain sd) (okd_plain se) (okd_room sd hu) ⟨.bl _, H, I, rfl, q⟩
theorem op_neP (hu : X.A.units + 64 < cLine) : OpR X (compareOp .NotEq) (rNeP X.K) := by
  intro pins s σ H x y v u Q I rx ry h
  obtain ⟨d, e, hd, he, sd, se, q⟩ := h
  obtain ⟨as, r1⟩ := Dp.reads I d x v hd rx
  obtain ⟨bs, r2⟩ := Dp.reads I e y u he ry
  exact SeqAt.ne_plain r1 r2 (okd_plain sd) (okd_plain se) (okd_room sd hu) ⟨.bl _, H, I, rfl, q⟩
theorem op_inP (hu : X.A.units + 65 < cLine) : OpR X (compareOp .In) (rInP X.K) := by
  intro pins s σ H x y v u Q I rx ry h
  obtain ⟨d, ds, hd, he, sd, se, q⟩ := h
  obtain ⟨as, r1⟩ := Dp.reads I d x v hd rx
  rcases he with he | he
  · obtain ⟨bs, r2⟩ := Dp.reads I (.list ds) y u he ry
    exact SeqAt.in_list_data r2 r1 (okd_all se) (okd_plain sd) (okd_room2 sd hu) ⟨.bl _, H, I, rfl, q⟩
  · obtain ⟨bs, r2⟩ := Dp.reads I (.tuple ds) y u he ry
    exact SeqAt.in_tuple_data r2 r1 (okd_all se) (okd_plain sd) (okd_room2 sd hu) ⟨.bl _, H, I, rfl, q⟩
theorem op_notInP (hu : X.A.units + 65 < cLine) : OpR X (compareOp .NotIn) (rNotInP X.K) := by
  intro pins s σ H x y v u Q I rx ry h
  obtain ⟨d, ds, hd, he, sd, se, q⟩ := h
  obtain ⟨as, r1⟩ := Dp.reads I d x v hd rx
  rcases he with he | he
  · obtain ⟨bs, r2⟩ := Dp.reads I (.list ds) y u he ry
    exact SeqAt.notIn_list_data r2 r1 (okd_all se) (okd_plain sd) (okd_room2 sd hu) ⟨.bl _, H, I, rfl, q⟩
  · obtain ⟨bs, r2⟩ := Dp.reads I (.tuple ds) y u he ry
    exact SeqAt.notIn_tuple_data r2 r1 (okd_all se) (okd_plain sd) (okd_room2 sd hu) ⟨.bl _, H, I, rfl, q⟩
theorem o_eq : Op2 K (rEqP K) eqD := fun F H x y d e Q P s h1 h2 p k => ⟨d, e, h1.dp s, h2.dp s, p.1.1, p.1.2, k.flat s (.bl _) p.2⟩
theorem o_ne : Op2 K (rNeP K) neD := fun F H x y d e Q P s h1 h2 p k => ⟨d, e, h1.dp s, h2.dp s, p.1.1, p.1.2, k.flat s (.bl _) p.2⟩
theorem o_in : Op2 K (rInP K) inD := by
  intro F H x y d e Q P s h1 h2 p k
  unfold inD at p
  split at p
  · exact ⟨_, _, h1.dp s, .inl (h2.dp s), p.1.1, p.1.2, k.flat s (.bl _) p.2⟩
  · exact ⟨_, _, h1.dp s, .inr (h2.dp s), p.1.1, p.1.2, k.flat s (.bl _) p.2⟩
  · exact p.elim
theorem o_notIn : Op2 K (rNotInP K) notInD := by
  intro F H x y d e Q P s h1 h2 p k
  unfold notInD at p
  split at p
  · exact ⟨_, _, h1.dp s, .inl (h2.dp s), p.1.1, p.1.2, k.flat s (.bl _) p.2⟩
  · exact ⟨_, _, h1.dp s, .inr (h2.dp s), p.1.1, p.1.2, k.flat s (.bl _) p.2⟩
  · exact p.elim
theorem isNone_v {F : Hp} {x : V} {d : PyData} (h : Fp F x d) : decide (x = .non) = isNone d := by cases h <;> rfl
def rIsDD : R2 := fun x y H Q => (y = .non ∧ Q (.bl (decide (x = .non))) H) ∨ rIsB x y H Q
def rNotDD : R2 := fun x y H Q => (y = .non ∧ Q (.bl (!decide (x = .non))) H) ∨ rNotB x y H Q
theorem or_is : OpR X (compareOp .Is) rIsDD := op_isN.or op_isBl
theorem or_isnot : OpR X (compareOp .IsNot) rNotDD := op_notN.or op_notBl
theorem o_is : Op2 K rIsDD isD := by
  intro F H x y d e Q P s h1 h2 p k
  unfold isD at p
  split at p
  · exact .inl ⟨h2.non_inv, by rw [isNone_v h1]; exact k.flat s (.bl _) p⟩
  · exact .inr ⟨_, _, h1.bl_inv, h2.bl_inv, k.flat s (.bl _) p⟩
  · exact p.elim
theorem o_isnot : Op2 K rNotDD isNotD := by
  intro F H x y d e Q P s h1 h2 p k
  unfold isNotD at p
  split at p
  · exact .inl ⟨h2.non_inv, by rw [isNone_v h1]; exact k.flat s (.bl _) p⟩
  · exact .inr ⟨_, _, h1.bl_inv, h2.bl_inv, k.flat s (.bl _) p⟩
  · exact p.elim
theorem atI_fp {F : Hp} {vs : List V} {ds : List PyData} (h : FpAll F vs ds) {i : Int} {d : PyData} (e : atI ds i = some d) : ∃ v, atI vs i = some v ∧ Fp F v d := by
  unfold atI at e ⊢
  rw [h.length]
  cases q : ixN ds.length i with
  | none => rw [q] at e; cases e
  | some j =>
    rw [q] at e
    exact h.get e
theorem o_ix : Op2 K (rIx K) ixD := by
  intro F H x y d e Q P s h1 h2 p k
  unfold ixD at p
  split at p
  · obtain ⟨a, vs, rfl, ha, ra⟩ := h1.lst_inv
    obtain ⟨z, q, p⟩ := p
    obtain ⟨v, hv, fv⟩ := atI_fp ra q
    exact .inl ⟨a, vs, _, v, rfl, h2.int_inv, SqL.of (s _ _ ha), hv, k.flat s fv p⟩
  · obtain ⟨a, vs, rfl, ha, ra⟩ := h1.tup_inv
    obtain ⟨z, q, p⟩ := p
    obtain ⟨v, hv, fv⟩ := atI_fp ra q
    exact .inr (.inl ⟨a, vs, _, v, rfl, h2.int_inv, SqT.of (s _ _ ha), hv, k.flat s fv p⟩)
  · obtain ⟨z, c, q, p⟩ := p
    exact .inr (.inr ⟨_, _, c, h1.str_inv, h2.int_inv, z, q, k.flat s (.str _) p⟩)
  · exact p.elim

/-! ### 8. operators, comparisons as expressions -/
theorem l_two' {pa pb : PX} {σ : St} {H : Hp} {R : V → V → Hp → Prop} {ts : St} {F : Hp} {env : PEnv} {As : Nat → List Addr} {Q' : PyData → PyData → PEnv → Prop}
    (S : SR K E F H (σ ++ ts) env As) (fx : FixIn E σ) (p : pa env fun d env1 => pb env1 fun e env2 => Q' d e env2)
    (k : ∀ x y d e F' H' env' As', SR K E F' H' (σ ++ ts) env' As' → Same F F' → Fp F' x d → Fp F' y e → Q' d e env' → R x y H') :
    liftE K E pa σ H fun x H1 => liftE K E pb σ H1 fun y H2 => R x y H2 :=
  ⟨ts, F, env, As, _, S, fx, p, fun x d F1 H1 env1 As1 S1 f1 h1 q1 => ⟨ts, F1, env1, As1, _, S1, fx, q1, fun y e F2 H2 env2 As2 S2 f2 h2 q2 => k x y d e F2 H2 env2 As2 S2 (f1.trans f2) (h1.to f2) h2 q2⟩⟩
theorem KN.ko' {σ ts : St} {F F' H' : Hp} {Q : VK} {Q' : Sl → PEnv → Prop} {env' : PEnv} {As' : Nat → List Addr} (k : KO K E σ ts F Q Q') (S : SR K E F' H' (σ ++ ts) env' As') (f : Same F F') : KN K F' H' Q fun r => Q' r env' :=
  fun z r ar F2 H2 g n q => k z r ar F2 H2 env' As' (S.gr g) (f.trans g.ff) (n.ok S) q
/-- t' is enough for t -/
abbrev Le (t' t : TE) : Prop := ∀ σ H Q, t' σ H Q → t σ H Q
theorem le_op2 {r : R2} {rp : PyData → PyData → (Sl → Prop) → Prop} {pa pb : PX} (hr : Op2 K r rp) : Le (liftO K E (pOp2 rp pa pb)) (tOp r (liftE K E pa) (liftE K E pb)) := fun σ H Q ⟨ts, F, env, As, Q', S, fx, p, k⟩ =>
  l_two' S fx p fun x y d e F' H' env' As' S' f h1 h2 q => hr F' H' x y d e Q _ S'.sub h1 h2 q (KN.ko' k S' f)
theorem le_op1 {r : V → Hp → VK → Prop} {rp : PyData → (Sl → Prop) → Prop} {pa : PX} (hr : Op1 K r rp) : Le (liftO K E (pOp1 rp pa)) (tUn r (liftE K E pa)) := fun σ H Q ⟨ts, F, env, As, Q', S, fx, p, k⟩ =>
  ⟨ts, F, env, As, _, S, fx, p, fun x d F' H' env' As' S' f h1 q => hr F' H' x d Q _ S'.sub h1 q (KN.ko' k S' f)⟩
def pTst (p : PO) : PTt := fun env Q => p env fun r env' => match r with
  | .v (.bool b) => Q b env'
  | _ => False
theorem le_tst {t : TE} {p : PO} (h : Le (liftO K E p) t) : ∀ σ H Q, liftT K E (pTst p) σ H Q → tTest t σ H Q := fun σ H Q ⟨ts, F, env, As, Q', S, fx, p, k⟩ => by
  refine h σ H _ ⟨ts, F, env, As, _, S, fx, p, fun v r ar F' H' env' As' S' f R q => ?_⟩
  split at q
  · obtain ⟨v', e, h1, _⟩ := R.1
    cases e
    cases h1
    exact ⟨_, rfl, k _ F' H' env' As' S' f q⟩
  · exact q.elim
variable {a b c : Expr} {pa pb pc : PX} {pos : Pos}
theorem l_bin {op : Operator} {r : R2} {rp : PyData → PyData → (Sl → Prop) → Prop} (ho : OpR X (binaryOp op) r) (hr : Op2 X.K r rp) (ha : PE X a (liftE X.K E pa)) (hb : PE X b (liftE X.K E pb)) : PE X (.BinOp a op b pos) (liftO X.K E (pOp2 rp pa pb)) := pe_w (pe_op ho ha hb) (le_op2 hr)
theorem l_cmp {op : CmpOp} {r : R2} {rp : PyData → PyData → (Sl → Prop) → Prop} (ho : OpR X (compareOp op) r) (hr : Op2 X.K r rp) (ha : PE X a (liftE X.K E pa)) (hb : PE X b (liftE X.K E pb)) (hm : behindInMarks op b = false) : PE X (.Compare a [op] [b] pos) (liftO X.K E (pOp2 rp pa pb)) := pe_w (pe_cmpR ho ha hb hm) (le_op2 hr)
theorem lt_cmp {op : CmpOp} {r : R2} {rp : PyData → PyData → (Sl → Prop) → Prop} (ho : OpR X (compareOp op) r) (hr : Op2 X.K r rp) (ha : PE X a (liftE X.K E pa)) (hb : PE X b (liftE X.K E pb)) (hm : behindInMarks op b = false) : PT X (.Compare a [op] [b] pos) (liftT X.K E (pTst (pOp2 rp pa pb))) := pt_w (pt_cmpR ho ha hb hm) (le_tst (le_op2 hr))
theorem o_neg : Op1 K (rU fun i => .int (-i)) negD := by
  intro F H x d Q P s h p k
  unfold negD at p
  split at p
  · exact ⟨_, h.int_inv, k.flat s (.int _) p⟩
  · exact p.elim
theorem l_neg (ha : PE X a (liftE X.K E pa)) : PE X (.UnaryOp .USub a pos) (liftO X.K E (pOp1 negD pa)) := pe_w (pe_un un_neg ha) (le_op1 o_neg)
theorem l_ix (hs : PlainIx b) (ha : PE X a (liftE X.K E pa)) (hb : PE X b (liftE X.K E pb)) : PE X (.Subscript a b pos) (liftO X.K E (pOp2 ixD pa pb)) := pe_w (pe_ix ix_seq ha hb hs) (le_op2 o_ix)
/-- a chain of two comparisons -/
def pChain (rp rp' : PyData → PyData → (Sl → Prop) → Prop) (pa pb pc : PX) : PO := fun env Q => pa env fun d env1 => pb env1 fun e env2 => rp d e fun r => match r with
  | .v (.bool true) => pc env2 fun g env3 => rp' e g fun r' => Q r' env3
  | .v (.bool false) => Q (.v (.bool false)) env2
  | _ => False
theorem bl_of {F' H' : Hp} {z : V} {b : Bool} {ar : List Addr} {H : Hp} (n : RsNew K H F' H' z (.v (.bool b)) ar) : z = .bl b := by
  obtain ⟨v, e, h, _⟩ := n.1
  cases e
  exact h.bl_inv
theorem le_chain {r r' : R2} {rp rp' : PyData → PyData → (Sl → Prop) → Prop} (hr : Op2 K r rp) (hr' : Op2 K r' rp') : Le (liftO K E (pChain rp rp' pa pb pc)) (tChain r r' (liftE K E pa) (liftE K E pb) (liftE K E pc)) := fun σ H Q ⟨ts, F, env, As, Q', S, fx, p, k⟩ => by
  refine l_two' S fx p fun x y d e F' H' env' As' S' f h1 h2 q => hr F' H' x y d e _ _ S'.sub h1 h2 q fun z rz ar F2 H2 g n q => ?_
  split at q
  · have S2 := S'.gr g
    refine ⟨true, bl_of n, ?_⟩
    rw [if_pos rfl]
    exact ⟨ts, F2, env', As', _, S2, fx, q, fun w' g' F3 H3 env3 As3 S3 f3 h3 q3 => hr' F3 H3 y w' e g' Q _ S3.sub ((h2.to g.ff).to f3) h3 q3 (KN.ko' k S3 ((f.trans g.ff).trans f3))⟩
  · refine ⟨false, bl_of n, ?_⟩
    rw [if_neg Bool.false_ne_true]
    exact k _ (.v (.bool false)) [] F2 H2 env' As' (S'.gr g) (f.trans g.ff) (.v (.bl false)) q
  · exact q.elim
theorem l_chain {op op' : CmpOp} {r r' : R2} {rp rp' : PyData → PyData → (Sl → Prop) → Prop} (ho : OpR X (compareOp op) r) (hr : Op2 X.K r rp) (ho' : OpR X (compareOp op') r') (hr' : Op2 X.K r' rp') (ha : PE X a (liftE X.K E pa)) (hb : PE X b (liftE X.K E pb)) (hc : PE X c (liftE X.K E pc))
    (hm : lastMarks [op, op'] [b, c] = false := by with_unfolding_all rfl) : PE X (.Compare a [op, op'] [b, c] pos) (liftO X.K E (pChain rp rp' pa pb pc)) := pe_w (pe_chain ho ho' ha hb hc hm) (le_chain hr hr')
theorem lt_chain {op op' : CmpOp} {r r' : R2} {rp rp' : PyData → PyData → (Sl → Prop) → Prop} (ho : OpR X (compareOp op) r) (hr : Op2 X.K r rp) (ho' : OpR X (compareOp op') r') (hr' : Op2 X.K r' rp') (ha : PE X a (liftE X.K E pa)) (hb : PE X b (liftE X.K E pb)) (hc : PE X c (liftE X.K E pc))
    (hm : lastMarks [op, op'] [b, c] = false := by with_unfolding_all rfl) : PT X (.Compare a [op, op'] [b, c] pos) (liftT X.K E (pTst (pChain rp rp' pa pb pc))) := pt_w (pt_chain ho ho' ha hb hc hm) (le_tst (le_chain hr hr'))
end

/-! ### 9. tests, and, or, not, if -/
def pAnd (t u : PTt) : PTt := fun env Q => t env fun c env1 => sel c (u env1 Q) (Q false env1)
def pOr (t u : PTt) : PTt := fun env Q => t env fun c env1 => sel c (Q true env1) (u env1 Q)
def pNot (t : PTt) : PTt := fun env Q => t env fun c env1 => Q (!c) env1
def pIf {α : Type} (t : PTt) (a b : PEnv → (α → PEnv → Prop) → Prop) : PEnv → (α → PEnv → Prop) → Prop := fun env Q => t env fun c env1 => sel c (a env1 Q) (b env1 Q)
/-- and, or, not as values -/
def pAndV (pa : PX) (pb : PX) : PX := fun env Q => pa env fun d env1 => match d with
  | .bool true => pb env1 Q
  | .bool false => Q (.bool false) env1
  | _ => False
def pOrV (pa : PX) (pb : PX) : PX := fun env Q => pa env fun d env1 => match d with
  | .bool false => pb env1 Q
  | .bool true => Q (.bool true) env1
  | _ => False
def pNotV (pa : PX) : PX := fun env Q => pa env fun d env1 => match d with
  | .bool b => Q (.bool (!b)) env1
  | _ => False
section
variable {X : Cx} {E : Ent} {a b c : Expr} {rest : List Expr} {pt pu : PTt} {pa pb : PX} {pos : Pos}
theorem lt_val {e : Expr} {p : PO} (h : PE X e (liftO X.K E p)) (he : ∀ whole, isTrue e X.env whole = (do let v ← whole; standAt e.pos; holding [v] (truthy v)) := by intro _; rfl) : PT X e (liftT X.K E (pTst p)) :=
  pt_w (pt_val h he) fun σ H Q q => le_tst (t := liftO X.K E p) (fun _ _ _ q => q) σ H Q q
theorem lw_and1 (ha : PT X a (liftT X.K E pt)) : PW X (.BoolOp .And [a] pos) (liftT X.K E pt) := pw_and1 ha
theorem lw_or1 (ha : PT X a (liftT X.K E pt)) : PW X (.BoolOp .Or [a] pos) (liftT X.K E pt) := pw_or1 ha
theorem lw_and (ha : PT X a (liftT X.K E pt)) (hb : PW X (.BoolOp .And (b :: rest) pos) (liftT X.K E pu)) : PW X (.BoolOp .And (a :: b :: rest) pos) (liftT X.K E (pAnd pt pu)) :=
  pw_w (pw_and ha hb) fun σ H Q ⟨ts, F, env, As, Q', S, fx, p, k⟩ => ⟨ts, F, env, As, _, S, fx, p, fun c F' H' env' As' S' f q => by
    cases c with
    | true =>
      rw [sel_tt] at q; rw [if_pos rfl]
      exact ⟨ts, F', env', As', _, S', fx, q, fun b2 F2 H2 env2 As2 S2 f2 q2 => k b2 F2 H2 env2 As2 S2 (f.trans f2) q2⟩
    | false =>
      rw [sel_ff] at q; rw [if_neg Bool.false_ne_true]
      exact k false F' H' env' As' S' f q⟩
theorem lw_or (ha : PT X a (liftT X.K E pt)) (hb : PW X (.BoolOp .Or (b :: rest) pos) (liftT X.K E pu)) : PW X (.BoolOp .Or (a :: b :: rest) pos) (liftT X.K E (pOr pt pu)) :=
  pw_w (pw_or ha hb) fun σ H Q ⟨ts, F, env, As, Q', S, fx, p, k⟩ => ⟨ts, F, env, As, _, S, fx, p, fun c F' H' env' As' S' f q => by
    cases c with
    | true =>
      rw [sel_tt] at q; rw [if_pos rfl]
      exact k true F' H' env' As' S' f q
    | false =>
      rw [sel_ff] at q; rw [if_neg Bool.false_ne_true]
      exact ⟨ts, F', env', As', _, S', fx, q, fun b2 F2 H2 env2 As2 S2 f2 q2 => k b2 F2 H2 env2 As2 S2 (f.trans f2) q2⟩⟩
theorem lt_not (ha : PT X a (liftT X.K E pt)) : PT X (.UnaryOp .Not a pos) (liftT X.K E (pNot pt)) :=
  pt_w (pt_not ha) fun σ H Q ⟨ts, F, env, As, Q', S, fx, p, k⟩ => ⟨ts, F, env, As, _, S, fx, p, fun c F' H' env' As' S' f q => k _ F' H' env' As' S' f q⟩
theorem l_ifE (hc : PT X c (liftT X.K E pt)) (ha : PE X a (liftE X.K E pa)) (hb : PE X b (liftE X.K E pb)) : PE X (.IfExp c a b pos) (liftE X.K E (pIf pt pa pb)) :=
  pe_w (pe_ifExp hc ha hb) fun σ H Q ⟨ts, F, env, As, Q', S, fx, p, k⟩ => ⟨ts, F, env, As, _, S, fx, p, fun c F' H' env' As' S' f q => by
    cases c with
    | true =>
      rw [sel_tt] at q; rw [if_pos rfl]
      exact ⟨ts, F', env', As', _, S', fx, q, fun v d F2 H2 env2 As2 S2 f2 h2 q2 => k v d F2 H2 env2 As2 S2 (f.trans f2) h2 q2⟩
    | false =>
      rw [sel_ff] at q; rw [if_neg Bool.false_ne_true]
      exact ⟨ts, F', env', As', _, S', fx, q, fun v d F2 H2 env2 As2 S2 f2 h2 q2 => k v d F2 H2 env2 As2 S2 (f.trans f2) h2 q2⟩⟩
theorem l_one {op : BoolOp} (h : PE X a (liftE X.K E pa)) : PE X (.BoolOp op [a] pos) (liftE X.K E pa) := pe_one h
theorem l_and (ha : PE X a (liftE X.K E pa)) (hb : PE X (.BoolOp .And (b :: rest) pos) (liftE X.K E pb)) : PE X (.BoolOp .And (a :: b :: rest) pos) (liftE X.K E (pAndV pa pb)) :=
  pe_w (pe_and ha hb) fun σ H Q ⟨ts, F, env, As, Q', S, fx, p, k⟩ => ⟨ts, F, env, As, _, S, fx, p, fun v d F' H' env' As' S' f h q => by
    split at q
    · refine ⟨true, h.bl_inv, ?_⟩
      rw [if_pos rfl]
      exact ⟨ts, F', env', As', _, S', fx, q, fun v d F2 H2 env2 As2 S2 f2 h2 q2 => k v d F2 H2 env2 As2 S2 (f.trans f2) h2 q2⟩
    · refine ⟨false, h.bl_inv, ?_⟩
      rw [if_neg Bool.false_ne_true]
      exact k _ _ F' H' env' As' S' f (.bl false) q
    · exact q.elim⟩
theorem l_or (ha : PE X a (liftE X.K E pa)) (hb : PE X (.BoolOp .Or (b :: rest) pos) (liftE X.K E pb)) : PE X (.BoolOp .Or (a :: b :: rest) pos) (liftE X.K E (pOrV pa pb)) :=
  pe_w (pe_or ha hb) fun σ H Q ⟨ts, F, env, As, Q', S, fx, p, k⟩ => ⟨ts, F, env, As, _, S, fx, p, fun v d F' H' env' As' S' f h q => by
    split at q
    · refine ⟨false, h.bl_inv, ?_⟩
      rw [if_neg Bool.false_ne_true]
      exact ⟨ts, F', env', As', _, S', fx, q, fun v d F2 H2 env2 As2 S2 f2 h2 q2 => k v d F2 H2 env2 As2 S2 (f.trans f2) h2 q2⟩
    · refine ⟨true, h.bl_inv, ?_⟩
      rw [if_pos rfl]
      exact k _ _ F' H' env' As' S' f (.bl true) q
    · exact q.elim⟩
theorem l_not (ha : PE X a (liftE X.K E pa)) : PE X (.UnaryOp .Not a pos) (liftE X.K E (pNotV pa)) :=
  pe_w (pe_not ha) fun σ H Q ⟨ts, F, env, As, Q', S, fx, p, k⟩ => ⟨ts, F, env, As, _, S, fx, p, fun v d F' H' env' As' S' f h q => by
    split at q
    · exact ⟨_, h.bl_inv, k _ _ F' H' env' As' S' f (.bl _) q⟩
    · exact q.elim⟩
end
end PL

namespace PL
open PySem PySem.Spec PyProof.Rows L2

/-! ### 10. arguments -/
def pANil : PAs := fun env Q => Q [] env
def pACons (pa : PX) (pr : PAs) : PAs := fun env Q => pa env fun d env1 => pr env1 fun gs env2 => Q (.d d :: gs) env2
/-- a lent slot -/
def pALend (i : Nat) (pr : PAs) : PAs := fun env Q => (∃ c, env[i]? = some (.m c)) ∧ pr env fun gs env2 => Q (.s i :: gs) env2
def dsAg (ds : List PyData) : List Ag := ds.map .d
def pAStar (pa : PX) (pr : PAs) : PAs := fun env Q => pa env fun d env1 => match d with
  | .list ds => pr env1 fun gs env2 => Q (dsAg ds ++ gs) env2
  | .tuple ds => pr env1 fun gs env2 => Q (dsAg ds ++ gs) env2
  | _ => False
/-- all arguments still -/
def agD? : List Ag → Option (List PyData)
  | [] => some []
  | .d x :: gs => (agD? gs).map (x :: ·)
  | .s _ :: _ => none
theorem agD?_cons (d : PyData) (gs : List Ag) : agD? (.d d :: gs) = (agD? gs).map (d :: ·) := rfl
section
variable {X : Cx} {E : Ent} {K : PySem.W.Frag} {e : Expr} {es : List Expr} {pa : PX} {pr : PAs} {pos : Pos}
theorem AgOk.to {F F' : Hp} {σ : L2.St} (s : Same F F') : ∀ {vs : List V} {gs : List Ag}, Paired (AgOk F σ) vs gs → Paired (AgOk F' σ) vs gs
  | _, _, .nil => .nil
  | _, _, .cons (b := .d x) h r => .cons (show Fp F' _ x from Fp.to s h) (AgOk.to s r)
  | _, _, .cons (b := .s i) h r => .cons h (AgOk.to s r)
theorem AgOk.ds {F : Hp} {σ : L2.St} : ∀ {vs : List V} {gs : List Ag} {ds : List PyData}, Paired (AgOk F σ) vs gs → agD? gs = some ds → FpAll F vs ds
  | _, _, _, .nil, e => by cases e; exact .nil
  | _, _, _, .cons (b := .d x) h r, e => by
    rw [agD?_cons] at e
    obtain ⟨ds, e1, e2⟩ := Option.map_eq_some_iff.mp e
    rw [← e2]
    exact .cons h (AgOk.ds r e1)
  | _, _, _, .cons (b := .s i) h r, e => by cases e
theorem AgOk.of_ds {F : Hp} {σ : L2.St} : ∀ {vs : List V} {ds : List PyData}, FpAll F vs ds → Paired (AgOk F σ) vs (dsAg ds)
  | _, _, .nil => .nil
  | _, _, .cons h r => .cons h (AgOk.of_ds r)
theorem paired_app {α β : Type} {R : α → β → Prop} : ∀ {xs us : List α} {ys ws : List β}, Paired R xs ys → Paired R us ws → Paired R (xs ++ us) (ys ++ ws)
  | _, _, _, _, .nil, h => h
  | _, _, _, _, .cons h r, k => .cons h (paired_app r k)
theorem l_anil : PA X [] (liftA X.K E pANil) := pa_w pa_nil fun σ H Q ⟨ts, F, env, As, Q', S, fx, p, k⟩ => k [] [] F H env As S (Same.refl F) .nil p
theorem l_acons (ha : PE X e (liftE X.K E pa)) (hr : PA X es (liftA X.K E pr)) (hs : starEach (e :: es) X.env = (false, eval e X.env) :: starEach es X.env := by rfl) : PA X (e :: es) (liftA X.K E (pACons pa pr)) :=
  pa_w (pa_cons ha hr hs) fun σ H Q ⟨ts, F, env, As, Q', S, fx, p, k⟩ => ⟨ts, F, env, As, _, S, fx, p, fun v d F1 H1 env1 As1 S1 f1 h1 q1 =>
    ⟨ts, F1, env1, As1, _, S1, fx, q1, fun vs gs F2 H2 env2 As2 S2 f2 h2 q2 => k (v :: vs) (.d d :: gs) F2 H2 env2 As2 S2 (f1.trans f2) (.cons (show Fp F2 v d from h1.to f2) h2) q2⟩⟩
theorem l_alend (i : Nat) {x : Str} {px : Pos} (h : PE X (.Name x px) (tVar i)) (hN : i < X.N.length) (hr : PA X es (liftA X.K E pr)) (hs : starEach (.Name x px :: es) X.env = (false, eval (.Name x px) X.env) :: starEach es X.env := by rfl) : PA X (.Name x px :: es) (liftA X.K E (pALend i pr)) := by
  refine ⟨fun ps pins s σ H Q I q => (pa_cons h hr hs).run ps pins s σ H Q I ?_⟩
  obtain ⟨ts, F, env, As, Q', S, fx, ⟨⟨c, ec⟩, p⟩, k⟩ := q
  have hi : i < σ.length := by rw [I.len]; exact hN
  obtain ⟨x', h1, v, e1, h2⟩ := S.slot i _ ec
  subst e1
  have h1' := app_get hi h1
  exact ⟨v, h1', ts, F, env, As, _, S, fx, p, fun vs gs F2 H2 env2 As2 S2 f2 h2 q2 => k (v :: vs) (.s i :: gs) F2 H2 env2 As2 S2 f2 (.cons h1' h2) q2⟩
theorem l_astar {sp : Pos} (ha : PE X e (liftE X.K E pa)) (hr : PA X es (liftA X.K E pr)) (hs : starEach (.Starred e sp :: es) X.env = (true, eval e X.env) :: starEach es X.env := by rfl) : PA X (.Starred e sp :: es) (liftA X.K E (pAStar pa pr)) :=
  pa_w (StX.pa_star ha hr hs) fun σ H Q ⟨ts, F, env, As, Q', S, fx, p, k⟩ => ⟨ts, F, env, As, _, S, fx, p, fun v d F1 H1 env1 As1 S1 f1 h1 q1 => by
    split at q1
    · obtain ⟨a, vs, rfl, ha, ra⟩ := h1.lst_inv
      exact ⟨a, vs, rfl, .inr (SqL.of (S1.sub _ _ ha)), ts, F1, env1, As1, _, S1, fx, q1, fun us gs F2 H2 env2 As2 S2 f2 h2 q2 => k _ _ F2 H2 env2 As2 S2 (f1.trans f2) (paired_app (AgOk.of_ds (ra.to f2)) h2) q2⟩
    · obtain ⟨a, vs, rfl, ha, ra⟩ := h1.tup_inv
      exact ⟨a, vs, rfl, .inl (SqT.of (S1.sub _ _ ha)), ts, F1, env1, As1, _, S1, fx, q1, fun us gs F2 H2 env2 As2 S2 f2 h2 q2 => k _ _ F2 H2 env2 As2 S2 (f1.trans f2) (paired_app (AgOk.of_ds (ra.to f2)) h2) q2⟩
    · exact q1.elim⟩

/-! ### 11. what takes still arguments: displays, built-in functions -/
def pCallL (rp : List PyData → (Sl → Prop) → Prop) (pa : PAs) : PO := fun env Q => pa env fun gs env1 => match agD? gs with
  | some ds => rp ds fun r => Q r env1
  | none => False
theorem le_callL {r : List V → Hp → VK → Prop} {rp : List PyData → (Sl → Prop) → Prop} {pa : PAs} (hr : OpL K r rp) : Le (liftO K E (pCallL rp pa)) (tCB r (liftA K E pa)) := fun σ H Q ⟨ts, F, env, As, Q', S, fx, p, k⟩ =>
  ⟨ts, F, env, As, _, S, fx, p, fun vs gs F' H' env' As' S' f h q => by
    split at q
    · rename_i ds ed
      exact hr F' H' vs ds Q _ S'.sub (AgOk.ds h ed) q (KN.ko' k S' f)
    · exact q.elim⟩
/-- a display -/
def listD (ds : List PyData) (P : Sl → Prop) : Prop := ds.length ≤ sizeLine ∧ P (.m (.ol ds))
def tupD (ds : List PyData) (P : Sl → Prop) : Prop := ds.length ≤ sizeLine ∧ P (.v (.tuple ds))
theorem o_list : OpL K (fun xs H Q => xs.length ≤ sizeLine ∧ ∀ p, H p = none → Q (.ref p) (upd H p (.lst xs))) listD := fun F H xs ds Q P s h p k => ⟨by rw [h.length]; exact p.1, k.list s h p.2⟩
theorem o_tup : OpL K (fun xs H Q => xs.length ≤ sizeLine ∧ ∀ p, H p = none → Q (.ref p) (upd H p (.tup xs))) tupD := fun F H xs ds Q P s h p k => ⟨by rw [h.length]; exact p.1, k.tup s h p.2⟩
theorem l_lst {pa : PAs} (h : PA X es (liftA X.K E pa)) : PE X (.List es pos) (liftO X.K E (pCallL listD pa)) := pe_w (pe_lst h) (le_callL o_list)
theorem l_tup {x1} {pa : PAs} (h : PA X es (liftA X.K E pa)) : PE X (.Tuple es x1 pos) (liftO X.K E (pCallL tupD pa)) := pe_w (pe_tup h) (le_callL o_tup)
theorem l_callB {x : Str} {p : Pos} {id : String} {r : List V → Hp → VK → Prop} {rp : List PyData → (Sl → Prop) → Prop} {pa : PAs} (hc : CallR X (.builtin id) r) (hr : OpL X.K r rp) (hg : Gl X x) (hm : X.mg x = none) (hv : bootBuiltins x = some (.builtin id)) (ha : PA X (e :: es) (liftA X.K E pa)) (hn : x ≠ "__name__" := by decide) (hdb : (x == ("__debug__" : Str)) = false := by decide)
    (he : starEach (e :: es) X.env = (false, eval e X.env) :: starEach es X.env := by rfl) (hpl : (backTo pos (starEach es X.env)).any (·.1) = false := by rfl) : PE X (.Call (.Name x p) (e :: es) [] pos) (liftO X.K E (pCallL rp pa)) :=
  pe_w (pe_callB hc hg hm hv ha hn hdb he hpl) (le_callL hr)
theorem l_callTy {x : Str} {p : Pos} {T : String} {r : List V → Hp → VK → Prop} {rp : List PyData → (Sl → Prop) → Prop} {pa : PAs} (hc : CallR X (.type T) r) (hr : OpL X.K r rp) (hg : Gl X x) (hm : X.mg x = none) (hv : bootBuiltins x = some (.type T)) (ha : PA X (e :: es) (liftA X.K E pa)) (hn : x ≠ "__name__" := by decide) (hdb : (x == ("__debug__" : Str)) = false := by decide)
    (he : starEach (e :: es) X.env = (false, eval e X.env) :: starEach es X.env := by rfl) (hpl : (backTo pos (starEach es X.env)).any (·.1) = false := by rfl) : PE X (.Call (.Name x p) (e :: es) [] pos) (liftO X.K E (pCallL rp pa)) :=
  pe_w (pe_callTy hc hg hm hv ha hn hdb he hpl) (le_callL hr)
end

/-! ### 12. defs -/
abbrev SpP := List Sl → (Sl → List Sl → Prop) → Prop
def outs (fx : List Nat) (args : List Sl) (env : PEnv) : List Sl := mapI (fun i a => match fx.contains i with
  | true => env.getD i .un
  | false => a) 0 args
theorem pick_eq (l : List Nat) (i : Nat) (a b : Sl) : (match l.contains i with
  | true => a
  | false => b) = if i ∈ l then a else b := by
  by_cases h : i ∈ l
  · rw [if_pos h, List.contains_iff_mem.mpr h]
  · rw [if_neg h]
    cases e : l.contains i with
    | true => exact absurd (List.contains_iff_mem.mp e) h
    | false => rfl
theorem outs_eq (fx : List Nat) (args : List Sl) (env : PEnv) : outs fx args env = args.mapIdx fun i a => if i ∈ fx then env.getD i .un else a := by
  unfold outs
  rw [mapI_eq]
  exact congrArg (fun g => List.mapIdx g args) (funext fun i => funext fun a => pick_eq fx i _ a)
def entOf (fx : List Nat) (F H : Hp) (vs : List V) (As : Nat → List Addr) : Ent := ⟨F, H, fun a => ∃ i, a ∈ As i, fun i => if i ∈ fx then vs[i]? else none⟩
/-- the promise of a def, lifted -/
def liftSp (K : PySem.W.Frag) (n : Nat) (fx : List Nat) (sp : SpP) : Sp := fun vs H Q _ => vs.length = n ∧ ∃ F args As Q', (∀ i c, args[i]? = some (.m c) → i ∈ fx) ∧ SR K (entOf fx F H vs As) F H (vs.map some) args As ∧ sp args Q' ∧
  ∀ v r ar F' H' args' As', SR K (entOf fx F H vs As) F' H' (vs.map some) args' As' → RsOk K (entOf fx F H vs As) F' H' As' v r ar → Q' r args' → Q v H'
/-- a def's heap-free meaning from its body's -/
def spOf (fx : List Nat) (nl : Nat) (body : PSt) : SpP := fun args Q => body { nx := fun env => Q (.v .none) (outs fx args env), rt := fun r env => Q r (outs fx args env) } (args ++ List.replicate nl .un)
section
variable {K : PySem.W.Frag} {F H : Hp}
theorem SR.begin0 {fx : List Nat} {vs : List V} {args : List Sl} {As : Nat → List Addr} {N : List Str} (S : SR K (entOf fx F H vs As) F H (vs.map some) args As) (nl : Nat) (hn : N.length = vs.length + nl) :
    SR K (entOf fx F H vs As) F H (L2.start N vs) (args ++ List.replicate nl .un) As ∧ FixIn (entOf fx F H vs As) (L2.start N vs) := by
  have el : vs.length = args.length := by
    have := S.len
    rw [List.length_map] at this
    exact this
  have sl : (L2.start N vs).length = N.length := by
    unfold L2.start
    rw [List.length_append, List.length_map, List.length_replicate]
    omega
  refine ⟨⟨S.sub, S.f0, S.grow, S.keep, ?_, fun i s e => ?_, fun i h => S.out i ?_, S.own, S.nd, S.disj, fun i v e => ?_⟩, fun i w e => ?_⟩
  · rw [sl, List.length_append, List.length_replicate]
    omega
  · by_cases hi : i < args.length
    · rw [List.getElem?_append_left hi] at e
      obtain ⟨x, h1, h2⟩ := S.slot i s e
      exact ⟨x, by unfold L2.start; rw [List.getElem?_append_left (by rw [List.length_map]; omega)]; exact h1, h2⟩
    · rw [List.getElem?_append_right (by omega), List.getElem?_replicate] at e
      split at e
      · cases e
        refine ⟨none, ?_, S.out i (by omega)⟩
        unfold L2.start
        rw [List.getElem?_append_right (by rw [List.length_map]; omega), List.getElem?_replicate, List.length_map, if_pos (by omega)]
      · cases e
  · rw [List.length_append] at h
    omega
  · have z := S.fix i v e
    unfold L2.start
    rw [List.getElem?_append_left (List.getElem?_eq_some_iff.mp z).1]
    exact z
  · have z := (List.getElem?_eq_some_iff.mp (S.fix i w e)).1
    rw [List.length_map] at z
    rw [sl]
    omega
theorem SR.finish {fx : List Nat} {vs : List V} {args : List Sl} {As As' : Nat → List Addr} {F' H' : Hp} {σ' : L2.St} {env' : PEnv} (hm : ∀ i c, args[i]? = some (.m c) → i ∈ fx) (S : SR K (entOf fx F H vs As) F H (vs.map some) args As) (S' : SR K (entOf fx F H vs As) F' H' σ' env' As') :
    SR K (entOf fx F H vs As) F' H' (vs.map some) (outs fx args env') (fun i => if i ∈ fx ∧ i < args.length then As' i else []) := by
  have el : vs.length = args.length := by
    have := S.len
    rw [List.length_map] at this
    exact this
  have inA : ∀ {i : Nat} {a : Addr}, a ∈ (if i ∈ fx ∧ i < args.length then As' i else []) → (i ∈ fx ∧ i < args.length) ∧ a ∈ As' i := fun {i a} h => by
    by_cases c : i ∈ fx ∧ i < args.length
    · rw [if_pos c] at h
      exact ⟨c, h⟩
    · rw [if_neg c] at h
      cases h
  refine ⟨S'.sub, S'.f0, S'.grow, S'.keep, ?_, fun i s e => ?_, fun i h => ?_, fun i a h => S'.own i a (inA h).2, fun i => ?_, fun i j a ne h1 h2 => S'.disj i j a ne (inA h1).2 (inA h2).2, S.fix⟩
  · rw [outs_eq]
    rw [List.length_map, List.length_mapIdx]
    exact el
  · rw [outs_eq] at e
    rw [List.getElem?_mapIdx] at e
    obtain ⟨s0, e0, e1⟩ := Option.map_eq_some_iff.mp e
    have hi := (List.getElem?_eq_some_iff.mp e0).1
    have hv : (vs.map some)[i]? = some (some vs[i]) := by
      rw [List.getElem?_map, List.getElem?_eq_getElem (by omega)]
      rfl
    refine ⟨some vs[i], hv, ?_⟩
    by_cases c : i ∈ fx
    · rw [if_pos c] at e1
      rw [if_pos ⟨c, hi⟩]
      have z : (entOf fx F H vs As).fix i = some vs[i] := by
        show (if i ∈ fx then vs[i]? else none) = _
        rw [if_pos c, List.getElem?_eq_getElem (by omega)]
      have z2 := S'.fix i _ z
      have hl : i < env'.length := by rw [← S'.len]; exact (List.getElem?_eq_some_iff.mp z2).1
      obtain ⟨x, h1, h2⟩ := S'.slot i env'[i] (List.getElem?_eq_getElem hl)
      rw [z2] at h1
      cases h1
      rw [← e1, List.getD_eq_getElem?_getD, List.getElem?_eq_getElem hl]
      exact h2
    · rw [if_neg c] at e1
      rw [if_neg fun z => c z.1]
      subst e1
      obtain ⟨x, h1, h2⟩ := S.slot i _ e0
      rw [hv] at h1
      cases h1
      cases s0 with
      | un => rfl
      | v d =>
        obtain ⟨v, q1, q2, _⟩ := h2
        exact ⟨v, q1, q2.to S'.f0, rfl⟩
      | m c' => exact absurd (hm i c' e0) c
  · by_cases c : i ∈ fx ∧ i < args.length
    · rw [outs_eq] at h
      rw [List.length_mapIdx] at h
      omega
    · exact if_neg c
  · by_cases c : i ∈ fx ∧ i < args.length
    · rw [if_pos c]; exact S'.nd i
    · rw [if_neg c]; exact List.nodup_nil
end

/-- as L2.FnOk, called where nothing is being shown -/
structure FnG (P : Program) (w : World) (K : PySem.W.Frag) (mg : Str → Option Value) (base : Heap) (CX : CXT) (k : Nat) (f : Addr) (fd : FuncData) (ps : List Str) (sp : Sp) : Prop where
  len : ∀ vs H Q E, sp vs H Q E → vs.length = ps.length
  run : ∀ (A : Around) (outer : List Env) (s : Shared) (H : Hp) (args : Args) (us : List Value) (vs : List V) (Q : VK) (E : XK), Room k A → A.guards = some [] → Env0 P w K mg base A outer s H → BindsTo s fd args (ps.zip us) → Vals vs us → sp vs H Q E →
    codeAny (model P w) A (.call (.ref f) args) (CR CX outer P w H s Q E) s
section
variable {P : Program} {w : World} {K : PySem.W.Frag} {mg : Str → Option Value} {base : Heap}
theorem FnG.up {CX : CXT} {j k : Nat} {f : Addr} {fd : FuncData} {ps : List Str} {sp : Sp} (G : FnG P w K mg base CX j f fd ps sp) (h : j ≤ k) : FnG P w K mg base CX k f fd ps sp :=
  ⟨G.len, fun A outer s H args us vs Q E hr => G.run A outer s H args us vs Q E (hr.mono h)⟩
theorem fng_of {CX : CXT} {x qual : Str} {st : Stmt} {f : Addr} {fd : FuncData} {N ps : List Str} {k : Nat} {sp : Sp} (Fn : Fun K x qual st f fd) (S : FnScope N ps (defScope st)) (len : ∀ vs H Q E, sp vs H Q E → vs.length = ps.length)
    (hbody : ∀ (cdv : Value) (A : Around) (outer : List Env) (s : Shared) (H : Hp) (vs : List V) (Q : VK) (E : XK), Room k (A.deeper (envOfC qual (defScope st) s.heap.objs.size f cdv)) → (A.deeper (envOfC qual (defScope st) s.heap.objs.size f cdv)).guards = some [] → sp vs H Q E →
      ∃ t, PSs (cxOf CX P w K mg base N qual (defScope st) f cdv A outer s H E) (defBody st) t ∧ t { nx := fun _ H' => Q .non H', rt := Q } (L2.start N vs) H) : FnG P w K mg base CX (k + 1) f fd ps sp := by
  obtain ⟨oc, od, kV, doc, pm, an, cdv, ct, osl, rfl, lk, hcd⟩ := Fn.ex
  refine ⟨len, fun A outer s H args us vs Q E hr hg e0 hb r hsp => ?_⟩
  have hl := len _ _ _ _ hsp
  have kin : K.In s.heap := e0.mod.kin.keeps fun b o e => (e0.bs b o e).1
  have lim : s.heap.NoLimit := e0.mod.nolimit.keeps fun b o e => (e0.bs b o e).1
  refine codeAny_call_function hr.depth (kin _ _ lk) rfl S.co S.gen rfl (PySem.W.codeRec_of kin hcd) (hb _ _ _ _ ?_)
  refine wpAny_newFunctionEnv_cells S.kind (fun y hy => ?_) fun env he s1 x1 => ?_
  · rcases S.par y.1 (List.of_mem_zip hy).1 with q | q
    · exact .inl q
    · exact .inr ⟨q, PySem.W.cellsFrom_some _ _ _ (.inl q)⟩
  subst he
  refine ⟨lim.keeps x1.toInCall.keep, codeAny_func ?_⟩
  obtain ⟨t, ht, hq⟩ := hbody cdv A outer s H vs Q E (hr.deeper _) hg hsp
  have I := inv_start (CX := CX) (P := P) (w := w) (mg := mg) (base := base) (E := E) S hr.hd e0 hl r x1
  refine wpAny_mono (ht.run [] s1 (L2.start N vs) H _ I hq) (fun fl s' hs => ?_) fun _ _ hs => hs
  cases fl with
  | ret u =>
    obtain ⟨v, σ', H', J, rv, q⟩ := hs
    exact ⟨v, H', J.os, J.bare, J.base, J.hok, rv, q⟩
  | next =>
    obtain ⟨σ', H', J, q⟩ := hs
    exact ⟨V.non, H', J.os, J.bare, J.base, J.hok, rfl, q⟩
  | brk =>
    obtain ⟨_, _, _, q⟩ := hs
    exact q.elim
  | cont =>
    obtain ⟨_, _, _, q⟩ := hs
    exact q.elim
/-- a def that lets no exception out, by its lifted body -/
theorem fng_lift {x qual : Str} {st : Stmt} {f : Addr} {fd : FuncData} {N ps : List Str} {k n nl : Nat} {fx : List Nat} {body : PSt} (Fn : Fun K x qual st f fd) (S : FnScope N ps (defScope st)) (hps : ps.length = n) (hN : N.length = n + nl)
    (hbody : ∀ (cdv : Value) (A : Around) (outer : List Env) (s : Shared) (H : Hp) (E0 : XK) (E : Ent), (∀ i, i ∉ fx → E.fix i = none) → Room k (A.deeper (envOfC qual (defScope st) s.heap.objs.size f cdv)) → (A.deeper (envOfC qual (defScope st) s.heap.objs.size f cdv)).guards = some [] →
      PSs (cxOf CX0 P w K mg base N qual (defScope st) f cdv A outer s H E0).nox (defBody st) (liftS K E body)) : FnG P w K mg base CX0 (k + 1) f fd ps (liftSp K n fx (spOf fx nl body)) := by
  refine fng_of Fn S (fun vs H Q E h => by rw [hps]; exact h.1) fun cdv A outer s H vs Q E0 hr hg hsp => ?_
  obtain ⟨hl, F, args, As, Q', hm, SS, p, k⟩ := hsp
  refine ⟨_, (hbody cdv A outer s H E0 (entOf fx F H vs As) (fun i hi => if_neg hi) hr hg).nox, ?_⟩
  obtain ⟨S1, fx1⟩ := SR.begin0 (N := N) SS nl (by omega)
  refine ⟨F, _, As, _, S1, fx1, p, ?_, ?_, ?_, ?_⟩
  · intro σ' F' H' env' As' _ S' f q
    exact k .non (.v .none) [] F' H' _ _ (SR.finish hm SS S') (RsOk.v Fp.non) q
  · exact fun _ _ _ _ _ _ _ _ q => q.elim
  · exact fun _ _ _ _ _ _ _ _ q => q.elim
  · intro σ' F' H' env' As' _ S' f v r ar R q
    refine k v r ar F' H' _ _ (SR.finish hm SS S') ⟨R.1, R.2.1, R.2.2.1, fun i a ha z => ?_⟩ q
    have z' : a ∈ (if i ∈ fx ∧ i < args.length then As' i else []) := z
    by_cases c : i ∈ fx ∧ i < args.length
    · rw [if_pos c] at z'
      exact R.2.2.2 i a ha z'
    · rw [if_neg c] at z'
      cases z'
end
end PL

namespace PL
open PySem PySem.Spec PyProof.Rows L2

/-! ### 13. calls of defs -/
def argsOf (env : PEnv) (gs : List Ag) : List Sl := gs.map fun g => match g with
  | .d x => .v x
  | .s i => env.getD i .un
/-- where a slot is lent -/
def posOf : List Ag → Nat → Option Nat
  | [], _ => none
  | .d _ :: gs, j => (posOf gs j).map (· + 1)
  | .s i :: gs, j => if i = j then some 0 else (posOf gs j).map (· + 1)
def backA : PEnv → List Ag → List Sl → PEnv
  | env, .d _ :: gs, _ :: as => backA env gs as
  | env, .s i :: gs, a :: as => (backA env gs as).set i a
  | env, _, _ => env
def lentIn (fx : List Nat) : Nat → List Ag → Bool
  | _, [] => true
  | n, .d _ :: gs => lentIn fx (n + 1) gs
  | n, .s _ :: gs => decide (n ∈ fx) && lentIn fx (n + 1) gs
def lents : List Ag → List Nat
  | [] => []
  | .d _ :: gs => lents gs
  | .s i :: gs => i :: lents gs
/-- a call: the lent slots stand apart -/
def pCall (n : Nat) (fx : List Nat) (sp : SpP) (pa : PAs) : PO := fun env Q => pa env fun gs env1 => gs.length = n ∧ (lentIn fx 0 gs = true ∧ (lents gs).Nodup) ∧ sp (argsOf env1 gs) fun r args' => Q r (backA env1 gs args')
section
theorem posOf_some : ∀ {gs : List Ag} {j i : Nat}, posOf gs j = some i → gs[i]? = some (.s j)
  | .d x :: gs, j, i, h => by
    obtain ⟨k, h1, rfl⟩ := Option.map_eq_some_iff.mp (show (posOf gs j).map (· + 1) = some i from h)
    rw [List.getElem?_cons_succ]
    exact posOf_some h1
  | .s n :: gs, j, i, h => by
    by_cases e : n = j
    · subst e
      have h' : some 0 = some i := (if_pos rfl).symm.trans h
      cases h'
      rfl
    · obtain ⟨k, h1, rfl⟩ := Option.map_eq_some_iff.mp (show (posOf gs j).map (· + 1) = some i from (if_neg e).symm.trans h)
      rw [List.getElem?_cons_succ]
      exact posOf_some h1
theorem posOf_lent : ∀ {gs : List Ag} {j : Nat}, posOf gs j = none → j ∉ lents gs
  | [], _, _ => by simp [lents]
  | .d x :: gs, j, h => by
    have h' : (posOf gs j).map (· + 1) = none := h
    show j ∉ lents gs
    exact posOf_lent (gs := gs) (Option.map_eq_none_iff.mp h')
  | .s n :: gs, j, h => by
    by_cases e : n = j
    · have h' : some 0 = none := (if_pos e).symm.trans h
      cases h'
    · have h' : (posOf gs j).map (· + 1) = none := (if_neg e).symm.trans h
      have q := posOf_lent (Option.map_eq_none_iff.mp h')
      simp only [lents, List.mem_cons, not_or]
      exact ⟨fun z => e z.symm, q⟩
theorem lents_of : ∀ {gs : List Ag} {i j : Nat}, gs[i]? = some (.s j) → j ∈ lents gs
  | .d x :: gs, 0, j, h => by cases h
  | .s n :: gs, 0, j, h => by cases h; simp [lents]
  | .d x :: gs, i + 1, j, h => by
    rw [List.getElem?_cons_succ] at h
    exact lents_of (gs := gs) h
  | .s n :: gs, i + 1, j, h => by
    rw [List.getElem?_cons_succ] at h
    exact List.mem_cons_of_mem _ (lents_of h)
theorem posOf_of : ∀ {gs : List Ag} {i j : Nat}, (lents gs).Nodup → gs[i]? = some (.s j) → posOf gs j = some i
  | .d x :: gs, 0, j, _, h => by cases h
  | .s n :: gs, 0, j, _, h => by cases h; exact if_pos rfl
  | .d x :: gs, i + 1, j, nd, h => by
    rw [List.getElem?_cons_succ] at h
    show (posOf gs j).map (· + 1) = _
    rw [posOf_of (gs := gs) nd h]
    rfl
  | .s n :: gs, i + 1, j, nd, h => by
    rw [List.getElem?_cons_succ] at h
    have e : n ≠ j := fun z => by
      subst z
      exact (List.nodup_cons.mp nd).1 (lents_of h)
    show (if n = j then some 0 else (posOf gs j).map (· + 1)) = _
    rw [if_neg e, posOf_of (List.nodup_cons.mp nd).2 h]
    rfl
theorem backA_length : ∀ (env : PEnv) (gs : List Ag) (as : List Sl), (backA env gs as).length = env.length
  | env, [], _ => by cases ‹List Sl› <;> rfl
  | env, .d x :: gs, [] => rfl
  | env, .s i :: gs, [] => rfl
  | env, .d x :: gs, a :: as => backA_length env gs as
  | env, .s i :: gs, a :: as => by
    show ((backA env gs as).set i a).length = _
    rw [List.length_set, backA_length env gs as]
theorem backA_get : ∀ {env : PEnv} {gs : List Ag} {as : List Sl} {j : Nat}, as.length = gs.length → (lents gs).Nodup → j < env.length → (backA env gs as)[j]? = (match posOf gs j with
    | some i => as[i]?
    | none => env[j]?)
  | env, [], as, j, _, _, _ => by cases as <;> rfl
  | env, .d x :: gs, [], j, h, _, _ => by cases h
  | env, .s i :: gs, [], j, h, _, _ => by cases h
  | env, .d x :: gs, a :: as, j, h, nd, hj => by
    show (backA env gs as)[j]? = _
    rw [backA_get (env := env) (gs := gs) (as := as) (j := j) (by simpa using h) nd hj]
    show _ = (match (posOf gs j).map (· + 1) with
      | some i => (a :: as)[i]?
      | none => env[j]?)
    cases posOf gs j with
    | none => rfl
    | some k => exact (List.getElem?_cons_succ).symm
  | env, .s n :: gs, a :: as, j, h, nd, hj => by
    show ((backA env gs as).set n a)[j]? = _
    by_cases e : n = j
    · subst e
      rw [List.getElem?_set_self (by rw [backA_length]; exact hj)]
      show _ = (match (if n = n then some 0 else (posOf gs n).map (· + 1)) with
        | some i => (a :: as)[i]?
        | none => env[n]?)
      rw [if_pos rfl]
      rfl
    · rw [List.getElem?_set_ne e, backA_get (env := env) (gs := gs) (as := as) (j := j) (by simpa using h) (List.nodup_cons.mp nd).2 hj]
      show _ = (match (if n = j then some 0 else (posOf gs j).map (· + 1)) with
        | some i => (a :: as)[i]?
        | none => env[j]?)
      rw [if_neg e]
      cases posOf gs j with
      | none => rfl
      | some k => exact (List.getElem?_cons_succ).symm
theorem lentIn_mem {fx : List Nat} : ∀ {gs : List Ag} {n i j : Nat}, lentIn fx n gs = true → gs[i]? = some (.s j) → n + i ∈ fx
  | .d x :: gs, n, 0, j, _, h => by cases h
  | .s k :: gs, n, 0, j, l, h => of_decide_eq_true (Bool.and_eq_true_iff.mp (show (decide (n ∈ fx) && lentIn fx (n + 1) gs) = true from l)).1
  | .d x :: gs, n, i + 1, j, l, h => by
    rw [List.getElem?_cons_succ] at h
    have := lentIn_mem (gs := gs) (n := n + 1) l h
    rwa [Nat.add_assoc, Nat.add_comm 1 i] at this
  | .s k :: gs, n, i + 1, j, l, h => by
    rw [List.getElem?_cons_succ] at h
    have := lentIn_mem (gs := gs) (n := n + 1) (Bool.and_eq_true_iff.mp (show (decide (n ∈ fx) && lentIn fx (n + 1) gs) = true from l)).2 h
    rwa [Nat.add_assoc, Nat.add_comm 1 i] at this
theorem paired_get {α β : Type} {R : α → β → Prop} : ∀ {xs : List α} {ys : List β} {i : Nat} {y : β}, Paired R xs ys → ys[i]? = some y → ∃ x, xs[i]? = some x ∧ R x y
  | _, _, 0, _, .cons h _, e => by cases e; exact ⟨_, rfl, h⟩
  | _, _, i + 1, _, .cons _ r, e => by
    rw [List.getElem?_cons_succ] at e
    obtain ⟨x, h1, h2⟩ := paired_get r e
    exact ⟨x, by rw [List.getElem?_cons_succ]; exact h1, h2⟩

variable {K : PySem.W.Frag} {E : Ent} {F H : Hp} {σ : L2.St} {env : PEnv} {As : Nat → List Addr} {vs : List V} {gs : List Ag}
/-- the addresses of the arguments -/
def asOf (As : Nat → List Addr) (gs : List Ag) : Nat → List Addr := fun i => match gs[i]? with
  | some (.s j) => As j
  | _ => []
theorem asOf_mem {i : Nat} {a : Addr} (h : a ∈ asOf As gs i) : ∃ j, gs[i]? = some (.s j) ∧ a ∈ As j := by
  unfold asOf at h
  split at h
  · exact ⟨_, by assumption, h⟩
  · cases h
theorem SR.lend {ts : L2.St} {fx : List Nat} (S : SR K E F H (σ ++ ts) env As) (P : Paired (AgOk F σ) vs gs) (nd : (lents gs).Nodup) (l : lentIn fx 0 gs = true) :
    (∀ i c, (argsOf env gs)[i]? = some (.m c) → i ∈ fx) ∧ SR K (entOf fx F H vs (asOf As gs)) F H (vs.map some) (argsOf env gs) (asOf As gs) := by
  have el : vs.length = gs.length := Paired.length P
  refine ⟨fun i c e => ?_, S.sub, Same.refl F, fun a h => .inl h, fun b o h _ => h, by rw [List.length_map]; unfold argsOf; rw [List.length_map, el], fun i s e => ?_, fun i h => ?_, fun i a h => ?_, fun i => ?_, fun i j a ne h1 h2 => ?_, fun i v e => ?_⟩
  · unfold argsOf at e
    rw [List.getElem?_map] at e
    obtain ⟨g, e1, e2⟩ := Option.map_eq_some_iff.mp e
    cases g with
    | d x => cases e2
    | s j =>
      have := lentIn_mem l e1
      rwa [Nat.zero_add] at this
  · unfold argsOf at e
    rw [List.getElem?_map] at e
    obtain ⟨g, e1, e2⟩ := Option.map_eq_some_iff.mp e
    obtain ⟨v, hv, r⟩ := paired_get P e1
    refine ⟨some v, by rw [List.getElem?_map, hv]; rfl, ?_⟩
    unfold asOf
    rw [e1]
    cases g with
    | d x =>
      subst e2
      exact ⟨v, rfl, r, rfl⟩
    | s j =>
      have hj : σ[j]? = some (some v) := r
      have hjl := (List.getElem?_eq_some_iff.mp hj).1
      have hje : j < env.length := by
        have := S.len
        rw [List.length_append] at this
        omega
      obtain ⟨x, h1, h2⟩ := S.slot j env[j] (List.getElem?_eq_getElem hje)
      rw [List.getElem?_append_left hjl, hj] at h1
      cases h1
      have e2' : env.getD j .un = s := e2
      rw [List.getD_eq_getElem?_getD, List.getElem?_eq_getElem hje] at e2'
      subst e2'
      exact h2
  · unfold asOf
    unfold argsOf at h
    rw [List.length_map] at h
    rw [List.getElem?_eq_none h]
  · obtain ⟨j, e, q⟩ := asOf_mem h
    exact ⟨(S.own j a q).1, .inl ⟨i, h⟩⟩
  · unfold asOf
    split
    · exact S.nd _
    · exact List.nodup_nil
  · obtain ⟨m, e1, q1⟩ := asOf_mem h1
    obtain ⟨n, e2, q2⟩ := asOf_mem h2
    by_cases z : m = n
    · subst z
      have p1 := posOf_of nd e1
      have p2 := posOf_of nd e2
      rw [p1] at p2
      exact ne (Option.some.inj p2)
    · exact S.disj m n a z q1 q2
  · have e' : (if i ∈ fx then vs[i]? else none) = some v := e
    split at e'
    · rw [List.getElem?_map, e']
      rfl
    · cases e'
/-- the lent slots come back -/
def asBack (As As' : Nat → List Addr) (gs : List Ag) : Nat → List Addr := fun j => match posOf gs j with
  | some i => As' i
  | none => As j
theorem asBack_mem {As' : Nat → List Addr} {j : Nat} {a : Addr} (h : a ∈ asBack As As' gs j) : (∃ i, posOf gs j = some i ∧ a ∈ As' i) ∨ (posOf gs j = none ∧ a ∈ As j) := by
  unfold asBack at h
  split at h
  · exact .inl ⟨_, by assumption, h⟩
  · exact .inr ⟨by assumption, h⟩
theorem SR.back {ts : L2.St} {fx : List Nat} {F' H' : Hp} {args' : List Sl} {As' : Nat → List Addr} {v : V} {r : Sl} {ar : List Addr} (S : SR K E F H (σ ++ ts) env As) (P : Paired (AgOk F σ) vs gs) (nd : (lents gs).Nodup)
    (S' : SR K (entOf fx F H vs (asOf As gs)) F' H' (vs.map some) args' As') (R : RsOk K (entOf fx F H vs (asOf As gs)) F' H' As' v r ar) :
    SR K E F' H' (σ ++ ts) (backA env gs args') (asBack As As' gs) ∧ RsOk K E F' H' (asBack As As' gs) v r ar := by
  have el : vs.length = gs.length := Paired.length P
  have al : args'.length = gs.length := by
    have := S'.len
    rw [List.length_map] at this
    omega
  have lentAt : ∀ {j i : Nat}, posOf gs j = some i → j < env.length := fun {j i} e => by
    obtain ⟨v, hv, q⟩ := paired_get P (posOf_some e)
    have q' : σ[j]? = some (some v) := q
    have := (List.getElem?_eq_some_iff.mp q').1
    have l := S.len
    rw [List.length_append] at l
    omega
  -- what the callee owned was lent here, or is new
  have owned : ∀ {a : Addr}, (∃ i, a ∈ asOf As gs i) ∨ H a = none → E.B a ∨ E.H0 a = none := fun {a} h => by
    rcases h with ⟨i, h⟩ | h
    · obtain ⟨j, _, q⟩ := asOf_mem h
      exact (S.own j a q).2
    · exact (S.free h).symm
  have ff : Same F F' := S'.f0
  -- a slot that was not lent stands as it stood
  have stands : ∀ {j : Nat} {a : Addr}, posOf gs j = none → a ∈ As j → ¬ (∃ i, a ∈ asOf As gs i) := fun {j a} e h ⟨i, q⟩ => by
    obtain ⟨k, e2, q2⟩ := asOf_mem q
    have ne : k ≠ j := fun z => by
      subst z
      rw [posOf_of nd e2] at e
      cases e
    exact S.disj k j a ne q2 h
  have apart : ∀ {a : Addr}, (∃ i, a ∈ asOf As gs i) ∨ H a = none → ∀ {j : Nat}, posOf gs j = none → a ∉ As j := fun {a} h {j} e q => by
    rcases h with h | h
    · exact stands e q h
    · exact S.live j a q h
  have off : ∀ {j : Nat} {a : Addr}, posOf gs j = none → a ∈ As j → F' a = none ∧ H' a = H a := fun {j a} e h => by
    have nb := stands e h
    refine ⟨?_, ?_⟩
    · cases q : F' a with
      | none => rfl
      | some o =>
        rcases S'.grow a (some_ne q) with z | z | z | z
        · exact absurd (S.own j a h).1 z
        · exact absurd z (S.live j a h)
        · exact absurd z nb
        · exact absurd z (S.ntp j a h)
    · cases q : H a with
      | none => exact absurd q (S.live j a h)
      | some o => exact S'.keep a o q nb
  refine ⟨⟨S'.sub, S.f0.trans ff, fun a h => ?_, fun b o e n => ?_, by rw [backA_length]; exact S.len, fun j s e => ?_, fun j h => ?_, fun j a h => ?_, fun j => ?_, fun i j a ne h1 h2 => ?_, S.fix⟩, R.1, R.2.1, fun a ha => ⟨(R.2.2.1 a ha).1, owned (R.2.2.1 a ha).2⟩, fun j a ha q => ?_⟩
  · rcases S'.grow a h with z | z | z | z
    · exact S.grow a z
    · exact .inr (S.free' z)
    · exact .inr ((owned (.inl z)).elim (fun y => .inr (.inl y)) .inl)
    · exact .inr (S.tp z)
  · have z := S.keep b o e n
    refine S'.keep b o z fun q => ?_
    rcases owned (.inl q) with y | y
    · exact n y
    · rw [y] at e
      cases e
  · have hj : j < env.length := by
      have := (List.getElem?_eq_some_iff.mp e).1
      rw [backA_length] at this
      exact this
    rw [backA_get al nd hj] at e
    show ∃ x, (σ ++ ts)[j]? = some x ∧ SlOk K F' H' x s (asBack As As' gs j)
    unfold asBack
    cases q : posOf gs j with
    | none =>
      rw [q] at e
      obtain ⟨x, h1, h2⟩ := S.slot j s e
      exact ⟨x, h1, h2.to ff fun a ha => (off q ha).2⟩
    | some i =>
      rw [q] at e
      obtain ⟨w, hw, rw'⟩ := paired_get P (posOf_some q)
      have hσ : σ[j]? = some (some w) := rw'
      obtain ⟨x, h1, h2⟩ := S'.slot i s e
      rw [List.getElem?_map, hw] at h1
      cases h1
      exact ⟨some w, by rw [List.getElem?_append_left (List.getElem?_eq_some_iff.mp hσ).1]; exact hσ, h2⟩
  · rw [backA_length] at h
    unfold asBack
    cases q : posOf gs j with
    | none => exact S.out j h
    | some i => exact absurd (lentAt q) (by omega)
  · rcases asBack_mem h with ⟨i, e, q⟩ | ⟨e, q⟩
    · exact ⟨(S'.own i a q).1, owned (S'.own i a q).2⟩
    · exact ⟨(off e q).1, (S.own j a q).2⟩
  · unfold asBack
    cases q : posOf gs j with
    | none => exact S.nd j
    | some i => exact S'.nd i
  · rcases asBack_mem h1 with ⟨m, e1, q1⟩ | ⟨e1, q1⟩
    · rcases asBack_mem h2 with ⟨n, e2, q2⟩ | ⟨e2, q2⟩
      · by_cases z : m = n
        · subst z
          have p1 := posOf_some e1
          rw [posOf_some e2] at p1
          cases p1
          exact ne rfl
        · exact S'.disj m n a z q1 q2
      · exact apart (S'.own m a q1).2 e2 q2
    · rcases asBack_mem h2 with ⟨n, e2, q2⟩ | ⟨e2, q2⟩
      · exact apart (S'.own n a q2).2 e1 q1
      · exact S.disj i j a ne q1 q2
  · rcases asBack_mem q with ⟨i, e, q⟩ | ⟨e, q⟩
    · exact R.2.2.2 i a ha q
    · exact apart (R.2.2.1 a ha).2 e q
end
/-- a promise of data is what a call wants -/
theorem le_call {K : PySem.W.Frag} {E : Ent} {n : Nat} {fx : List Nat} {sp : SpP} {pa : PAs} {E0 : XK} :
    Le (liftO K E (pCall n fx sp pa)) (fun σ H Q => liftA K E pa σ H fun vs H1 => liftSp K n fx sp vs H1 Q E0) :=
  fun σ H Q ⟨ts, F, env, As, Q', S, f, p, k⟩ => ⟨ts, F, env, As, _, S, f, p, fun vs gs F1 H1 env1 As1 S1 f1 P ⟨hl, ⟨l, nd⟩, q⟩ => by
    obtain ⟨hm, SL⟩ := S1.lend P nd l
    refine ⟨by rw [Paired.length P]; exact hl, F1, _, _, _, hm, SL, q, fun v r ar F' H' args' As' S' R q' => ?_⟩
    obtain ⟨SB, RB⟩ := S1.back P nd S' R
    exact k v r ar F' H' _ _ SB (f1.trans S'.f0) RB q'⟩
end PL

namespace PL
open PySem PySem.Spec PyProof.Rows L2

/-! ### 14. calls as expressions -/
def perm {α : Type} (ix : List Nat) (l : List α) : List α := ix.filterMap fun i => l[i]?
theorem paired_perm {α β : Type} {R : α → β → Prop} {xs : List α} {ys : List β} (P : Paired R xs ys) : ∀ ix : List Nat, Paired R (perm ix xs) (perm ix ys)
  | [] => .nil
  | i :: ix => by
    have l := Paired.length P
    have ih := paired_perm P ix
    unfold perm at ih ⊢
    rw [List.filterMap_cons, List.filterMap_cons]
    cases e : ys[i]? with
    | none =>
      rw [List.getElem?_eq_none (by rw [l]; exact List.getElem?_eq_none_iff.mp e)]
      exact ih
    | some y =>
      obtain ⟨x, h1, h2⟩ := paired_get P e
      rw [h1]
      exact .cons h2 ih
section
variable {X : Cx} {CX : CXT} {k : Nat} {f : Addr} {fd : FuncData} {ps ks : List Str} {sp : Sp} {E0 : XK} {x : Str} {p pos : Pos} {e : Expr} {es : List Expr} {kws : List Keyword} {t tk : TA}
theorem run_g {pins : List (Addr × Obj)} {σ : L2.St} {H : Hp} {s : Shared} {Q : VK} {args : Args} {us : List Value} {vs : List V} (G : FnG X.prog X.w X.K X.mg X.base CX k f fd ps sp) (hr : Room k X.A) (hg : X.A.guards = some []) (hx : Passes CX X E0)
    (I : Inv X pins σ H s) (r : Vals vs us) (hb : us.length = ps.length → BindsTo s fd args (ps.zip us)) (h : sp vs H Q E0) : wpAny (model X.prog X.w) X.A (call (.ref f) args.pos args.kw) (EP X pins σ Q) X.xe s := by
  have hl : us.length = ps.length := by rw [← r.length]; exact G.len _ _ _ _ h
  refine wpAny_call (codeAny_mono (G.run X.A X.stack s H args us vs Q E0 hr hg I.env0 (hb hl) r h) fun r s' hq => ?_)
  cases r with
  | error e => exact hx pins σ H s e s' I hq
  | ok fl =>
    cases fl with
    | ret u => exact I.after hq
    | next => exact False.elim hq
    | brk => exact False.elim hq
    | cont => exact False.elim hq
/-- f(e, ..) -/
theorem pe_callG (G : FnG X.prog X.w X.K X.mg X.base CX k f fd ps sp) (hr : Room k X.A) (hg : X.A.guards = some []) (hgl : Gl X x) (hm : X.mg x = some (.ref f)) (hk : PySem.W.keepIn X.K (.ref f) = true) (hb : Binds X.K fd ps []) (hx : Passes CX X E0)
    (ha : PA X (e :: es) t) (hdb : (x == ("__debug__" : Str)) = false := by decide) (he : starEach (e :: es) X.env = (false, eval e X.env) :: starEach es X.env := by rfl) (hpl : (backTo pos (starEach es X.env)).any (·.1) = false := by rfl) :
    PE X (.Call (.Name x p) (e :: es) [] pos) (fun σ H Q => t σ H fun vs H1 => sp vs H1 Q E0) := by
  refine ⟨fun pins s σ H Q I h => ?_⟩
  refine wpAny_Call_Name_kw (ld_glob I hgl hm ?_ hdb)
  refine PySem.W.callWith_K (h₀ := X.base) I.ok.mod.kin hk (thn (ha.run pos pins s σ H _ I h) fun us s1 ⟨vs, H1, I1, r, q⟩ => ⟨I1.kIn, ?_⟩) he hpl
  exact run_g (args := ⟨us, []⟩) G hr hg hx I1 r (fun hl => by
    have z := hb s1 us I1.kIn (by rw [List.append_nil]; exact hl)
    rw [List.append_nil] at z
    exact z) q
/-- f() -/
theorem pe_callG0 (G : FnG X.prog X.w X.K X.mg X.base CX k f fd ps sp) (hr : Room k X.A) (hg : X.A.guards = some []) (hgl : Gl X x) (hm : X.mg x = some (.ref f)) (hk : PySem.W.keepIn X.K (.ref f) = true) (hb : Binds X.K fd ps []) (hx : Passes CX X E0)
    (hdb : (x == ("__debug__" : Str)) = false := by decide) : PE X (.Call (.Name x p) [] [] pos) (fun σ H Q => sp [] H Q E0) := by
  refine ⟨fun pins s σ H Q I h => ?_⟩
  refine wpAny_Call_Name_kw (ld_glob I hgl hm ?_ hdb)
  exact PySem.W.callWith_K0 I.kIn hk (run_g (args := ⟨[], []⟩) (us := []) G hr hg hx I .nil (fun hl => by
    have z := hb s [] I.kIn (by rw [List.append_nil]; exact hl)
    rw [List.append_nil] at z
    exact z) h)
/-- how keywords bind: the values in the parameters' order by their places -/
def KBi (K : PySem.W.Frag) (fd : FuncData) (ps ks : List Str) (np : Nat) (ix : List Nat) : Prop := ∀ (s : Shared) (us ws : List Value), K.In s.heap → us.length = np → ws.length = ks.length → BindsTo s fd ⟨us, ks.zip ws⟩ (ps.zip (perm ix (us ++ ws)))
variable {ix : List Nat} {np : Nat}
/-- f(k = e, ..) -/
theorem pe_callGK (G : FnG X.prog X.w X.K X.mg X.base CX k f fd ps sp) (hr : Room k X.A) (hg : X.A.guards = some []) (hgl : Gl X x) (hm : X.mg x = some (.ref f)) (hk : PySem.W.keepIn X.K (.ref f) = true) (hb : KBi X.K fd ps ks 0 ix) (hx : Passes CX X E0)
    (hkw : PK X kws tk) (hall : (backToKw pos (keywordEach kws X.env)).all (·.1.isSome) = true := by rfl) (hks : (backToKw pos (keywordEach kws X.env)).filterMap (·.1) = ks := by rfl)
    (hdb : (x == ("__debug__" : Str)) = false := by decide) (hpl : ((backTo pos (starEach [] X.env)).any (·.1) || (backToKw pos (keywordEach kws X.env)).any (·.1.isNone)) = false := by rfl) :
    PE X (.Call (.Name x p) [] kws pos) (fun σ H Q => tk σ H fun zs H2 => zs.length = ks.length ∧ sp (perm ix zs) H2 Q E0) := by
  refine ⟨fun pins s σ H Q I h => ?_⟩
  refine wpAny_Call_Name_kw (ld_glob I hgl hm ?_ hdb)
  refine PySem.W.callWith_KW0 (h₀ := X.base) I.ok.mod.kin hk hall ?_ hpl
  refine thn (hkw.run pos pins s σ H _ I h) fun ws s2 ⟨zs, H2, I2, rz, lz, q2⟩ => ⟨I2.kIn, ?_⟩
  rw [hks]
  exact run_g (args := ⟨[], ks.zip ws⟩) (us := perm ix ws) G hr hg hx I2 (paired_perm rz ix) (fun hl => hb s2 [] ws I2.kIn rfl (by rw [← rz.length]; exact lz)) q2
/-- f(e, .., k = e, ..) -/
theorem pe_callGM (G : FnG X.prog X.w X.K X.mg X.base CX k f fd ps sp) (hr : Room k X.A) (hg : X.A.guards = some []) (hgl : Gl X x) (hm : X.mg x = some (.ref f)) (hk : PySem.W.keepIn X.K (.ref f) = true) (hb : KBi X.K fd ps ks np ix) (hx : Passes CX X E0)
    (ha : PA X (e :: es) t) (hkw : PK X kws tk) (hall : (backToKw pos (keywordEach kws X.env)).all (·.1.isSome) = true := by rfl) (hks : (backToKw pos (keywordEach kws X.env)).filterMap (·.1) = ks := by rfl)
    (hdb : (x == ("__debug__" : Str)) = false := by decide) (he : starEach (e :: es) X.env = (false, eval e X.env) :: starEach es X.env := by rfl)
    (hpl : ((backTo pos (starEach (e :: es) X.env)).any (·.1) || (backToKw pos (keywordEach kws X.env)).any (·.1.isNone)) = false := by rfl) :
    PE X (.Call (.Name x p) (e :: es) kws pos) (fun σ H Q => t σ H fun vs H1 => tk σ H1 fun zs H2 => (vs.length = np ∧ zs.length = ks.length) ∧ sp (perm ix (vs ++ zs)) H2 Q E0) := by
  refine ⟨fun pins s σ H Q I h => ?_⟩
  refine wpAny_Call_Name_kw (ld_glob I hgl hm ?_ hdb)
  refine PySem.W.callWith_KW (h₀ := X.base) I.ok.mod.kin hk hall (thn (ha.run pos pins s σ H _ I h) fun us s1 ⟨vs, H1, I1, r, q⟩ => ?_) hpl he
  refine thn (hkw.run pos pins s1 σ H1 _ I1 q) fun ws s2 ⟨zs, H2, I2, rz, lz, q2⟩ => ⟨I2.kIn, ?_⟩
  rw [hks]
  exact run_g (args := ⟨us, ks.zip ws⟩) (us := perm ix (us ++ ws)) G hr hg hx I2 (paired_perm (r.append rz) ix) (fun hl => hb s2 us ws I2.kIn (by rw [← r.length]; exact lz.1) (by rw [← rz.length]; exact lz.2)) q2
end
section
variable {X : Cx} {E : Ent} {k n : Nat} {f : Addr} {fd : FuncData} {ps ks : List Str} {fx : List Nat} {sp : SpP} {x : Str} {p pos : Pos} {e : Expr} {es : List Expr} {kws : List Keyword} {pa pk : PAs} {ix : List Nat} {np m : Nat}
theorem l_call (G : FnG X.prog X.w X.K X.mg X.base CX0 k f fd ps (liftSp X.K n fx sp)) (hr : Room k X.A) (hg : X.A.guards = some []) (hgl : Gl X x) (hm : X.mg x = some (.ref f)) (hk : PySem.W.keepIn X.K (.ref f) = true) (hb : Binds X.K fd ps [])
    (ha : PA X (e :: es) (liftA X.K E pa)) (hdb : (x == ("__debug__" : Str)) = false := by decide) (he : starEach (e :: es) X.env = (false, eval e X.env) :: starEach es X.env := by rfl) (hpl : (backTo pos (starEach es X.env)).any (·.1) = false := by rfl) :
    PE X (.Call (.Name x p) (e :: es) [] pos) (liftO X.K E (pCall n fx sp pa)) := pe_w (pe_callG (E0 := E0) G hr hg hgl hm hk hb pass0 ha hdb he hpl) le_call
theorem l_call0 (G : FnG X.prog X.w X.K X.mg X.base CX0 k f fd ps (liftSp X.K n fx sp)) (hr : Room k X.A) (hg : X.A.guards = some []) (hgl : Gl X x) (hm : X.mg x = some (.ref f)) (hk : PySem.W.keepIn X.K (.ref f) = true) (hb : Binds X.K fd ps [])
    (hdb : (x == ("__debug__" : Str)) = false := by decide) : PE X (.Call (.Name x p) [] [] pos) (liftO X.K E (pCall n fx sp pANil)) := by
  refine pe_w (pe_callG0 (E0 := E0) G hr hg hgl hm hk hb pass0 hdb) fun σ H Q q => ?_
  obtain ⟨ts, F, env, As, Q', S, fix, q, k⟩ := le_call (E0 := E0) σ H Q q
  exact k [] [] F H env As S (Same.refl F) .nil q
/-- arguments one list behind the other, then put in order -/
def pPerm (ix : List Nat) (pa pk : PAs) : PAs := fun env Q => pa env fun gs env1 => pk env1 fun hs env2 => Q (perm ix (gs ++ hs)) env2
def pKeep (m : Nat) (pa : PAs) : PAs := fun env Q => pa env fun gs env1 => gs.length = m ∧ Q gs env1
theorem lk_nil : PK X [] (liftA X.K E pANil) := ⟨fun ps pins s σ H Q I h => pk_nil.run ps pins s σ H Q I (by
  obtain ⟨ts, F, env, As, Q', S, fx, p, k⟩ := h
  exact k [] [] F H env As S (Same.refl F) .nil p)⟩
theorem lk_cons {nm : Option Str} {kpos : Pos} {px : PX} {pr : PAs} (ha : PE X e (liftE X.K E px)) (hr : PK X kws (liftA X.K E pr)) : PK X (⟨nm, e, kpos⟩ :: kws) (liftA X.K E (pACons px pr)) := ⟨fun ps pins s σ H Q I h => (pk_cons ha hr).run ps pins s σ H Q I (by
  obtain ⟨ts, F, env, As, Q', S, fx, p, k⟩ := h
  exact ⟨ts, F, env, As, _, S, fx, p, fun v d F1 H1 env1 As1 S1 f1 h1 q1 =>
    ⟨ts, F1, env1, As1, _, S1, fx, q1, fun vs gs F2 H2 env2 As2 S2 f2 h2 q2 => k (v :: vs) (.d d :: gs) F2 H2 env2 As2 S2 (f1.trans f2) (.cons (show Fp F2 v d from h1.to f2) h2) q2⟩⟩)⟩
theorem lk_lend (i : Nat) {nm : Option Str} {kpos px : Pos} {y : Str} {pr : PAs} (h : PE X (.Name y px) (tVar i)) (hN : i < X.N.length) (hr : PK X kws (liftA X.K E pr)) : PK X (⟨nm, .Name y px, kpos⟩ :: kws) (liftA X.K E (pALend i pr)) := ⟨fun ps pins s σ H Q I q => (pk_cons h hr).run ps pins s σ H Q I (by
  obtain ⟨ts, F, env, As, Q', S, fx, ⟨⟨c, ec⟩, p⟩, k⟩ := q
  have hi : i < σ.length := by rw [I.len]; exact hN
  obtain ⟨x', h1, v, e1, h2⟩ := S.slot i _ ec
  subst e1
  have h1' := app_get hi h1
  exact ⟨v, h1', ts, F, env, As, _, S, fx, p, fun vs gs F2 H2 env2 As2 S2 f2 h2 q2 => k (v :: vs) (.s i :: gs) F2 H2 env2 As2 S2 f2 (.cons h1' h2) q2⟩)⟩
theorem l_callK (G : FnG X.prog X.w X.K X.mg X.base CX0 k f fd ps (liftSp X.K n fx sp)) (hr : Room k X.A) (hg : X.A.guards = some []) (hgl : Gl X x) (hm : X.mg x = some (.ref f)) (hk : PySem.W.keepIn X.K (.ref f) = true) (hb : KBi X.K fd ps ks 0 ix)
    (hkw : PK X kws (liftA X.K E pk)) (hall : (backToKw pos (keywordEach kws X.env)).all (·.1.isSome) = true := by rfl) (hks : (backToKw pos (keywordEach kws X.env)).filterMap (·.1) = ks := by rfl)
    (hdb : (x == ("__debug__" : Str)) = false := by decide) (hpl : ((backTo pos (starEach [] X.env)).any (·.1) || (backToKw pos (keywordEach kws X.env)).any (·.1.isNone)) = false := by rfl) (hm2 : ks.length = m := by rfl) :
    PE X (.Call (.Name x p) [] kws pos) (liftO X.K E (pCall n fx sp (pPerm ix pANil (pKeep m pk)))) := by
  subst hm2
  refine pe_w (pe_callGK (E0 := E0) G hr hg hgl hm hk hb pass0 hkw hall hks hdb hpl) fun σ H Q q => ?_
  obtain ⟨ts, F, env, As, Q', S, fix, q, k⟩ := q
  refine ⟨ts, F, env, As, _, S, fix, q, fun zs gs F1 H1 env1 As1 S1 f1 P ⟨hl, hl2, ⟨l, nd⟩, q⟩ => ⟨by rw [Paired.length P]; exact hl, ?_⟩⟩
  have P2 := paired_perm P ix
  obtain ⟨hm, SL⟩ := S1.lend P2 nd l
  refine ⟨by rw [Paired.length P2]; exact hl2, F1, _, _, _, hm, SL, q, fun v r ar F' H' args' As' S' R q' => ?_⟩
  obtain ⟨SB, RB⟩ := S1.back P2 nd S' R
  exact k v r ar F' H' _ _ SB (f1.trans S'.f0) RB q'
theorem l_callM (G : FnG X.prog X.w X.K X.mg X.base CX0 k f fd ps (liftSp X.K n fx sp)) (hr : Room k X.A) (hg : X.A.guards = some []) (hgl : Gl X x) (hm : X.mg x = some (.ref f)) (hk : PySem.W.keepIn X.K (.ref f) = true) (hb : KBi X.K fd ps ks np ix)
    (ha : PA X (e :: es) (liftA X.K E pa)) (hkw : PK X kws (liftA X.K E pk)) (hall : (backToKw pos (keywordEach kws X.env)).all (·.1.isSome) = true := by rfl) (hks : (backToKw pos (keywordEach kws X.env)).filterMap (·.1) = ks := by rfl)
    (hdb : (x == ("__debug__" : Str)) = false := by decide) (he : starEach (e :: es) X.env = (false, eval e X.env) :: starEach es X.env := by rfl)
    (hpl : ((backTo pos (starEach (e :: es) X.env)).any (·.1) || (backToKw pos (keywordEach kws X.env)).any (·.1.isNone)) = false := by rfl) (hm2 : ks.length = m := by rfl) :
    PE X (.Call (.Name x p) (e :: es) kws pos) (liftO X.K E (pCall n fx sp (pPerm ix (pKeep np pa) (pKeep m pk)))) := by
  subst hm2
  refine pe_w (pe_callGM (E0 := E0) G hr hg hgl hm hk hb pass0 ha hkw hall hks hdb he hpl) fun σ H Q q => ?_
  obtain ⟨ts, F, env, As, Q', S, fix, q, k⟩ := q
  refine ⟨ts, F, env, As, _, S, fix, q, fun vs gs F0 H0 env0 As0 S0 f0 P0 ⟨hl0, q⟩ => ⟨ts, F0, env0, As0, _, S0, fix, q, fun zs hs F1 H1 env1 As1 S1 f1 P ⟨hl, hl2, ⟨l, nd⟩, q⟩ => ⟨⟨by rw [Paired.length P0]; exact hl0, by rw [Paired.length P]; exact hl⟩, ?_⟩⟩⟩
  have P2 := paired_perm (paired_app (AgOk.to f1 P0) P) ix
  obtain ⟨hm, SL⟩ := S1.lend P2 nd l
  refine ⟨by rw [Paired.length P2]; exact hl2, F1, _, _, _, hm, SL, q, fun v r ar F' H' args' As' S' R q' => ?_⟩
  obtain ⟨SB, RB⟩ := S1.back P2 nd S' R
  exact k v r ar F' H' _ _ SB ((f0.trans f1).trans S'.f0) RB q'
end
end PL

namespace PL
open PySem PySem.Spec PyProof.Rows L2

/-! ### 15. a part run as of a new entry: what nobody owns stands -/
def reE (E : Ent) (F H : Hp) (As : Nat → List Addr) : Ent := ⟨F, H, fun a => ∃ i, a ∈ As i, E.fix⟩
section
variable {K : PySem.W.Frag} {E : Ent} {F H F' H' : Hp} {σ σ' : L2.St} {env env' : PEnv} {As As' : Nat → List Addr}
theorem SR.re (S : SR K E F H σ env As) : SR K (reE E F H As) F H σ env As :=
  ⟨S.sub, Same.refl F, fun a h => .inl h, fun b o h _ => h, S.len, S.slot, S.out, fun i a h => ⟨(S.own i a h).1, .inl ⟨i, h⟩⟩, S.nd, S.disj, S.fix⟩
theorem SR.own' (S : SR K E F H σ env As) {a : Addr} (h : (∃ i, a ∈ As i) ∨ H a = none) : E.B a ∨ E.H0 a = none := by
  rcases h with ⟨i, h⟩ | h
  · exact (S.own i a h).2
  · exact (S.free h).symm
theorem SR.unre (S : SR K E F H σ env As) (S' : SR K (reE E F H As) F' H' σ' env' As') : SR K E F' H' σ' env' As' :=
  ⟨S'.sub, S.f0.trans S'.f0, fun a h => by
    rcases S'.grow a h with z | z | z | z
    · exact S.grow a z
    · exact .inr (S.free' z)
    · exact .inr ((S.own' (.inl z)).elim (fun y => .inr (.inl y)) .inl)
    · exact .inr (S.tp z), fun b o e n => S'.keep b o (S.keep b o e n) fun z => (S.own' (.inl z)).elim n (fun q => some_ne e q), S'.len, S'.slot, S'.out, fun i a h => ⟨(S'.own i a h).1, S.own' (S'.own i a h).2⟩, S'.nd, S'.disj, S'.fix⟩
theorem RsOk.unre {v : V} {r : Sl} {ar : List Addr} (S : SR K E F H σ env As) (R : RsOk K (reE E F H As) F' H' As' v r ar) : RsOk K E F' H' As' v r ar :=
  ⟨R.1, R.2.1, fun a ha => ⟨(R.2.2.1 a ha).1, S.own' (R.2.2.1 a ha).2⟩, R.2.2.2⟩
theorem SR.held (S' : SR K (reE E F H As) F' H' σ' env' As') {a : Addr} (h : H a ≠ none) (t : ¬ IsTp H a) (n : ∀ i, a ∉ As i) : H' a = H a ∧ (F a = none → F' a = none) := by
  have nb : ¬ ∃ i, a ∈ As i := fun ⟨i, q⟩ => n i q
  refine ⟨?_, fun e => ?_⟩
  · cases q : H a with
    | none => exact absurd q h
    | some o => exact S'.keep a o q nb
  · cases q : F' a with
    | none => rfl
    | some o =>
      rcases S'.grow a (some_ne q) with z | z | z | z
      · exact absurd e z
      · exact absurd z h
      · exact absurd z nb
      · exact absurd z t
theorem FixIn.re (f : FixIn E σ) : FixIn (reE E F H As) σ := f
end

/-! ### 16. several results held at once -/
inductive RsAll (K : PySem.W.Frag) (F H : Hp) : List V → List Sl → List Addr → Prop
  | nil : RsAll K F H [] [] []
  | cons {v : V} {r : Sl} {ar br : List Addr} {vs : List V} {rs : List Sl} : SlOk K F H (some v) r ar → RsAll K F H vs rs br → RsAll K F H (v :: vs) (r :: rs) (ar ++ br)
abbrev POs := PEnv → (List Sl → PEnv → Prop) → Prop
def AllOk (K : PySem.W.Frag) (E : Ent) (F H : Hp) (As : Nat → List Addr) (vs : List V) (rs : List Sl) (ar : List Addr) : Prop :=
  RsAll K F H vs rs ar ∧ ar.Nodup ∧ (∀ a ∈ ar, F a = none ∧ (E.B a ∨ E.H0 a = none)) ∧ ∀ i, ∀ a ∈ ar, a ∉ As i
def KAO (K : PySem.W.Frag) (E : Ent) (σ ts : L2.St) (F : Hp) (Q : List V → Hp → Prop) (Q' : List Sl → PEnv → Prop) : Prop := ∀ vs rs ar F' H' env' As', SR K E F' H' (σ ++ ts) env' As' → Same F F' → AllOk K E F' H' As' vs rs ar → Q' rs env' → Q vs H'
def liftAO (K : PySem.W.Frag) (E : Ent) (p : POs) : TA := fun σ H Q => ∃ ts F env As Q', SR K E F H (σ ++ ts) env As ∧ FixIn E σ ∧ p env Q' ∧ KAO K E σ ts F Q Q'
def pONil : POs := fun env Q => Q [] env
def pOCons (pa : PO) (pr : POs) : POs := fun env Q => pa env fun r env1 => pr env1 fun rs env2 => Q (r :: rs) env2
section
variable {X : Cx} {E : Ent} {e : Expr} {es : List Expr} {pa : PO} {pr : POs} {pos : Pos}
theorem lo_nil : PA X [] (liftAO X.K E pONil) := pa_w pa_nil fun σ H Q ⟨ts, F, env, As, Q', S, fx, p, k⟩ => k [] [] [] F H env As S (Same.refl F) ⟨.nil, List.nodup_nil, fun a ha => absurd ha (by simp), fun i a ha => absurd ha (by simp)⟩ p
theorem RsAll.live {K : PySem.W.Frag} {F H : Hp} : ∀ {vs : List V} {rs : List Sl} {ar : List Addr}, RsAll K F H vs rs ar → ∀ a ∈ ar, H a ≠ none
  | _, _, _, .nil => fun a ha => absurd ha (by simp)
  | _, _, _, .cons h r => fun a ha => (List.mem_append.mp ha).elim (h.live a) (RsAll.live r a)
theorem lo_cons (ha : PE X e (liftO X.K E pa)) (hr : ∀ E' : Ent, E'.fix = E.fix → PA X es (liftAO X.K E' pr)) (hs : starEach (e :: es) X.env = (false, eval e X.env) :: starEach es X.env := by rfl) : PA X (e :: es) (liftAO X.K E (pOCons pa pr)) := by
  refine ⟨fun ps pins s σ H Q I h => ?_⟩
  rw [hs]
  show wpAny _ _ (spliced ((false, eval e X.env) :: backTo ps (starEach es X.env))) _ _ s
  obtain ⟨ts, F, env, As, Q', S, fx, p, k⟩ := h
  refine Calls.spliced_cons (thn (ha.run pins s σ H _ I ⟨ts, F, env, As, _, S, fx, p, fun v r ar F1 H1 env1 As1 S1 f1 R q => (show (fun v H1 => ∃ r ar F1 env1 As1, SR X.K E F1 H1 (σ ++ ts) env1 As1 ∧ Same F F1 ∧ RsOk X.K E F1 H1 As1 v r ar ∧ pr env1 fun rs env2 => Q' (r :: rs) env2) v H1 from ⟨r, ar, F1, env1, As1, S1, f1, R, q⟩)⟩) fun u s1 ⟨x, H1, I1, r1, r, ar, F1, env1, As1, S1, f1, R, q⟩ => ?_)
  refine thn ((hr (reE E F1 H1 As1) rfl).run ps pins s1 σ H1 (fun vs H' => Q (x :: vs) H') I1 ⟨ts, F1, env1, As1, _, S1.re, fx, q, fun vs rs br F2 H2 env2 As2 S2 f2 A q2 => ?_⟩) fun us s2 ⟨xs, H2, I2, r2, q2⟩ => ⟨x :: xs, H2, I2, .cons r1 r2, q2⟩
  have hd : ∀ a ∈ ar, H2 a = H1 a ∧ (F1 a = none → F2 a = none) := fun a ha => S2.held (R.1.live a ha) (R.1.ntp a ha) fun i => R.2.2.2 i a ha
  have ap : ∀ a, ((∃ i, a ∈ As1 i) ∨ H1 a = none) → a ∉ ar := fun a h ha => by
    rcases h with ⟨i, h⟩ | h
    · exact R.2.2.2 i a ha h
    · exact R.1.live a ha h
  refine k (x :: vs) (r :: rs) (ar ++ br) F2 H2 env2 As2 (S1.unre S2) (f1.trans f2) ⟨.cons (R.1.to f2 fun a ha => (hd a ha).1) A.1, ?_, fun a ha => ?_, fun i a ha z => ?_⟩ q2
  · refine List.nodup_append.mpr ⟨R.2.1, A.2.1, fun a ha b hb z => ?_⟩
    subst z
    exact ap a (A.2.2.1 a hb).2 ha
  · rcases List.mem_append.mp ha with ha | ha
    · exact ⟨(hd a ha).2 (R.2.2.1 a ha).1, (R.2.2.1 a ha).2⟩
    · exact ⟨(A.2.2.1 a ha).1, S1.own' (A.2.2.1 a ha).2⟩
  · rcases List.mem_append.mp ha with ha | ha
    · exact ap a (S2.own i a z).2 ha
    · exact A.2.2.2 i a ha z
/-- results into slots, one after the other -/
def setAll (env : PEnv) : List Nat → List Sl → PEnv
  | i :: is, r :: rs => setAll (env.set i r) is rs
  | _, _ => env
def setV (σ : L2.St) : List Nat → List V → L2.St
  | i :: is, v :: vs => setV (σ.set i (some v)) is vs
  | _, _ => σ
theorem setV_length : ∀ (σ : L2.St) (is : List Nat) (vs : List V), (setV σ is vs).length = σ.length
  | σ, [], _ => by unfold setV; rfl
  | σ, i :: is, [] => by unfold setV; rfl
  | σ, i :: is, v :: vs => by
    show (setV (σ.set i (some v)) is vs).length = _
    rw [setV_length, List.length_set]
theorem SR.setAll {K : PySem.W.Frag} {F H : Hp} : ∀ {is : List Nat} {vs : List V} {rs : List Sl} {ar : List Addr} {σ : L2.St} {env : PEnv} {As : Nat → List Addr}, SR K E F H σ env As → AllOk K E F H As vs rs ar → (∀ i ∈ is, i < env.length ∧ E.fix i = none) → is.length = rs.length →
    ∃ As', SR K E F H (setV σ is vs) (setAll env is rs) As'
  | [], _, _, _, σ, env, As, S, A, _, hl => by
    cases A.1 with
    | nil => exact ⟨As, S⟩
    | cons _ _ => cases hl
  | i :: is, _, _, _, σ, env, As, S, A, hi, hl => by
    obtain ⟨h, nd, ow, dj⟩ := A
    cases h with
    | nil => cases hl
    | @cons v r ar br vs rs h1 h2 =>
      have hi0 := hi i List.mem_cons_self
      have nd2 := List.nodup_append.mp nd
      have S2 := S.set (v := v) (r := r) (ar := ar) ⟨h1, nd2.1, fun a ha => ow a (List.mem_append_left _ ha), fun j a ha => dj j a (List.mem_append_left _ ha)⟩ hi0.1 hi0.2
      refine SR.setAll (is := is) (vs := vs) (rs := rs) (ar := br) S2 ⟨h2, nd2.2.1, fun a ha => ow a (List.mem_append_right _ ha), fun j a ha z => ?_⟩ (fun j hj => ?_) (by simpa using hl)
      · rcases setA_mem z with ⟨_, z⟩ | ⟨_, z⟩
        · exact nd2.2.2 a z a ha rfl
        · exact dj j a (List.mem_append_right _ ha) z
      · rw [List.length_set]
        exact hi j (List.mem_cons_of_mem _ hj)
theorem RsAll.lengths {K : PySem.W.Frag} {F H : Hp} : ∀ {vs : List V} {rs : List Sl} {ar : List Addr}, RsAll K F H vs rs ar → vs.length = rs.length
  | _, _, _, .nil => rfl
  | _, _, _, .cons _ r => by rw [List.length_cons, List.length_cons, RsAll.lengths r]
/-- a list of owned things -/
def slM : Sl → Option MO
  | .v d => some (.fz d)
  | .m c => some c
  | .un => none
def slMs : List Sl → Option (List MO)
  | [] => some []
  | r :: rs => match slM r, slMs rs with
    | some c, some cs => some (c :: cs)
    | _, _ => none
theorem RsAll.mp {K : PySem.W.Frag} {F H : Hp} : ∀ {vs : List V} {rs : List Sl} {ar : List Addr} {cs : List MO}, RsAll K F H vs rs ar → slMs rs = some cs → MpAll K F H vs cs ar
  | _, _, _, _, .nil, e => by cases e; exact .nil
  | _, _, _, _, .cons (r := .v d) h r, e => by
    obtain ⟨v, e1, h1, e2⟩ := h
    cases e1
    subst e2
    cases q : slMs ‹List Sl› with
    | none => rw [slMs, q] at e; cases e
    | some cs => rw [slMs, q] at e; cases e; exact .cons (.fz h1) (RsAll.mp r q)
  | _, _, _, _, .cons (r := .m c) h r, e => by
    obtain ⟨v, e1, h1⟩ := h
    cases e1
    cases q : slMs ‹List Sl› with
    | none => rw [slMs, q] at e; cases e
    | some cs => rw [slMs, q] at e; cases e; exact .cons h1 (RsAll.mp r q)
  | _, _, _, _, .cons (r := .un) h r, e => by rw [slMs] at e; cases e
/-- a display of owned things -/
def pLstO (pr : POs) : PO := fun env Q => pr env fun rs env1 => match slMs rs with
  | some cs => rs.length ≤ sizeLine ∧ Q (.m (.lst cs)) env1
  | none => False
theorem l_lstO (h : PA X es (liftAO X.K E pr)) : PE X (.List es pos) (liftO X.K E (pLstO pr)) :=
  pe_w (pe_lst h) fun σ H Q ⟨ts, F, env, As, Q', S, fx, p, k⟩ => ⟨ts, F, env, As, _, S, fx, p, fun vs rs ar F1 H1 env1 As1 S1 f1 A q => by
    split at q
    · rename_i cs ec
      refine ⟨by rw [RsAll.lengths A.1]; exact q.1, fun a ha => ?_⟩
      have g := Gr.made (o := HO.lst vs) S1.sub ha
      have fr : ∀ b ∈ ar, b ≠ a := fun b hb z => RsAll.live A.1 b hb (by rw [z]; exact ha)
      refine k (.ref a) (.m (.lst cs)) (a :: ar) F1 _ env1 As1 (S1.gr g) f1 ⟨⟨_, rfl, .lst upd_same ((RsAll.mp A.1 ec).to (Same.refl F1) fun b hb => upd_ne (fr b hb))⟩, ?_, fun b hb => ?_, fun i b hb z => ?_⟩ q.2
      · exact List.nodup_cons.mpr ⟨fun z => fr a z rfl, A.2.1⟩
      · rcases List.mem_cons.mp hb with e | hb
        · rw [e]
          exact ⟨S1.sub.free ha, (S1.free ha).symm⟩
        · exact A.2.2.1 b hb
      · rcases List.mem_cons.mp hb with e | hb
        · rw [e] at z
          exact S1.live i a z ha
        · exact A.2.2.2 i b hb z
    · exact q.elim⟩
end

/-! ### 17. statements -/
def pNext : PSt := fun D env => D.nx env
def pSeq (p q : PSt) : PSt := fun D env => p { D with nx := q D } env
def pSet (i : Nat) (p : PO) : PSt := fun D env => p env fun r env1 => D.nx (env1.set i r)
def pDrop (p : PO) : PSt := fun D env => p env fun _ env1 => D.nx env1
def pRet (p : PO) : PSt := fun D env => p env D.rt
/-- return of a name: what it owns goes along -/
def pRetName (i : Nat) : PSt := fun D env => match env[i]? with
  | some (.un) => False
  | some r => D.rt r (env.set i .un)
  | none => False
def pRetN : PSt := fun D env => D.rt (.v .none) env
def pIfS (t : PTt) (a b : PSt) : PSt := fun D env => t env fun c env1 => sel c (a D env1) (b D env1)
def pNever : PSt := fun _ _ => False
def pBrk : PSt := fun D env => D.bk env
def pCnt : PSt := fun D env => D.ct env
section
variable {X : Cx} {E : Ent} {st : Stmt} {rest body : List Stmt} {p q : PSt} {e : Expr} {po : PO} {pos : Pos}
theorem KS.to {K : PySem.W.Frag} {σ σ' : L2.St} {F F' : Hp} {D : Ends} {D' : PEnds} (k : KS K E σ F D D') (hl : σ'.length = σ.length) (f : Same F F') : KS K E σ' F' D D' :=
  ⟨fun σ2 F2 H2 env2 As2 h S f2 => k.nx σ2 F2 H2 env2 As2 (h.trans hl) S (f.trans f2), fun σ2 F2 H2 env2 As2 h S f2 => k.bk σ2 F2 H2 env2 As2 (h.trans hl) S (f.trans f2),
    fun σ2 F2 H2 env2 As2 h S f2 => k.ct σ2 F2 H2 env2 As2 (h.trans hl) S (f.trans f2), fun σ2 F2 H2 env2 As2 h S f2 => k.rt σ2 F2 H2 env2 As2 (h.trans hl) S (f.trans f2)⟩
theorem FixIn.to {σ σ' : L2.St} (f : FixIn E σ) (hl : σ'.length = σ.length) : FixIn E σ' := fun i w e => by rw [hl]; exact f i w e
theorem ls_nil : PSs X [] (liftS X.K E pNext) := pss_w pss_nil fun D σ H ⟨F, env, As, D', S, fx, p, k⟩ => k.nx σ F H env As rfl S (Same.refl F) p
theorem ls_cons (h1 : PS X st (liftS X.K E p)) (h2 : PSs X rest (liftS X.K E q)) : PSs X (st :: rest) (liftS X.K E (pSeq p q)) :=
  pss_w (pss_cons h1 h2) fun D σ H ⟨F, env, As, D', S, fx, p, k⟩ => ⟨F, env, As, _, S, fx, p, fun σ2 F2 H2 env2 As2 hl S2 f2 q2 => ⟨F2, env2, As2, D', S2, fx.to hl, q2, k.to hl f2⟩, k.bk, k.ct, k.rt⟩
theorem ls_one (h1 : PS X st (liftS X.K E p)) : PSs X [st] (liftS X.K E p) := pss_one h1
theorem app_nil_SR {K : PySem.W.Frag} {F H : Hp} {σ : L2.St} {env : PEnv} {As : Nat → List Addr} (S : SR K E F H σ env As) : SR K E F H (σ ++ []) env As := by rw [List.append_nil]; exact S
theorem nil_app_SR {K : PySem.W.Frag} {F H : Hp} {σ : L2.St} {env : PEnv} {As : Nat → List Addr} (S : SR K E F H (σ ++ []) env As) : SR K E F H σ env As := by rw [List.append_nil] at S; exact S
/-- name = value -/
theorem ls_setT {i : Nat} {te : TE} (hN : i < X.N.length) (hf : E.fix i = none) (w : ∀ σ H Q, liftO X.K E po σ H Q → te σ H Q) (h : PS X st (tAsg te (gName i))) : PS X st (liftS X.K E (pSet i po)) := by
  refine ⟨fun pins s σ H D I ⟨F, env, As, D', S, fx, p, k⟩ => h.run pins s σ H D I (w σ H _ ⟨[], F, env, As, _, app_nil_SR S, fx, p, fun v r ar F1 H1 env1 As1 S1 f1 R q => ?_⟩)⟩
  have S1' := nil_app_SR S1
  have hi : i < env1.length := by rw [← S1'.len, I.len]; exact hN
  exact k.nx _ F1 H1 _ _ (List.length_set ..) (S1'.set R hi hf) f1 q
theorem ls_set {i : Nat} {x : Str} {px : Pos} (hN : i < X.N.length) (hf : E.fix i = none) (h : ∀ te, PE X e te → PS X (.Assign [.Name x px] e pos) (tAsg te (gName i))) (he : PE X e (liftO X.K E po)) : PS X (.Assign [.Name x px] e pos) (liftS X.K E (pSet i po)) :=
  ls_setT hN hf (fun _ _ _ q => q) (h _ he)
theorem ls_expr (he : PE X e (liftO X.K E po)) (hs : swapsWith e none pos.line X.env = pure false := by rfl) : PS X (.Expr e pos) (liftS X.K E (pDrop po)) :=
  ps_w (ps_expr he hs) fun D σ H ⟨F, env, As, D', S, fx, p, k⟩ => ⟨[], F, env, As, _, app_nil_SR S, fx, p, fun v r ar F1 H1 env1 As1 S1 f1 R q => k.nx σ F1 H1 env1 As1 rfl (nil_app_SR S1) f1 q⟩
theorem ls_ret (he : PE X e (liftO X.K E po)) : PS X (.Return (some e) pos) (liftS X.K E (pRet po)) :=
  ps_w (ps_ret he) fun D σ H ⟨F, env, As, D', S, fx, p, k⟩ => ⟨[], F, env, As, _, app_nil_SR S, fx, p, fun v r ar F1 H1 env1 As1 S1 f1 R q => k.rt σ F1 H1 env1 As1 rfl (nil_app_SR S1) f1 v r ar R q⟩
theorem ls_retName (i : Nat) {x : Str} {px : Pos} (h : PE X (.Name x px) (tVar i)) : PS X (.Return (some (.Name x px)) pos) (liftS X.K E (pRetName i)) :=
  ps_w (ps_ret h) fun D σ H ⟨F, env, As, D', S, fx, p, k⟩ => by
    unfold pRetName at p
    split at p
    · exact p.elim
    · rename_i r nu er
      obtain ⟨x', h1, h2⟩ := S.slot i r er
      obtain ⟨v, ev⟩ : ∃ v, x' = some v := by
        cases r with
        | un => exact absurd rfl nu
        | v d => obtain ⟨v, e, _⟩ := h2; exact ⟨v, e⟩
        | m c => obtain ⟨v, e, _⟩ := h2; exact ⟨v, e⟩
      subst ev
      obtain ⟨S2, R2⟩ := S.move er h1
      exact ⟨v, h1, k.rt σ F H _ _ rfl S2 (Same.refl F) v r _ R2 p⟩
    · exact p.elim
theorem ls_retN : PS X (.Return none pos) (liftS X.K E pRetN) := ps_w ps_retN fun D σ H ⟨F, env, As, D', S, fx, p, k⟩ => k.rt σ F H env As rfl S (Same.refl F) .non (.v .none) [] (RsOk.v .non) p
theorem ls_if {c : Expr} {a b : List Stmt} {t : PTt} {pb : PSt} (hc : PT X c (liftT X.K E t)) (ha : PSs X a (liftS X.K E p)) (hb : PSs X b (liftS X.K E pb)) : PS X (.If c a b pos) (liftS X.K E (pIfS t p pb)) :=
  ps_w (ps_if hc ha hb) fun D σ H ⟨F, env, As, D', S, fx, p, k⟩ => ⟨[], F, env, As, _, app_nil_SR S, fx, p, fun c F1 H1 env1 As1 S1 f1 q => by
    cases c with
    | true =>
      rw [sel_tt] at q; rw [if_pos rfl]
      exact ⟨F1, env1, As1, D', nil_app_SR S1, fx, q, k.to rfl f1⟩
    | false =>
      rw [sel_ff] at q; rw [if_neg Bool.false_ne_true]
      exact ⟨F1, env1, As1, D', nil_app_SR S1, fx, q, k.to rfl f1⟩⟩
theorem ls_never : PS X st (liftS X.K E pNever) := ps_w ps_never fun D σ H ⟨F, env, As, D', S, fx, p, k⟩ => p
theorem ls_pass : PS X (.Pass pos) (liftS X.K E pNext) := ps_w ps_pass fun D σ H ⟨F, env, As, D', S, fx, p, k⟩ => k.nx σ F H env As rfl S (Same.refl F) p
theorem ls_break : PS X (.Break pos) (liftS X.K E pBrk) := ps_w ps_break fun D σ H ⟨F, env, As, D', S, fx, p, k⟩ => k.bk σ F H env As rfl S (Same.refl F) p
theorem ls_continue : PS X (.Continue pos) (liftS X.K E pCnt) := ps_w ps_continue fun D σ H ⟨F, env, As, D', S, fx, p, k⟩ => k.ct σ F H env As rfl S (Same.refl F) p
theorem ls_doc {x j pos'} : PS X (.Expr (.Constant (.str x) j pos) pos') (liftS X.K E pNext) := ps_w ps_doc fun D σ H ⟨F, env, As, D', S, fx, p, k⟩ => k.nx σ F H env As rfl S (Same.refl F) p
/-- while: an invariant with a measure -/
@[irreducible] def pWhile (c : PTt) (body : PSt) : PSt := fun D env => ∃ J : Nat → PEnv → Prop, (∃ m, J m env) ∧ ∀ m env, J m env → c env fun b env1 => sel b (body { D with nx := fun e => ∃ m', m' < m ∧ J m' e, ct := fun e => ∃ m', m' < m ∧ J m' e, bk := D.nx } env1) (D.nx env1)
theorem ls_while {c : Expr} {t : PTt} (hp : PassesOwn (model X.prog X.w) X.A X.env X.xe) (hc : PT X c (liftT X.K E t)) (hb : PSs X body (liftS X.K E p)) : PS X (.While c body [] pos) (liftS X.K E (pWhile t p)) :=
  ps_w (ps_while hp hc hb) fun D σ0 H ⟨F0, env, As, D', S, fx, p, k⟩ => by
    unfold pWhile at p
    obtain ⟨J, ⟨m0, j0⟩, turn⟩ := p
    refine ⟨fun m σ H => σ.length = σ0.length ∧ ∃ F env As, SR X.K E F H σ env As ∧ Same F0 F ∧ J m env, ⟨m0, rfl, F0, env, As, S, Same.refl F0, j0⟩, ?_⟩
    rintro m σ H ⟨hl, F, env, As, S, f, j⟩
    refine ⟨[], F, env, As, _, app_nil_SR S, fx.to hl, turn m env j, fun b F1 H1 env1 As1 S1 f1 q => ?_⟩
    cases b with
    | true =>
      rw [sel_tt] at q; rw [if_pos rfl]
      have go : ∀ σ' F' H' env' As', σ'.length = σ.length → SR X.K E F' H' σ' env' As' → Same F1 F' → (∃ m', m' < m ∧ J m' env') → ∃ m', m' < m ∧ (σ'.length = σ0.length ∧ ∃ F env As, SR X.K E F H' σ' env As ∧ Same F0 F ∧ J m' env) :=
        fun σ' F' H' env' As' h S' f' ⟨m', hm, j'⟩ => ⟨m', hm, h.trans hl, F', env', As', S', (f.trans f1).trans f', j'⟩
      refine ⟨_, fun σ' H' z => z, F1, env1, As1, _, nil_app_SR S1, fx.to hl, q, go, ?_, go, ?_⟩
      · exact fun σ' F' H' env' As' h S' f' q' => k.nx σ' F' H' env' As' (h.trans hl) S' ((f.trans f1).trans f') q'
      · exact fun σ' F' H' env' As' h S' f' => k.rt σ' F' H' env' As' (h.trans hl) S' ((f.trans f1).trans f')
    | false =>
      rw [sel_ff] at q; rw [if_neg Bool.false_ne_true]
      exact k.nx σ F1 H1 env1 As1 hl (nil_app_SR S1) (f.trans f1) q
end
end PL

namespace PL
open PySem PySem.Spec PyProof.Rows L2

/-! ### 18. what is walked -/
/-- the iterator yields the data ds, one after the other, wherever F stands -/
def Feeds (K : PySem.W.Frag) (F : Hp) (J : It) (ds : List PyData) : Prop := ∀ i H Fc, Same F Fc → Same Fc H →
  (∀ d, ds[i]? = some d → J.go i H ∧ ∀ x H', J.yld i H x H' → ∃ F', Gr Fc H F' H' ∧ Fp F' x d) ∧ (ds.length ≤ i → J.stop i H)
abbrev PIt := PEnv → (List PyData → PEnv → Prop) → Prop
def liftI (K : PySem.W.Frag) (E : Ent) (p : PIt) : TI := fun σ H R => ∃ ts F env As Q', SR K E F H (σ ++ ts) env As ∧ FixIn E σ ∧ p env Q' ∧
  ∀ ds J F' H' env' As', SR K E F' H' (σ ++ ts) env' As' → Same F F' → Feeds K F' J ds → Q' ds env' → R J H'
theorem pi_w {X : Cx} {tg e : Expr} {t t' : TI} (h : PI X tg e t) (w : ∀ σ H R, t' σ H R → t σ H R) : PI X tg e t' := ⟨fun pins s σ H R I q => h.run pins s σ H R I (w _ _ _ q)⟩
def itList (pa : PX) : PIt := fun env Q => pa env fun d env1 => match d with
  | .list ds => Q ds env1
  | _ => False
def itTup (pa : PX) : PIt := fun env Q => pa env fun d env1 => match d with
  | .tuple ds => Q ds env1
  | _ => False
def rangeD (lo c : Int) (n : Nat) : List PyData := (List.range n).map fun i => .int (lo + (i : Nat) * c)
def itRng1 (pa : PAs) : PIt := fun env Q => pa env fun gs env1 => match gs with
  | [.d (.int j)] => (-(2 ^ 62) ≤ j ∧ j < 2 ^ 62) ∧ Q (rangeD 0 1 j.toNat) env1
  | _ => False
def itRng2 (pa : PAs) : PIt := fun env Q => pa env fun gs env1 => match gs with
  | [.d (.int i), .d (.int j)] => (-(2 ^ 62) ≤ i ∧ i < 2 ^ 62 ∧ -(2 ^ 62) ≤ j ∧ j < 2 ^ 62) ∧ Q (rangeD i 1 (j - i).toNat) env1
  | _ => False
/-- a range downward by one -/
def itRng3 (pa : PAs) : PIt := fun env Q => pa env fun gs env1 => match gs with
  | [.d (.int i), .d (.int j), .d (.int c)] => (c = -1 ∧ -(2 ^ 62) ≤ i ∧ i < 2 ^ 62 ∧ -(2 ^ 62) ≤ j ∧ j < 2 ^ 62) ∧ Q (rangeD i (-1) (i - j).toNat) env1
  | _ => False
def enumD : Nat → List PyData → List PyData
  | _, [] => []
  | n, d :: ds => .tuple [.int n, d] :: enumD (n + 1) ds
def itEnum (pa : PAs) : PIt := fun env Q => pa env fun gs env1 => match gs with
  | [.d (.list ds)] => Q (enumD 0 ds) env1
  | _ => False
def zipD : List PyData → List PyData → List PyData
  | x :: xs, y :: ys => .tuple [x, y] :: zipD xs ys
  | _, _ => []
def itZip (pa : PAs) : PIt := fun env Q => pa env fun gs env1 => match gs with
  | [.d (.list ds), .d (.list es)] => Q (zipD ds es) env1
  | _ => False
def itRev (pa : PAs) : PIt := fun env Q => pa env fun gs env1 => match gs with
  | [.d (.list ds)] => Q ds.reverse env1
  | _ => False
/-- the script, by the slot that holds it -/
def itScr (i : Nat) : PIt := fun env Q => match env[i]? with
  | some (.m (.scr ns)) => Q (ns.map .int) env
  | _ => False
section
variable {X : Cx} {E : Ent} {K : PySem.W.Frag} {tg e : Expr} {pa : PX} {p pos : Pos}
theorem seqL_inj {H : Hp} {a : Addr} {xs ys : List V} (h : H a = some (.lst xs)) (q : SqL K H a ys) (hk : ∀ o, K.lookup a = some o → H a = none) : ys = xs := by
  rcases q with (q | ⟨o, q⟩) | ⟨o, its, n, q, _⟩
  · rw [h] at q; cases q; rfl
  · rw [h] at q; cases q
  · rw [hk o q] at h; cases h
theorem feeds_list {F : Hp} {a : Addr} {vs : List V} {ds : List PyData} (h : F a = some (.lst vs)) (r : FpAll F vs ds) : Feeds K F (Itl K a) ds := fun i H Fc f s => by
  have hH := s _ _ (f _ _ h)
  refine ⟨fun d e => ?_, fun e => ⟨vs, SqL.of hH, by rw [r.length]; exact e⟩⟩
  obtain ⟨v, h1, h2⟩ := r.get e
  refine ⟨⟨vs, v, SqL.of hH, h1⟩, fun x H' y => ?_⟩
  obtain ⟨rfl, y⟩ := y
  have := y vs (SqL.of hH)
  rw [h1] at this
  cases this
  exact ⟨Fc, Gr.refl s, h2.to f⟩
theorem feeds_tup {F : Hp} {a : Addr} {vs : List V} {ds : List PyData} (h : F a = some (.tup vs)) (r : FpAll F vs ds) : Feeds K F (Itt K a) ds := fun i H Fc f s => by
  have hH := s _ _ (f _ _ h)
  refine ⟨fun d e => ?_, fun e => ⟨vs, SqT.of hH, by rw [r.length]; exact e⟩⟩
  obtain ⟨v, h1, h2⟩ := r.get e
  refine ⟨⟨vs, v, SqT.of hH, h1⟩, fun x H' y => ?_⟩
  obtain ⟨rfl, y⟩ := y
  have := y vs (SqT.of hH)
  rw [h1] at this
  cases this
  exact ⟨Fc, Gr.refl s, h2.to f⟩
theorem feeds_scr {F : Hp} {a : Addr} {ns : List Int} (h : SqL K F a (ns.map V.int)) : Feeds K F (Itl K a) (ns.map .int) := fun i H Fc f s => by
  have hH := s.seq (f.seq h)
  refine ⟨fun d e => ?_, fun e => ⟨_, hH, by rw [List.length_map] at e ⊢; exact e⟩⟩
  rw [List.getElem?_map] at e
  obtain ⟨n, e1, e2⟩ := Option.map_eq_some_iff.mp e
  have hv : (ns.map V.int)[i]? = some (V.int n) := by rw [List.getElem?_map, e1]; rfl
  refine ⟨⟨_, _, hH, hv⟩, fun x H' y => ?_⟩
  obtain ⟨rfl, y⟩ := y
  have := y _ hH
  rw [hv] at this
  cases this
  rw [← e2]
  exact ⟨Fc, Gr.refl s, .int n⟩
theorem rangeD_get {lo c : Int} {n i : Nat} {d : PyData} (e : (rangeD lo c n)[i]? = some d) : i < n ∧ d = .int (lo + (i : Nat) * c) := by
  unfold rangeD at e
  rw [List.getElem?_map] at e
  obtain ⟨j, e1, e2⟩ := Option.map_eq_some_iff.mp e
  have hi := (List.getElem?_eq_some_iff.mp e1).1
  rw [List.length_range] at hi
  rw [List.getElem?_range hi] at e1
  cases e1
  exact ⟨hi, e2.symm⟩
theorem rangeD_length {lo c : Int} {n : Nat} : (rangeD lo c n).length = n := by unfold rangeD; rw [List.length_map, List.length_range]
theorem feeds_rng {F : Hp} {lo : Int} {n : Nat} : Feeds K F (Itr lo n) (rangeD lo 1 n) := fun i H Fc f s => by
  refine ⟨fun d e => ?_, fun e => by rw [rangeD_length] at e; exact e⟩
  obtain ⟨hi, rfl⟩ := rangeD_get e
  refine ⟨hi, fun x H' y => ?_⟩
  obtain ⟨rfl, rfl⟩ := y
  rw [Int.mul_one]
  exact ⟨Fc, Gr.refl s, .int _⟩
theorem feeds_rngC {F : Hp} {lo c : Int} {n : Nat} : Feeds K F (Itc lo c n) (rangeD lo c n) := fun i H Fc f s => by
  refine ⟨fun d e => ?_, fun e => by rw [rangeD_length] at e; exact e⟩
  obtain ⟨hi, rfl⟩ := rangeD_get e
  refine ⟨hi, fun x H' y => ?_⟩
  obtain ⟨rfl, rfl⟩ := y
  exact ⟨Fc, Gr.refl s, .int _⟩
theorem enumD_get : ∀ {ds : List PyData} {n i : Nat} {d : PyData}, (enumD n ds)[i]? = some d → ∃ x, ds[i]? = some x ∧ d = .tuple [.int ((n + i : Nat) : Int), x]
  | x :: ds, n, 0, d, e => by
    cases e
    exact ⟨x, rfl, rfl⟩
  | x :: ds, n, i + 1, d, e => by
    have e' : (enumD (n + 1) ds)[i]? = some d := e
    obtain ⟨y, h1, h2⟩ := enumD_get e'
    refine ⟨y, h1, ?_⟩
    rw [h2]
    have : n + 1 + i = n + (i + 1) := by omega
    rw [this]
theorem enumD_length : ∀ (n : Nat) (ds : List PyData), (enumD n ds).length = ds.length
  | _, [] => rfl
  | n, d :: ds => by
    show (enumD (n + 1) ds).length + 1 = _
    rw [enumD_length]
    rfl
theorem feeds_enum {F : Hp} {a : Addr} {vs : List V} {ds : List PyData} (h : F a = some (.lst vs)) (r : FpAll F vs ds) : Feeds K F (Ite K a) (enumD 0 ds) := fun i H Fc f s => by
  have hH := s _ _ (f _ _ h)
  refine ⟨fun d e => ?_, fun e => ⟨vs, SqL.of hH, by rw [r.length]; rw [enumD_length] at e; exact e⟩⟩
  obtain ⟨x, e1, rfl⟩ := enumD_get e
  obtain ⟨v, h1, h2⟩ := r.get e1
  refine ⟨⟨vs, v, SqL.of hH, h1⟩, fun z H' y => ?_⟩
  obtain ⟨T, w, rfl, hT, rfl, y⟩ := y
  have := y vs (SqL.of hH)
  rw [h1] at this
  cases this
  have g := Gr.laid (o := HO.tup [.int (i : Nat), v]) s hT
  refine ⟨_, g, .tup upd_same (.cons ?_ (.cons ((h2.to f).to g.ff) .nil))⟩
  rw [Nat.zero_add]
  exact .int _
theorem zipD_get : ∀ {ds es : List PyData} {i : Nat} {d : PyData}, (zipD ds es)[i]? = some d → ∃ x y, ds[i]? = some x ∧ es[i]? = some y ∧ d = .tuple [x, y]
  | x :: ds, y :: es, 0, d, e => by
    cases e
    exact ⟨x, y, rfl, rfl, rfl⟩
  | x :: ds, y :: es, i + 1, d, e => zipD_get (ds := ds) (es := es) (show (zipD ds es)[i]? = some d from e)
  | [], _, _, _, e => by cases e
  | _ :: _, [], _, _, e => by cases e
theorem zipD_length : ∀ (ds es : List PyData), (zipD ds es).length = min ds.length es.length
  | x :: ds, y :: es => by
    show (zipD ds es).length + 1 = _
    rw [zipD_length, List.length_cons, List.length_cons]
    omega
  | [], es => by simp [zipD]
  | _ :: _, [] => by simp [zipD]
theorem feeds_zip {F : Hp} {a b : Addr} {vs us : List V} {ds es : List PyData} (h : F a = some (.lst vs)) (r : FpAll F vs ds) (h' : F b = some (.lst us)) (r' : FpAll F us es) : Feeds K F (Itz K a b) (zipD ds es) := fun i H Fc f s => by
  have hH := s _ _ (f _ _ h)
  have hH' := s _ _ (f _ _ h')
  refine ⟨fun d e => ?_, fun e => ⟨vs, us, SqL.of hH, SqL.of hH', by rw [r.length, r'.length]; rw [zipD_length] at e; omega⟩⟩
  obtain ⟨x, y, e1, e2, rfl⟩ := zipD_get e
  obtain ⟨v, h1, h2⟩ := r.get e1
  obtain ⟨u, h3, h4⟩ := r'.get e2
  refine ⟨⟨vs, us, v, u, SqL.of hH, SqL.of hH', h1, h3⟩, fun z H' y => ?_⟩
  obtain ⟨T, w, w', rfl, hT, rfl, y1, y2⟩ := y
  have := y1 vs (SqL.of hH)
  rw [h1] at this
  cases this
  have := y2 us (SqL.of hH')
  rw [h3] at this
  cases this
  have g := Gr.laid (o := HO.tup [v, u]) s hT
  exact ⟨_, g, .tup upd_same (.cons ((h2.to f).to g.ff) (.cons ((h4.to f).to g.ff) .nil))⟩
theorem feeds_rev {F : Hp} {a : Addr} {vs : List V} {ds : List PyData} (h : F a = some (.lst vs)) (r : FpAll F vs ds) : Feeds K F (Itv K a vs.length) ds.reverse := fun i H Fc f s => by
  have hH := s _ _ (f _ _ h)
  have hl := r.length
  refine ⟨fun d e => ?_, fun e => by rw [List.length_reverse] at e; show vs.length ≤ i; omega⟩
  have hi := (List.getElem?_eq_some_iff.mp e).1
  rw [List.length_reverse] at hi
  rw [List.getElem?_reverse hi, ← hl] at e
  obtain ⟨v, h1, h2⟩ := r.get e
  refine ⟨⟨by omega, vs, v, SqL.of hH, h1⟩, fun x H' y => ?_⟩
  obtain ⟨rfl, y⟩ := y
  have := y vs (SqL.of hH)
  rw [h1] at this
  cases this
  exact ⟨Fc, Gr.refl s, h2.to f⟩

theorem li_list (h : PE X e (liftE X.K E pa)) : PI X tg e (liftI X.K E (itList pa)) := pi_w (pi_list h) fun σ H R ⟨ts, F, env, As, Q', S, fx, p, k⟩ => ⟨ts, F, env, As, _, S, fx, p, fun v d F1 H1 env1 As1 S1 f1 h q => by
  split at q
  · obtain ⟨a, vs, rfl, ha, ra⟩ := h.lst_inv
    exact ⟨a, rfl, ⟨vs, SqL.of (S1.sub _ _ ha)⟩, k _ _ F1 H1 env1 As1 S1 f1 (feeds_list ha ra) q⟩
  · exact q.elim⟩
theorem li_tup (h : PE X e (liftE X.K E pa)) : PI X tg e (liftI X.K E (itTup pa)) := pi_w (pi_tup h) fun σ H R ⟨ts, F, env, As, Q', S, fx, p, k⟩ => ⟨ts, F, env, As, _, S, fx, p, fun v d F1 H1 env1 As1 S1 f1 h q => by
  split at q
  · obtain ⟨a, vs, rfl, ha, ra⟩ := h.tup_inv
    exact ⟨a, rfl, ⟨vs, SqT.of (S1.sub _ _ ha)⟩, k _ _ F1 H1 env1 As1 S1 f1 (feeds_tup ha ra) q⟩
  · exact q.elim⟩
theorem li_scr (i : Nat) {x : Str} {px : Pos} (h : PE X (.Name x px) (tVar i)) (hN : i < X.N.length) : PI X tg (.Name x px) (liftI X.K E (itScr i)) := by
  refine ⟨fun pins s σ H R I q => (pi_list h).run pins s σ H R I ?_⟩
  obtain ⟨ts, F, env, As, Q', S, fx, p, k⟩ := q
  have hi : i < σ.length := by rw [I.len]; exact hN
  unfold itScr at p
  split at p
  · rename_i ns e
    obtain ⟨x', h1, v, e1, h2⟩ := S.slot i _ e
    subst e1
    generalize As i = ai at h2
    cases h2 with
    | scr hs => exact ⟨_, app_get hi h1, _, rfl, ⟨_, S.sub.seq hs⟩, k _ _ F H env As S (Same.refl F) (feeds_scr hs) p⟩
  · exact p.elim
theorem paired_one {F : Hp} {σ : L2.St} {vs : List V} {d : PyData} (P : Paired (AgOk F σ) vs [.d d]) : ∃ v, vs = [v] ∧ Fp F v d := by
  cases P with
  | cons h r =>
    cases r
    exact ⟨_, rfl, h⟩
theorem paired_two {F : Hp} {σ : L2.St} {vs : List V} {d e : PyData} (P : Paired (AgOk F σ) vs [.d d, .d e]) : ∃ v u, vs = [v, u] ∧ Fp F v d ∧ Fp F u e := by
  cases P with
  | cons h r =>
    obtain ⟨u, rfl, hu⟩ := paired_one r
    exact ⟨_, u, rfl, h, hu⟩
theorem paired_three {F : Hp} {σ : L2.St} {vs : List V} {d e g : PyData} (P : Paired (AgOk F σ) vs [.d d, .d e, .d g]) : ∃ v u w, vs = [v, u, w] ∧ Fp F v d ∧ Fp F u e ∧ Fp F w g := by
  cases P with
  | cons h r =>
    obtain ⟨u, w, rfl, hu, hw⟩ := paired_two r
    exact ⟨_, u, w, rfl, h, hu, hw⟩
variable {pas : PAs} {a b c : Expr}
theorem li_rng1 (hg : Gl X "range") (hm : X.mg "range" = none) (ha : PA X [a] (liftA X.K E pas)) (hs : starEach [a] X.env = [(false, eval a X.env)] := by rfl) : PI X tg (.Call (.Name "range" p) [a] [] pos) (liftI X.K E (itRng1 pas)) :=
  pi_w (pi_range1 hg hm ha hs) fun σ H R ⟨ts, F, env, As, Q', S, fx, p, k⟩ => ⟨ts, F, env, As, _, S, fx, p, fun vs gs F1 H1 env1 As1 S1 f1 P q => by
    split at q
    · obtain ⟨v, rfl, hv⟩ := paired_one P
      exact ⟨_, by rw [hv.int_inv], q.1.1, q.1.2, k _ _ F1 H1 env1 As1 S1 f1 feeds_rng q.2⟩
    · exact q.elim⟩
theorem li_rng2 (hg : Gl X "range") (hm : X.mg "range" = none) (ha : PA X [a, b] (liftA X.K E pas)) (hs : starEach [a, b] X.env = [(false, eval a X.env), (false, eval b X.env)] := by rfl) (hs2 : starEach [b] X.env = [(false, eval b X.env)] := by rfl) : PI X tg (.Call (.Name "range" p) [a, b] [] pos) (liftI X.K E (itRng2 pas)) :=
  pi_w (pi_range2 hg hm ha hs hs2) fun σ H R ⟨ts, F, env, As, Q', S, fx, p, k⟩ => ⟨ts, F, env, As, _, S, fx, p, fun vs gs F1 H1 env1 As1 S1 f1 P q => by
    split at q
    · obtain ⟨v, u, rfl, hv, hu⟩ := paired_two P
      exact ⟨_, _, by rw [hv.int_inv, hu.int_inv], q.1, k _ _ F1 H1 env1 As1 S1 f1 feeds_rng q.2⟩
    · exact q.elim⟩
theorem li_rng3 (h0 : ∀ ta, PA X [a, b, c] ta → PI X tg e (iRng3 ta)) (ha : PA X [a, b, c] (liftA X.K E pas)) : PI X tg e (liftI X.K E (itRng3 pas)) :=
  pi_w (h0 _ ha) fun σ H R ⟨ts, F, env, As, Q', S, fx, p, k⟩ => ⟨ts, F, env, As, _, S, fx, p, fun vs gs F1 H1 env1 As1 S1 f1 P q => by
    split at q
    · obtain ⟨v, u, w, rfl, hv, hu, hw⟩ := paired_three P
      obtain ⟨⟨rfl, q1, q2, q3, q4⟩, q⟩ := q
      exact ⟨_, _, -1, _, by rw [hv.int_inv, hu.int_inv, hw.int_inv], RgC.neg q1 q2 q3 q4, k _ _ F1 H1 env1 As1 S1 f1 feeds_rngC q⟩
    · exact q.elim⟩
theorem li_enum (h0 : ∀ ta, PA X [a] ta → PI X tg e (iEnum X.K ta)) (ha : PA X [a] (liftA X.K E pas)) : PI X tg e (liftI X.K E (itEnum pas)) :=
  pi_w (h0 _ ha) fun σ H R ⟨ts, F, env, As, Q', S, fx, p, k⟩ => ⟨ts, F, env, As, _, S, fx, p, fun vs gs F1 H1 env1 As1 S1 f1 P q => by
    split at q
    · obtain ⟨v, rfl, hv⟩ := paired_one P
      obtain ⟨a, us, rfl, ha, ra⟩ := hv.lst_inv
      exact ⟨a, us, rfl, SqL.of (S1.sub _ _ ha), k _ _ F1 H1 env1 As1 S1 f1 (feeds_enum ha ra) q⟩
    · exact q.elim⟩
theorem li_zip (h0 : ∀ ta, PA X [a, b] ta → PI X tg e (iZip X.K ta)) (ha : PA X [a, b] (liftA X.K E pas)) : PI X tg e (liftI X.K E (itZip pas)) :=
  pi_w (h0 _ ha) fun σ H R ⟨ts, F, env, As, Q', S, fx, p, k⟩ => ⟨ts, F, env, As, _, S, fx, p, fun vs gs F1 H1 env1 As1 S1 f1 P q => by
    split at q
    · obtain ⟨v, u, rfl, hv, hu⟩ := paired_two P
      obtain ⟨a, us, rfl, ha, ra⟩ := hv.lst_inv
      obtain ⟨b, ws, rfl, hb, rb⟩ := hu.lst_inv
      exact ⟨a, b, us, ws, rfl, SqL.of (S1.sub _ _ ha), SqL.of (S1.sub _ _ hb), k _ _ F1 H1 env1 As1 S1 f1 (feeds_zip ha ra hb rb) q⟩
    · exact q.elim⟩
theorem li_rev (h0 : ∀ ta, PA X [a] ta → PI X tg e (iRev X.K ta)) (ha : PA X [a] (liftA X.K E pas)) : PI X tg e (liftI X.K E (itRev pas)) :=
  pi_w (h0 _ ha) fun σ H R ⟨ts, F, env, As, Q', S, fx, p, k⟩ => ⟨ts, F, env, As, _, S, fx, p, fun vs gs F1 H1 env1 As1 S1 f1 P q => by
    split at q
    · obtain ⟨v, rfl, hv⟩ := paired_one P
      obtain ⟨a, us, rfl, ha, ra⟩ := hv.lst_inv
      exact ⟨a, us, rfl, SqL.of (S1.sub _ _ ha), k _ _ F1 H1 env1 As1 S1 f1 (feeds_rev ha ra) q⟩
    · exact q.elim⟩
end

/-! ### 19. targets -/
inductive Tg where
  | nm (i : Nat)
  | tup (ts : List Tg)
mutual
def tgT (K : PySem.W.Frag) : Tg → TG
  | .nm i => gName i
  | .tup ts => fun v σ H Q => gTup K (tgN ts) (tgTs K ts) v σ H Q ∨ gUnl K (tgN ts) (tgTs K ts) v σ H Q
def tgTs (K : PySem.W.Frag) : List Tg → TGs
  | [] => gNil
  | t :: ts => gCons (tgT K t) (tgTs K ts)
def tgN : List Tg → Nat
  | [] => 0
  | _ :: ts => tgN ts + 1
end
theorem pg_or {X : Cx} {e : Expr} {t u : TG} (h1 : PG X e t) (h2 : PG X e u) : PG X e fun v σ H Q => t v σ H Q ∨ u v σ H Q :=
  ⟨fun pins s σ H v w Q I r q => q.elim (h1.run pins s σ H v w Q I r) (h2.run pins s σ H v w Q I r)⟩
mutual
/-- what a target binds -/
def tgB : Tg → PyData → Option (List (Nat × PyData))
  | .nm i, d => some [(i, d)]
  | .tup ts, .tuple ds => tgBs ts ds
  | .tup ts, .list ds => tgBs ts ds
  | .tup _, _ => none
def tgBs : List Tg → List PyData → Option (List (Nat × PyData))
  | [], [] => some []
  | t :: ts, d :: ds => match tgB t d, tgBs ts ds with
    | some a, some b => some (a ++ b)
    | _, _ => none
  | _, _ => none
end
mutual
/-- the slots of a target -/
def Tg.is : Tg → List Nat
  | .nm i => [i]
  | .tup ts => Tg.iss ts
def Tg.iss : List Tg → List Nat
  | [] => []
  | t :: ts => t.is ++ Tg.iss ts
end
def setDs (env : PEnv) : List (Nat × PyData) → PEnv
  | [] => env
  | (i, d) :: r => setDs (env.set i (.v d)) r
def setVs (σ : L2.St) : List (Nat × V) → L2.St
  | [] => σ
  | (i, v) :: r => setVs (σ.set i (some v)) r
/-- what a target does, without a heap -/
def tgP (t : Tg) (d : PyData) (env : PEnv) (Q : PEnv → Prop) : Prop := match tgB t d with
  | some bs => Q (setDs env bs)
  | none => False
theorem setVs_app (σ : L2.St) : ∀ (a b : List (Nat × V)), setVs σ (a ++ b) = setVs (setVs σ a) b := fun a b => by
  induction a generalizing σ with
  | nil => rfl
  | cons x r ih => exact ih _
theorem setVs_length : ∀ (ws : List (Nat × V)) (σ : L2.St), (setVs σ ws).length = σ.length
  | [], _ => rfl
  | (i, v) :: r, σ => by
    show (setVs (σ.set i (some v)) r).length = _
    rw [setVs_length r, List.length_set]
theorem wipe_set {vs : List Nat} {i : Nat} {x : Option V} : ∀ {σ : L2.St}, i ∈ vs → wipe (σ.set i x) vs = wipe σ vs := by
  induction vs with
  | nil => intro σ h; cases h
  | cons v vs ih =>
    intro σ h
    unfold wipe
    by_cases e : i ∈ vs
    · rw [ih e]
    · have hv : i = v := (List.mem_cons.mp h).elim id fun z => absurd z e
      subst hv
      have aux : ∀ (us : List Nat) (σ : L2.St), (wipe (σ.set i x) us).set i none = (wipe σ us).set i none := fun us => by
        induction us with
        | nil =>
          intro σ
          unfold wipe
          rw [List.set_set]
        | cons u us ih2 =>
          intro σ
          unfold wipe
          by_cases hu : u = i
          · subst hu
            rw [List.set_set, List.set_set]
            exact ih2 σ
          · rw [List.set_comm _ _ hu, List.set_comm _ _ hu, ih2 σ]
      exact aux vs σ
theorem wipe_setVs {vs : List Nat} : ∀ {ws : List (Nat × V)} {σ : L2.St}, (∀ p ∈ ws, p.1 ∈ vs) → wipe (setVs σ ws) vs = wipe σ vs
  | [], _, _ => rfl
  | (i, v) :: r, σ, h => by
    show wipe (setVs (σ.set i (some v)) r) vs = _
    rw [wipe_setVs fun p hp => h p (List.mem_cons_of_mem _ hp), wipe_set (h (i, v) List.mem_cons_self)]
/-- bindings, value by value -/
def BdOk (F : Hp) : List (Nat × V) → List (Nat × PyData) → Prop := Paired fun p q => p.1 = q.1 ∧ Fp F p.2 q.2
section
variable {K : PySem.W.Frag} {E : Ent}
mutual
theorem tg_lift {F H : Hp} (s : Same F H) : ∀ (t : Tg) {v : V} {d : PyData} {bs : List (Nat × PyData)}, Fp F v d → tgB t d = some bs → ∃ ws, BdOk F ws bs ∧ bs.map (·.1) = t.is ∧ ∀ (σ : L2.St) (Q : L2.St → Hp → Prop), Q (setVs σ ws) H → tgT K t v σ H Q
  | .nm i, v, d, bs, h, e => by
    rw [tgB] at e
    cases e
    refine ⟨[(i, v)], .cons ⟨rfl, h⟩ .nil, by rw [Tg.is]; rfl, fun σ Q q => ?_⟩
    rw [tgT]
    exact q
  | .tup ts, v, .tuple ds, bs, h, e => by
    rw [tgB] at e
    obtain ⟨a, vs, rfl, ha, ra⟩ := h.tup_inv
    obtain ⟨ws, h1, h2, h3, h4⟩ := tgs_lift s ts ra e
    refine ⟨ws, h1, by rw [Tg.is]; exact h2, fun σ Q q => ?_⟩
    rw [tgT]
    exact .inl ⟨a, vs, rfl, SqT.of (s _ _ ha), h3, h4 σ Q q⟩
  | .tup ts, v, .list ds, bs, h, e => by
    rw [tgB] at e
    obtain ⟨a, vs, rfl, ha, ra⟩ := h.lst_inv
    obtain ⟨ws, h1, h2, h3, h4⟩ := tgs_lift s ts ra e
    refine ⟨ws, h1, by rw [Tg.is]; exact h2, fun σ Q q => ?_⟩
    rw [tgT]
    exact .inr ⟨a, vs, rfl, SqL.of (s _ _ ha), h3, h4 σ Q q⟩
  | .tup ts, _, .none, _, _, e => by simp [tgB] at e
  | .tup ts, _, .bool _, _, _, e => by simp [tgB] at e
  | .tup ts, _, .int _, _, _, e => by simp [tgB] at e
  | .tup ts, _, .str _, _, _, e => by simp [tgB] at e
  | .tup ts, _, .dict _, _, _, e => by simp [tgB] at e
theorem tgs_lift {F H : Hp} (s : Same F H) : ∀ (ts : List Tg) {vs : List V} {ds : List PyData} {bs : List (Nat × PyData)}, FpAll F vs ds → tgBs ts ds = some bs → ∃ ws, BdOk F ws bs ∧ bs.map (·.1) = Tg.iss ts ∧ vs.length = tgN ts ∧ ∀ (σ : L2.St) (Q : L2.St → Hp → Prop), Q (setVs σ ws) H → tgTs K ts vs σ H Q
  | [], _, [], bs, .nil, e => by
    rw [tgBs] at e
    cases e
    refine ⟨[], .nil, by rw [Tg.iss]; rfl, by rw [tgN]; rfl, fun σ Q q => ?_⟩
    rw [tgTs]
    exact ⟨rfl, q⟩
  | [], _, _ :: _, bs, _, e => by simp [tgBs] at e
  | t :: ts, _, [], bs, _, e => by simp [tgBs] at e
  | t :: ts, _, d :: ds, bs, .cons (v := v) (vs := vs) h r, e => by
    rw [tgBs] at e
    cases e1 : tgB t d with
    | none => rw [e1] at e; cases e
    | some a =>
      cases e2 : tgBs ts ds with
      | none => rw [e1, e2] at e; cases e
      | some b =>
        rw [e1, e2] at e
        cases e
        obtain ⟨w1, p1, i1, k1⟩ := tg_lift s t h e1
        obtain ⟨w2, p2, i2, n2, k2⟩ := tgs_lift s ts r e2
        refine ⟨w1 ++ w2, paired_app p1 p2, by rw [List.map_append, i1, i2, Tg.iss], by rw [List.length_cons, n2, tgN], fun σ Q q => ?_⟩
        rw [tgTs]
        refine ⟨v, vs, rfl, k1 σ _ (k2 _ _ ?_)⟩
        rw [← setVs_app]
        exact q
end
theorem SR.setDs {F H : Hp} : ∀ {ws : List (Nat × V)} {bs : List (Nat × PyData)} {σ : L2.St} {env : PEnv} {As : Nat → List Addr}, SR K E F H σ env As → BdOk F ws bs → (∀ p ∈ bs, p.1 < env.length ∧ E.fix p.1 = none) → ∃ As', SR K E F H (setVs σ ws) (setDs env bs) As' ∧ ∀ i a, a ∈ As' i → a ∈ As i
  | _, _, σ, env, As, S, .nil, _ => ⟨As, S, fun _ _ h => h⟩
  | _, _, σ, env, As, S, .cons (a := (i, v)) (b := (j, d)) ⟨e, h⟩ r, k => by
    have e' : i = j := e
    subst e'
    have k0 := k _ List.mem_cons_self
    have S2 : SR K E F H (σ.set i (some v)) (env.set i (.v d)) (setA As i []) := S.set (RsOk.v h) k0.1 k0.2
    have k2 : ∀ p ∈ ‹List (Nat × PyData)›, p.1 < (env.set i (.v d)).length ∧ E.fix p.1 = none := fun p hp => by
      rw [List.length_set]
      exact k p (List.mem_cons_of_mem _ hp)
    obtain ⟨As', z, w⟩ := SR.setDs S2 r k2
    exact ⟨As', z, fun j a h => (setA_mem (w j a h)).elim (fun y => absurd y.2 (by simp)) fun y => y.2⟩
end

/-! ### 20. for -/
def forL0 (t : Tg) (body : PSt) (D : PEnds) : List PyData → PEnv → Prop
  | [], env => D.nx env
  | d :: ds, env => tgP t d env fun env1 => body { D with nx := forL0 t body D ds, ct := forL0 t body D ds, bk := D.nx } env1
@[irreducible] def forL (t : Tg) (body : PSt) (D : PEnds) (ds : List PyData) (env : PEnv) : Prop := forL0 t body D ds env
theorem forL_eq : @forL = @forL0 := by
  funext t body D ds env
  unfold forL
  rfl
theorem forL_n {t : Tg} {body : PSt} {D : PEnds} {env : PEnv} : forL t body D [] env = D.nx env := by
  rw [forL_eq]
  rfl
theorem forL_c {t : Tg} {body : PSt} {D : PEnds} {d : PyData} {ds : List PyData} {env : PEnv} : forL t body D (d :: ds) env = tgP t d env fun env1 => body { D with nx := forL t body D ds, ct := forL t body D ds, bk := D.nx } env1 := by
  rw [forL_eq]
  rfl
def pFor (pi : PIt) (t : Tg) (body : PSt) : PSt := fun D env => pi env fun ds env1 => forL t body D ds env1
section
variable {X : Cx} {E : Ent} {tg iter : Expr} {body : List Stmt} {pi : PIt} {pb : PSt} {t : Tg} {pos : Pos}
theorem ls_for (hp : PassesOwn (model X.prog X.w) X.A X.env X.xe) (hc : X.calm = true) (hi : PI X tg iter (liftI X.K E pi)) (hg : PG X tg (tgT X.K t)) (ht : ∀ i ∈ t.is, i < X.N.length ∧ E.fix i = none) (hb : PSs X body (liftS X.K E pb))
    (hs : ∀ x, foldedSetIterable iter X.env x = pure x := by intro _; rfl) : PS X (.For tg iter body [] pos) (liftS X.K E (pFor pi t pb)) := by
  refine ⟨fun pins s σ0 H D I ⟨F0, env0, As0, D', S0, fx, p, k⟩ => (ps_for hp hc hi hg hb hs).run pins s σ0 H D I ⟨[], F0, env0, As0, _, app_nil_SR S0, fx, p, fun ds J F1 H1 env1 As1 S1 f1 fd q => ?_⟩⟩
  have nN : σ0.length = X.N.length := I.len
  refine ⟨fun i m σ H => m = ds.length - i ∧ i ≤ ds.length ∧ σ.length = σ0.length ∧ ∃ F env As, SR X.K E F H σ env As ∧ Same F1 F ∧ forL t pb D' (ds.drop i) env, ⟨ds.length, by omega, Nat.zero_le _, rfl, F1, env1, As1, nil_app_SR S1, Same.refl F1, q⟩, ?_⟩
  rintro i m σ H ⟨rfl, hi, hl, F, env, As, S, f, q⟩
  obtain ⟨go, stop⟩ := fd i H F f S.sub
  by_cases hlt : i < ds.length
  · have e : ds[i]? = some ds[i] := List.getElem?_eq_getElem hlt
    obtain ⟨g1, g2⟩ := go _ e
    rw [List.drop_eq_getElem_cons hlt] at q
    refine .inr ⟨g1, fun σ' H' => σ'.length = σ0.length ∧ ∃ F env As, SR X.K E F H' σ' env As ∧ Same F1 F ∧ forL t pb D' (ds.drop (i + 1)) env, fun σ' H' z => ⟨ds.length - (i + 1), by omega, rfl, hlt, z⟩, fun x H' y => ?_⟩
    obtain ⟨F2, g, h⟩ := g2 x H' y
    have S2 := S.gr g
    have q' : tgP t ds[i] env fun env1 => pb { D' with nx := forL t pb D' (ds.drop (i + 1)), ct := forL t pb D' (ds.drop (i + 1)), bk := D'.nx } env1 := by
      rw [forL_c] at q
      exact q
    unfold tgP at q'
    split at q'
    · rename_i bs eb
      obtain ⟨ws, b1, b2, b3⟩ := tg_lift (K := X.K) S2.sub t h eb
      refine b3 σ _ ?_
      obtain ⟨As3, S3, _⟩ := SR.setDs S2 b1 fun p hp => by
        have z := ht p.1 (by rw [← b2]; exact List.mem_map.mpr ⟨p, hp, rfl⟩)
        rw [← S2.len, hl, nN]
        exact z
      have l3 : (setVs σ ws).length = σ0.length := (setVs_length ws σ).trans hl
      have nxt : ∀ σ' F' H' env' As', σ'.length = (setVs σ ws).length → SR X.K E F' H' σ' env' As' → Same F2 F' → forL t pb D' (ds.drop (i + 1)) env' → σ'.length = σ0.length ∧ ∃ F env As, SR X.K E F H' σ' env As ∧ Same F1 F ∧ forL t pb D' (ds.drop (i + 1)) env :=
        fun σ' F' H' env' As' hl' S' f' q' => ⟨hl'.trans l3, F', env', As', S', (f.trans g.ff).trans f', q'⟩
      refine ⟨F2, _, As3, _, S3, fx.to l3, q', nxt, ?_, nxt, ?_⟩
      · exact fun σ' F' H' env' As' hl' S' f' q' => k.nx σ' F' H' env' As' (hl'.trans l3) S' (((f1.trans f).trans g.ff).trans f') q'
      · exact fun σ' F' H' env' As' hl' S' f' => k.rt σ' F' H' env' As' (hl'.trans l3) S' (((f1.trans f).trans g.ff).trans f')
    · exact q'.elim
  · have e : i = ds.length := by omega
    subst e
    rw [List.drop_length, forL_n] at q
    exact .inl ⟨stop (Nat.le_refl _), k.nx σ F H env As hl S (f1.trans f) q⟩
end

/-! ### 21. comprehensions -/
def wipeP (env : PEnv) : List Nat → PEnv
  | [] => env
  | v :: vs => (wipeP env vs).set v .un
def stillAt (env : PEnv) (vs : List Nat) : Bool := vs.all fun i => match env[i]? with
  | some (.m _) => false
  | _ => true
/-- the slots vs of env put back -/
def backP (env env' : PEnv) (vs : List Nat) : PEnv := mapI (fun i s => match vs.contains i with
  | true => env.getD i .un
  | false => s) 0 env'
theorem backP_eq (env env' : PEnv) (vs : List Nat) : backP env env' vs = env'.mapIdx fun i s => if i ∈ vs then env.getD i .un else s := by
  unfold backP
  rw [mapI_eq]
  exact congrArg (fun g => List.mapIdx g env') (funext fun i => funext fun s => pick_eq vs i _ s)
def pYes : PTt := fun env Q => Q true env
section
variable {K : PySem.W.Frag} {E : Ent} {F H : Hp}
theorem wipeP_length (env : PEnv) : ∀ vs : List Nat, (wipeP env vs).length = env.length
  | [] => rfl
  | v :: vs => by unfold wipeP; rw [List.length_set, wipeP_length env vs]
/-- slots that own nothing are forgotten -/
theorem SR.forget {σ : L2.St} {env : PEnv} {As : Nat → List Addr} (S : SR K E F H σ env As) {i : Nat} (hi : As i = []) (hf : E.fix i = none) : SR K E F H (σ.set i none) (env.set i .un) As where
  sub := S.sub
  f0 := S.f0
  grow := S.grow
  keep := S.keep
  len := by rw [List.length_set, List.length_set]; exact S.len
  slot := fun j s e => by
    rcases getElem?_set_of e with ⟨rfl, rfl, hl⟩ | ⟨ne, e⟩
    · exact ⟨none, List.getElem?_set_self (by rw [S.len]; exact hl), hi⟩
    · obtain ⟨x, h1, h2⟩ := S.slot j s e
      exact ⟨x, by rw [List.getElem?_set_ne ne]; exact h1, h2⟩
  out := fun j h => S.out j (by rw [List.length_set] at h; exact h)
  own := S.own
  nd := S.nd
  disj := S.disj
  fix := fun j w e => by
    have ne : i ≠ j := fun z => by
      rw [← z, hf] at e
      cases e
    rw [List.getElem?_set_ne ne]
    exact S.fix j w e
theorem SR.wipe {σ : L2.St} {env : PEnv} {As : Nat → List Addr} (S : SR K E F H σ env As) : ∀ {vs : List Nat}, (∀ i ∈ vs, As i = [] ∧ E.fix i = none) → SR K E F H (wipe σ vs) (wipeP env vs) As
  | [], _ => S
  | v :: vs, h => by
    unfold L2.wipe wipeP
    have z := h v List.mem_cons_self
    exact (SR.wipe S fun i hi => h i (List.mem_cons_of_mem _ hi)).forget z.1 z.2
theorem still_As {σ : L2.St} {env : PEnv} {As : Nat → List Addr} (S : SR K E F H σ env As) {vs : List Nat} (h : stillAt env vs = true) : ∀ i ∈ vs, As i = [] := fun i hi => by
  have z := List.all_eq_true.mp h i hi
  by_cases hl : i < env.length
  · obtain ⟨x, _, q⟩ := S.slot i env[i] (List.getElem?_eq_getElem hl)
    rw [List.getElem?_eq_getElem hl] at z
    cases e : env[i] with
    | un => rw [e] at q; exact q
    | v d => rw [e] at q; obtain ⟨_, _, _, q⟩ := q; exact q
    | m c => rw [e] at z; cases z
  · exact S.out i (by omega)
end
end PL

namespace PL
open PySem PySem.Spec PyProof.Rows L2

/-! ### 22. comprehensions, the rule -/
def compK (t : Tg) (tt : PTt) (te : PX) (vs : List Nat) : List PyData → List PyData → PEnv → (List PyData → PEnv → Prop) → Prop
  | [], acc, env, Q => Q acc env
  | d :: ds, acc, env, Q => tgP t d (wipeP env vs) fun env1 => tt env1 fun b env2 => sel b (te env2 fun x env3 => (acc.length < sizeLine ∧ stillAt env3 vs = true) ∧ compK t tt te vs ds (acc ++ [x]) env3 Q) (stillAt env2 vs = true ∧ compK t tt te vs ds acc env2 Q)
def pLc (pi : PIt) (t : Tg) (tt : PTt) (te : PX) (vs : List Nat) : PO := fun env Q => pi env fun ds env1 => stillAt env1 vs = true ∧ compK t tt te vs ds [] env1 fun acc env2 => Q (.m (.ol acc)) (backP env1 env2 vs)
def anyE (K : PySem.W.Frag) (fi : Nat → Option V) (p : PX) : TE := fun σ H Q => ∃ E : Ent, E.fix = fi ∧ liftE K E p σ H Q
def anyT (K : PySem.W.Frag) (fi : Nat → Option V) (p : PTt) : TT := fun σ H Q => ∃ E : Ent, E.fix = fi ∧ liftT K E p σ H Q
theorem pe_any {X : Cx} {e : Expr} {fi : Nat → Option V} {p : PX} (h : ∀ E : Ent, E.fix = fi → PE X e (liftE X.K E p)) : PE X e (anyE X.K fi p) := ⟨fun pins s σ H Q I ⟨E, e, q⟩ => (h E e).run pins s σ H Q I q⟩
theorem pt_any {X : Cx} {e : Expr} {fi : Nat → Option V} {p : PTt} (h : ∀ E : Ent, E.fix = fi → PT X e (liftT X.K E p)) : PT X e (anyT X.K fi p) := ⟨fun pins s σ H Q I ⟨E, e, q⟩ => (h E e).run pins s σ H Q I q⟩
theorem pts_any {X : Cx} {e : Expr} {fi : Nat → Option V} {p : PTt} (h : ∀ E : Ent, E.fix = fi → PT X e (liftT X.K E p)) : PTs X [e] (anyT X.K fi p) := pts_one (pt_any h)
theorem pts_yes {X : Cx} {fi : Nat → Option V} : PTs X [] (anyT X.K fi pYes) := ⟨fun pins s σ H Q I ⟨E, e, ts, F, env, As, Q', S, fx, p, k⟩ => pts_nil.run pins s σ H Q I (k true F H env As S (Same.refl F) p)⟩
section
variable {K : PySem.W.Frag} {E : Ent} {F H : Hp}
theorem wipe_app {ts : L2.St} : ∀ {vs : List Nat} {σ : L2.St}, (∀ i ∈ vs, i < σ.length) → wipe (σ ++ ts) vs = wipe σ vs ++ ts
  | [], _, _ => rfl
  | v :: vs, σ, h => by
    unfold wipe
    rw [wipe_app fun i hi => h i (List.mem_cons_of_mem _ hi), List.set_append_left]
    rw [wipe_length]
    exact h v List.mem_cons_self
theorem wipeP_out {env : PEnv} {i : Nat} : ∀ {vs : List Nat}, i ∉ vs → (wipeP env vs)[i]? = env[i]?
  | [], _ => rfl
  | v :: vs, h => by
    unfold wipeP
    rw [List.getElem?_set_ne fun z => h (by rw [z]; exact List.mem_cons_self)]
    exact wipeP_out fun z => h (List.mem_cons_of_mem _ z)
theorem wipeP_wipeP_un {env : PEnv} {i : Nat} : ∀ {vs : List Nat}, i ∈ vs → i < env.length → (wipeP env vs)[i]? = some .un
  | v :: vs, h, hl => by
    unfold wipeP
    by_cases e : v = i
    · subst e
      exact List.getElem?_set_self (by rw [wipeP_length]; exact hl)
    · rw [List.getElem?_set_ne e]
      exact wipeP_wipeP_un ((List.mem_cons.mp h).elim (fun z => absurd z.symm e) id) hl
/-- something else in the heap changes -/
theorem SR.other {σ : L2.St} {env : PEnv} {As : Nat → List Addr} (S : SR K E F H σ env As) {D : Addr} {o : HO} (hF : F D = none) (hA : ∀ i, D ∉ As i) (hE : E.B D ∨ E.H0 D = none) : SR K E F (upd H D o) σ env As where
  sub := fun b u e => by
    rw [upd_ne fun z => by rw [z, hF] at e; cases e]
    exact S.sub b u e
  f0 := S.f0
  grow := S.grow
  keep := fun b u e n => by
    rw [upd_ne fun z => by
      rw [z] at e n
      rcases hE with y | y
      · exact n y
      · rw [y] at e; cases e]
    exact S.keep b u e n
  len := S.len
  slot := fun i s e => by
    obtain ⟨x, h1, h2⟩ := S.slot i s e
    exact ⟨x, h1, h2.to (Same.refl F) fun a ha => upd_ne fun z => hA i (by rw [← z]; exact ha)⟩
  out := S.out
  own := S.own
  nd := S.nd
  disj := S.disj
  fix := S.fix
theorem le_lc {pi : PIt} {t : Tg} {tt : PTt} {te : PX} {vs : List Nat} {n : Nat} (ht : ∀ i ∈ t.is, i ∈ vs) (hv : ∀ i ∈ vs, i < n ∧ E.fix i = none) {σ : L2.St} (hn : σ.length = n) {Q : VK} (q0 : liftO K E (pLc pi t tt te vs) σ H Q) :
    tLc (liftI K E pi) (tgT K t) (anyT K E.fix tt) (anyE K E.fix te) vs σ H Q := by
  obtain ⟨ts, F0, env0, As0, Q', S0, fx, p, k⟩ := q0
  refine ⟨ts, F0, env0, As0, _, S0, fx, p, fun ds J F1 H1 env1 As1 S1 f1 fd ⟨hst, q⟩ D hD => ?_⟩
  have vlt : ∀ i ∈ vs, i < σ.length := fun i hi => by rw [hn]; exact (hv i hi).1
  have ED : E.B D ∨ E.H0 D = none := (S1.free hD).symm
  have wl : (wipe σ vs ++ ts).length = (σ ++ ts).length := by rw [List.length_append, List.length_append, wipe_length]
  refine ⟨fun i m H => m = ds.length - i ∧ i ≤ ds.length ∧ ∃ F env As acc accV, SR K E F H (wipe σ vs ++ ts) (wipeP env vs) As ∧ Same F1 F ∧ env.length = env1.length ∧ (H D = some (.lst accV) ∧ FpAll F accV acc ∧ F D = none ∧ ∀ i, D ∉ As i) ∧
    (∀ i ∈ vs, As i = []) ∧ compK t tt te vs (ds.drop i) acc env fun acc env2 => Q' (.m (.ol acc)) (backP env1 env2 vs), ⟨ds.length, by omega, Nat.zero_le _, F1, env1, As1, [], [], ?_, Same.refl F1, rfl, ⟨upd_same, .nil, S1.sub.free hD, fun i h => S1.live i D h hD⟩, still_As S1 hst, q⟩, ?_⟩
  · have z := (S1.gr (Gr.made (o := HO.lst []) S1.sub hD)).wipe (vs := vs) fun i hi => ⟨still_As S1 hst i hi, (hv i hi).2⟩
    rw [wipe_app vlt] at z
    exact z
  rintro i m H ⟨rfl, hi, F, env, As, acc, accV, S, f, el, ⟨hH, hA, hFD, hAD⟩, hAv, q⟩
  obtain ⟨go, stop⟩ := fd i H F f S.sub
  by_cases hlt : i < ds.length
  · have e : ds[i]? = some ds[i] := List.getElem?_eq_getElem hlt
    obtain ⟨g1, g2⟩ := go _ e
    rw [List.drop_eq_getElem_cons hlt] at q
    refine .inr ⟨g1, fun H' => ∃ F env As acc accV, SR K E F H' (wipe σ vs ++ ts) (wipeP env vs) As ∧ Same F1 F ∧ env.length = env1.length ∧ (H' D = some (.lst accV) ∧ FpAll F accV acc ∧ F D = none ∧ ∀ i, D ∉ As i) ∧ (∀ i ∈ vs, As i = []) ∧
      compK t tt te vs (ds.drop (i + 1)) acc env fun acc env2 => Q' (.m (.ol acc)) (backP env1 env2 vs), fun H' z => ⟨ds.length - (i + 1), by omega, rfl, hlt, z⟩, fun x H' y => ?_⟩
    obtain ⟨F2, g, h⟩ := g2 x H' y
    have S2 := S.gr g
    have q' : tgP t ds[i] (wipeP env vs) fun env1' => tt env1' fun b env2 => sel b (te env2 fun x env3 => (acc.length < sizeLine ∧ stillAt env3 vs = true) ∧ compK t tt te vs (ds.drop (i + 1)) (acc ++ [x]) env3 (fun acc env2 => Q' (.m (.ol acc)) (backP env1 env2 vs))) (stillAt env2 vs = true ∧ compK t tt te vs (ds.drop (i + 1)) acc env2 (fun acc env2 => Q' (.m (.ol acc)) (backP env1 env2 vs))) := q
    unfold tgP at q'
    split at q'
    · rename_i bs eb
      obtain ⟨ws, b1, b2, b3⟩ := tg_lift (K := K) S2.sub t h eb
      refine b3 (wipe σ vs) _ ?_
      have wsv : ∀ p ∈ ws, p.1 ∈ vs := fun p hp => by
        have : ∀ {ws : List (Nat × V)} {bs : List (Nat × PyData)}, BdOk F2 ws bs → ∀ p ∈ ws, p.1 ∈ bs.map (·.1) := by
          intro ws bs h
          induction h with
          | nil => intro p hp; cases hp
          | cons h r ih =>
            intro p hp
            rcases List.mem_cons.mp hp with z | z
            · rw [z, List.map_cons, h.1]; exact List.mem_cons_self
            · rw [List.map_cons]; exact List.mem_cons_of_mem _ (ih p z)
        have z := this b1 p hp
        rw [b2] at z
        exact ht _ z
      have sva : setVs (wipe σ vs ++ ts) ws = setVs (wipe σ vs) ws ++ ts := by
        have : ∀ (ws : List (Nat × V)) (σ : L2.St), (∀ p ∈ ws, p.1 < σ.length) → setVs (σ ++ ts) ws = setVs σ ws ++ ts := by
          intro ws
          induction ws with
          | nil => intro σ _; rfl
          | cons p r ih =>
            intro σ hp
            obtain ⟨j, w⟩ := p
            show setVs ((σ ++ ts).set j (some w)) r = setVs (σ.set j (some w)) r ++ ts
            rw [List.set_append_left _ _ (hp (j, w) List.mem_cons_self)]
            exact ih _ fun p hp' => by rw [List.length_set]; exact hp p (List.mem_cons_of_mem _ hp')
        exact this ws _ fun p hp => by rw [wipe_length]; exact vlt _ (wsv p hp)
      obtain ⟨As3, S3, sub3⟩ := SR.setDs S2 b1 fun p hp => by
        have z := hv p.1 (ht _ (by rw [← b2]; exact List.mem_map.mpr ⟨p, hp, rfl⟩))
        refine ⟨?_, z.2⟩
        rw [← S2.len, wl, List.length_append]
        omega
      rw [sva] at S3
      have ww : wipe (setVs (wipe σ vs) ws) vs = wipe σ vs := by
        rw [wipe_setVs wsv]
        have : ∀ (us : List Nat) (σ : L2.St), wipe (wipe σ us) us = wipe σ us := by
          intro us σ
          have aux : ∀ (xs : List Nat) (σ : L2.St), (∀ x ∈ xs, σ[x]? = some none ∨ σ[x]? = none) → wipe σ xs = σ := by
            intro xs
            induction xs with
            | nil => intro σ _; rfl
            | cons x xs ih =>
              intro σ h
              unfold wipe
              rw [ih σ fun y hy => h y (List.mem_cons_of_mem _ hy)]
              refine List.ext_getElem? fun j => ?_
              by_cases hj : x = j
              · subst hj
                rcases h x List.mem_cons_self with z | z
                · rw [List.getElem?_set_self (List.getElem?_eq_some_iff.mp z).1, z]
                · rw [z, List.getElem?_eq_none]
                  rw [List.length_set]
                  exact List.getElem?_eq_none_iff.mp z
              · rw [List.getElem?_set_ne hj]
          refine aux us _ fun x hx => ?_
          have : ∀ (us : List Nat), x ∈ us → (wipe σ us)[x]? = some none ∨ (wipe σ us)[x]? = none := by
            intro us
            induction us with
            | nil => intro h; cases h
            | cons u us ih =>
              intro h
              unfold wipe
              by_cases e : u = x
              · subst e
                by_cases hl : u < (wipe σ us).length
                · exact .inl (List.getElem?_set_self hl)
                · exact .inr (List.getElem?_eq_none (by rw [List.length_set]; omega))
              · rw [List.getElem?_set_ne e]
                exact ih ((List.mem_cons.mp h).elim (fun z => absurd z.symm e) id)
          exact this us hx
        exact this vs σ
      refine ⟨ww, ?_⟩
      have hH2 : H' D = some (.lst accV) := g.hh _ _ hH
      have nD : ∀ j, D ∉ As3 j := fun j z => hAD j (sub3 j D z)
      have hF2 : F2 D = none := g.off hFD (some_ne hH) (ntp_of hH fun _ z => nomatch z)
      have lσ2 : (setVs (wipe σ vs) ws).length = σ.length := (setVs_length ws _).trans (wipe_length σ vs)
      have fx2 : FixIn (reE E F2 H' As3) (setVs (wipe σ vs) ws) := fx.to lσ2
      -- behind the block: D stands, the slots are as at the turn's start
      have fin : ∀ {F4 H4 env4 As4}, SR K (reE E F2 H' As3) F4 H4 (setVs (wipe σ vs) ws ++ ts) env4 As4 → Same F2 F4 → stillAt env4 vs = true →
          SR K E F4 H4 (wipe σ vs ++ ts) (wipeP env4 vs) As4 ∧ H4 D = some (.lst accV) ∧ F4 D = none ∧ (∀ j, D ∉ As4 j) ∧ (∀ i ∈ vs, As4 i = []) ∧ env4.length = env1.length := fun {F4 H4 env4 As4} S4 f4 st => by
        obtain ⟨h1, h2⟩ := S4.held (some_ne hH2) (ntp_of hH2 fun _ z => nomatch z) nD
        have av := still_As S4 st
        have z := (S3.unre S4).wipe (vs := vs) fun i hi => ⟨av i hi, (hv i hi).2⟩
        rw [wipe_app (fun i hi => by rw [lσ2]; exact vlt i hi), ww] at z
        refine ⟨z, h1.trans hH2, h2 hF2, fun j y => ?_, av, ?_⟩
        · rcases (S4.own j D y).2 with ⟨i, w⟩ | w
          · exact nD i w
          · exact some_ne hH2 w
        · have l4 := S4.len
          have l1 := S1.len
          rw [List.length_append] at l4 l1
          omega
      refine ⟨reE E F2 H' As3, rfl, ts, F2, _, As3, _, S3.re, fx2, q', fun b F3 H3 env3 As3' S3' f3 q3 => ?_⟩
      cases b with
      | true =>
        rw [sel_tt] at q3; rw [if_pos rfl]
        refine ⟨reE E F2 H' As3, rfl, ts, F3, env3, As3', _, S3', fx2, q3, fun y x F4 H4 env4 As4 S4 f4 h4 ⟨⟨hz, st⟩, q4⟩ => ?_⟩
        obtain ⟨z1, z2, z3, z4, z5, z6⟩ := fin S4 (f3.trans f4) st
        refine ⟨accV, z2, by rw [hA.length]; exact hz, F4, env4, As4, acc ++ [x], accV ++ [y], z1.other z3 z4 ED, ((f.trans g.ff).trans f3).trans f4, z6, ⟨upd_same, (((hA.to g.ff).to f3).to f4).app (.cons h4 .nil), z3, z4⟩, z5, q4⟩
      | false =>
        rw [sel_ff] at q3; rw [if_neg Bool.false_ne_true]
        obtain ⟨st, q4⟩ := q3
        obtain ⟨z1, z2, z3, z4, z5, z6⟩ := fin S3' f3 st
        exact ⟨F3, env3, As3', acc, accV, z1, (f.trans g.ff).trans f3, z6, ⟨z2, (hA.to g.ff).to f3, z3, z4⟩, z5, q4⟩
    · exact q'.elim
  · have e : i = ds.length := by omega
    subst e
    rw [List.drop_length] at q
    refine .inl ⟨stop (Nat.le_refl _), ?_⟩
    have q' : Q' (.m (.ol acc)) (backP env1 env vs) := q
    refine k (.ref D) (.m (.ol acc)) [D] F H (backP env1 env vs) As ?_ (f1.trans f) ⟨⟨_, rfl, .ol hH hA⟩, by simp, fun a ha => ?_, fun j a ha z => ?_⟩ q'
    · refine ⟨S.sub, S.f0, S.grow, S.keep, ?_, fun j s e => ?_, fun j hj => S.out j ?_, S.own, S.nd, S.disj, S1.fix⟩
      · rw [S1.len]
        rw [backP_eq]
        rw [List.length_mapIdx]
        exact el.symm
      · rw [backP_eq] at e
        rw [List.getElem?_mapIdx] at e
        obtain ⟨s0, e0, e1⟩ := Option.map_eq_some_iff.mp e
        have hj := (List.getElem?_eq_some_iff.mp e0).1
        by_cases c : j ∈ vs
        · rw [if_pos c, List.getD_eq_getElem?_getD, List.getElem?_eq_getElem (by omega)] at e1
          have e1' : env1[j]'(by omega) = s := e1
          obtain ⟨x, h1, h2⟩ := S1.slot j _ (List.getElem?_eq_getElem (by omega))
          refine ⟨x, h1, ?_⟩
          rw [hAv j c, ← e1']
          have z := List.all_eq_true.mp hst j c
          rw [List.getElem?_eq_getElem (by omega)] at z
          have z2 := still_As S1 hst j c
          rw [z2] at h2
          exact h2.to f fun a ha => absurd ha (by simp)
        · rw [if_neg c] at e1
          subst e1
          obtain ⟨x, h1, h2⟩ := S.slot j s0 (by rw [wipeP_out c]; exact e0)
          refine ⟨x, ?_, h2⟩
          rw [← wipe_app vlt] at h1
          rw [wipe_out c] at h1
          exact h1
      · rw [backP_eq] at hj
        rw [List.length_mapIdx] at hj
        rw [wipeP_length]
        exact hj
    · rw [List.mem_singleton.mp ha]
      exact ⟨hFD, ED⟩
    · rw [List.mem_singleton.mp ha] at z
      exact hAD j z
end
section
variable {X : Cx} {E : Ent} {elt tg iter : Expr} {ifs : List Expr} {scope : Scope} {own : List (Str × Nat)} {pos spos py : Pos} {pi : PIt} {t : Tg} {tt : PTt} {te : PX} {i : Nat} {y : Str}
/-- [elt for tg in iter ..] -/
theorem l_lc (hc : X.calm = true) (hN : X.N.Nodup) (hi : PI X tg iter (liftI X.K E pi)) (ok : blkC X.N X.env.scope scope own = true) (ht : ∀ i ∈ t.is, i ∈ own.map (·.2)) (hv : ∀ i ∈ own.map (·.2), i < X.N.length ∧ E.fix i = none)
    (hg : ∀ (s : Shared) (H : Hp) (C : Addr) (cl : List (Str × Addr)) (fp : List Addr), PG (X.blk s H scope (compEnvC scope cl C X.env) fp) tg (tgT X.K t)) (hts : ∀ (s : Shared) (H : Hp) (C : Addr) (cl : List (Str × Addr)) (fp : List Addr), PTs (X.blk s H scope (compEnvC scope cl C X.env) fp) ifs (anyT X.K E.fix tt))
    (he : ∀ (s : Shared) (H : Hp) (C : Addr) (cl : List (Str × Addr)) (fp : List Addr), PE (X.blk s H scope (compEnvC scope cl C X.env) fp) elt (anyE X.K E.fix te)) (hs : ∀ x, foldedSetIterable iter X.env x = pure x := by intro _; rfl) :
    PE X (.ListComp elt [⟨tg, iter, ifs, 0⟩] scope pos) (liftO X.K E (pLc pi t tt te (own.map (·.2)))) :=
  ⟨fun pins s σ H Q I q => (pe_lc hc hN hi (blkOk_by ok) hg hts he hs).run pins s σ H Q I (le_lc (n := X.N.length) ht hv I.len q)⟩
/-- name = [..] on one line -/
theorem ls_lc (hy : X.N[i]? = some y) (hyl : X.env.scope.names.lookup y = some .local) (hf : E.fix i = none) (hsw : swapsWith (.ListComp elt [⟨tg, iter, ifs, 0⟩] scope pos) (some (.Name y py)) spos.line X.env = pure true) (hc : X.calm = true) (hN : X.N.Nodup) (hi : PI X tg iter (liftI X.K E pi)) (ok : blkC X.N X.env.scope scope own = true) (ht : ∀ i ∈ t.is, i ∈ own.map (·.2)) (hv : ∀ i ∈ own.map (·.2), i < X.N.length ∧ E.fix i = none)
    (hg : ∀ (s : Shared) (H : Hp) (C : Addr) (cl : List (Str × Addr)) (fp : List Addr), PG (X.blk s H scope (compEnvC scope cl C X.env) fp) tg (tgT X.K t)) (hts : ∀ (s : Shared) (H : Hp) (C : Addr) (cl : List (Str × Addr)) (fp : List Addr), PTs (X.blk s H scope (compEnvC scope cl C X.env) fp) ifs (anyT X.K E.fix tt))
    (he : ∀ (s : Shared) (H : Hp) (C : Addr) (cl : List (Str × Addr)) (fp : List Addr), PE (X.blk s H scope (compEnvC scope cl C X.env) fp) elt (anyE X.K E.fix te)) (hs : ∀ x, foldedSetIterable iter X.env x = pure x := by intro _; rfl) :
    PS X (.Assign [.Name y py] (.ListComp elt [⟨tg, iter, ifs, 0⟩] scope pos) spos) (liftS X.K E (pSet i (pLc pi t tt te (own.map (·.2))))) := by
  refine ⟨fun pins s σ H D I ⟨F, env, As, D', S, fx, p, k⟩ => (ps_setLc hc hN hy hyl hsw hi (blkOk_by ok) hg hts he hs).run pins s σ H D I (le_lc (n := X.N.length) ht hv I.len ⟨[], F, env, As, _, app_nil_SR S, fx, p, fun v r ar F1 H1 env1 As1 S1 f1 R q => ?_⟩)⟩
  have S1' := nil_app_SR S1
  have hi : i < env1.length := by rw [← S1'.len, I.len]; exact (List.getElem?_eq_some_iff.mp hy).1
  exact k.nx _ F1 H1 _ _ (List.length_set ..) (S1'.set R hi hf) f1 q
end
end PL

namespace PL
open PySem PySem.Spec PyProof.Rows L2

/-! ### 23. lists of ints, sorted -/
def intsOf : List PyData → Option (List Int)
  | [] => some []
  | .int i :: r => (intsOf r).map (i :: ·)
  | _ :: _ => none
theorem intsOf_map : ∀ ns : List Int, intsOf (ns.map PyData.int) = some ns
  | [] => rfl
  | n :: ns => by
    show (intsOf (ns.map PyData.int)).map (n :: ·) = _
    rw [intsOf_map ns]
    rfl
theorem intsOf_eq : ∀ {ds : List PyData} {ns : List Int}, intsOf ds = some ns → ds = ns.map PyData.int
  | [], _, e => by cases e; rfl
  | .int i :: r, ns, e => by
    obtain ⟨ms, e1, e2⟩ := Option.map_eq_some_iff.mp (show (intsOf r).map (i :: ·) = some ns from e)
    rw [← e2, intsOf_eq e1]
    rfl
  | .none :: _, _, e => by cases e
  | .bool _ :: _, _, e => by cases e
  | .str _ :: _, _, e => by cases e
  | .list _ :: _, _, e => by cases e
  | .tuple _ :: _, _, e => by cases e
  | .dict _ :: _, _, e => by cases e
def blsOf : List PyData → Option (List Bool)
  | [] => some []
  | .bool i :: r => (blsOf r).map (i :: ·)
  | _ :: _ => none
theorem blsOf_eq : ∀ {ds : List PyData} {ns : List Bool}, blsOf ds = some ns → ds = ns.map PyData.bool
  | [], _, e => by cases e; rfl
  | .bool i :: r, ns, e => by
    obtain ⟨ms, e1, e2⟩ := Option.map_eq_some_iff.mp (show (blsOf r).map (i :: ·) = some ns from e)
    rw [← e2, blsOf_eq e1]
    rfl
  | .none :: _, _, e => by cases e
  | .int _ :: _, _, e => by cases e
  | .str _ :: _, _, e => by cases e
  | .list _ :: _, _, e => by cases e
  | .tuple _ :: _, _, e => by cases e
  | .dict _ :: _, _, e => by cases e
theorem blsOf_map : ∀ ns : List Bool, blsOf (ns.map PyData.bool) = some ns
  | [] => rfl
  | n :: ns => by
    show (blsOf (ns.map PyData.bool)).map (n :: ·) = _
    rw [blsOf_map ns]
    rfl
/-- insertion sort -/
def insI (x : Int) : List Int → List Int
  | [] => [x]
  | y :: r => if x ≤ y then x :: y :: r else y :: insI x r
def sortI : List Int → List Int
  | [] => []
  | x :: r => insI x (sortI r)
theorem insI_perm (x : Int) : ∀ r : List Int, (insI x r).Perm (x :: r)
  | [] => List.Perm.refl _
  | y :: r => by
    unfold insI
    split
    · exact List.Perm.refl _
    · exact ((insI_perm x r).cons y).trans (List.Perm.swap x y r)
theorem sortI_perm : ∀ r : List Int, (sortI r).Perm r
  | [] => List.Perm.refl _
  | x :: r => (insI_perm x _).trans ((sortI_perm r).cons x)
theorem insI_sorted (x : Int) : ∀ {r : List Int}, r.Pairwise (· ≤ ·) → (insI x r).Pairwise (· ≤ ·)
  | [], _ => by unfold insI; exact List.pairwise_singleton _ _
  | y :: r, h => by
    unfold insI
    obtain ⟨h1, h2⟩ := List.pairwise_cons.mp h
    split
    · rename_i hx
      exact List.pairwise_cons.mpr ⟨fun z hz => by
        rcases List.mem_cons.mp hz with rfl | hz
        · exact hx
        · exact Int.le_trans hx (h1 z hz), h⟩
    · rename_i hx
      refine List.pairwise_cons.mpr ⟨fun z hz => ?_, insI_sorted x h2⟩
      rcases List.mem_cons.mp ((insI_perm x r).mem_iff.mp hz) with rfl | hz
      · omega
      · exact h1 z hz
theorem sortI_sorted : ∀ r : List Int, (sortI r).Pairwise (· ≤ ·)
  | [] => .nil
  | x :: r => insI_sorted x (sortI_sorted r)
theorem sortI_eq {a b : List Int} (h : a.Perm b) (s : a.Pairwise (· ≤ ·)) : a = sortI b := PySem.W.ksm_same (h.trans (sortI_perm b).symm) s (sortI_sorted b)
theorem sortI_rev {a b : List Int} (h : a.Perm b) (s : a.Pairwise (· ≥ ·)) : a = (sortI b).reverse := by
  have z : a.reverse = sortI b := sortI_eq ((List.reverse_perm a).trans h) (List.pairwise_reverse.mpr s)
  rw [← z, List.reverse_reverse]

/-! ### 24. built-in functions on data -/
def lenD : List PyData → (Sl → Prop) → Prop
  | [.list ds], P => P (.v (.int ds.length))
  | [.tuple ds], P => P (.v (.int ds.length))
  | [.str z], P => z.length ≤ sizeLine ∧ P (.v (.int z.length))
  | _, _ => False
def absD : List PyData → (Sl → Prop) → Prop
  | [.int i], P => P (.v (.int (if i < 0 then -i else i)))
  | _, _ => False
def maxD : List PyData → (Sl → Prop) → Prop
  | [.int i, .int j], P => P (.v (.int (if j > i then j else i)))
  | [.int i, .int j, .int k], P => P (.v (.int (max (max i j) k)))
  | [.list ds], P => match intsOf ds with
    | some ns => 0 < ns.length ∧ ∀ m, m ∈ ns → (∀ y, y ∈ ns → y ≤ m) → P (.v (.int m))
    | none => False
  | _, _ => False
def minD : List PyData → (Sl → Prop) → Prop
  | [.int i, .int j], P => P (.v (.int (if j < i then j else i)))
  | [.list ds], P => match intsOf ds with
    | some ns => 0 < ns.length ∧ ∀ m, m ∈ ns → (∀ y, y ∈ ns → m ≤ y) → P (.v (.int m))
    | none => False
  | _, _ => False
def intD : List PyData → (Sl → Prop) → Prop
  | [.int i], P => P (.v (.int i))
  | [.bool k], P => P (.v (.int (if k then 1 else 0)))
  | _, _ => False
def sumD : List PyData → (Sl → Prop) → Prop
  | [.list ds], P => match intsOf ds with
    | some ns => P (.v (.int ns.sum))
    | none => False
  | _, _ => False
def anyD : List PyData → (Sl → Prop) → Prop
  | [.list ds], P => match blsOf ds with
    | some ns => P (.v (.bool (ns.any id)))
    | none => False
  | _, _ => False
def allD : List PyData → (Sl → Prop) → Prop
  | [.list ds], P => match blsOf ds with
    | some ns => P (.v (.bool (ns.all id)))
    | none => False
  | _, _ => False
def sortedD : List PyData → (Sl → Prop) → Prop
  | [.list ds], P => match intsOf ds with
    | some ns => P (.m (.ol ((sortI ns).map .int)))
    | none => False
  | _, _ => False
/-- list(x) of a list or a tuple -/
def copyD : List PyData → (Sl → Prop) → Prop
  | [.list ds], P => P (.m (.ol ds))
  | [.tuple ds], P => P (.m (.ol ds))
  | _, _ => False
section
variable {X : Cx} {E : Ent} {K : PySem.W.Frag}
theorem FpAll.one {F : Hp} {xs : List V} {d : PyData} (h : FpAll F xs [d]) : ∃ v, xs = [v] ∧ Fp F v d := by
  cases h with
  | cons h r =>
    cases r
    exact ⟨_, rfl, h⟩
theorem FpAll.two {F : Hp} {xs : List V} {d e : PyData} (h : FpAll F xs [d, e]) : ∃ v u, xs = [v, u] ∧ Fp F v d ∧ Fp F u e := by
  cases h with
  | cons h r =>
    obtain ⟨u, rfl, hu⟩ := r.one
    exact ⟨_, u, rfl, h, hu⟩
theorem FpAll.three {F : Hp} {xs : List V} {d e f : PyData} (h : FpAll F xs [d, e, f]) : ∃ v u w, xs = [v, u, w] ∧ Fp F v d ∧ Fp F u e ∧ Fp F w f := by
  cases h with
  | cons h r =>
    obtain ⟨u, w, rfl, hu, hw⟩ := r.two
    exact ⟨_, u, w, rfl, h, hu, hw⟩
theorem Fp.ints_inv {F H : Hp} (s : Same F H) {x : V} {ds : List PyData} {ns : List Int} (h : Fp F x (.list ds)) (e : intsOf ds = some ns) : ∃ a, x = .ref a ∧ SqL K H a (ns.map V.int) := by
  obtain ⟨a, vs, rfl, ha, ra⟩ := h.lst_inv
  rw [intsOf_eq e] at ra
  rw [FpAll.of_ints ra] at ha
  exact ⟨a, rfl, SqL.of (s _ _ ha)⟩
theorem FpAll.of_bls {F : Hp} : ∀ {vs : List V} {ns : List Bool}, FpAll F vs (ns.map PyData.bool) → vs = ns.map V.bl
  | _, [], h => by cases h; rfl
  | _, n :: ns, h => by
    rw [List.map_cons] at h
    cases h with
    | cons h r =>
      cases h
      rw [FpAll.of_bls r]
      rfl
theorem Fp.bls_inv {F H : Hp} (s : Same F H) {x : V} {ds : List PyData} {ns : List Bool} (h : Fp F x (.list ds)) (e : blsOf ds = some ns) : ∃ a, x = .ref a ∧ SqL K H a (ns.map V.bl) := by
  obtain ⟨a, vs, rfl, ha, ra⟩ := h.lst_inv
  rw [blsOf_eq e] at ra
  rw [FpAll.of_bls ra] at ha
  exact ⟨a, rfl, SqL.of (s _ _ ha)⟩
theorem c_len : CallR X (.builtin "len") (fun xs H Q => (∃ p ys, xs = [.ref p] ∧ (SqL X.K H p ys ∨ SqT X.K H p ys) ∧ Q (.int ys.length) H) ∨ ∃ z, xs = [.str z] ∧ z.length ≤ sizeLine ∧ Q (.int z.length) H) := call_len_seq.or call_len_str
theorem o_len : OpL K (fun xs H Q => (∃ p ys, xs = [.ref p] ∧ (SqL K H p ys ∨ SqT K H p ys) ∧ Q (.int ys.length) H) ∨ ∃ z, xs = [.str z] ∧ z.length ≤ sizeLine ∧ Q (.int z.length) H) lenD := by
  intro F H xs ds Q P s h p k
  unfold lenD at p
  split at p
  · obtain ⟨v, rfl, hv⟩ := h.one
    obtain ⟨a, vs, rfl, ha, ra⟩ := hv.lst_inv
    exact .inl ⟨a, vs, rfl, .inl (SqL.of (s _ _ ha)), by rw [ra.length]; exact k.flat s (.int _) p⟩
  · obtain ⟨v, rfl, hv⟩ := h.one
    obtain ⟨a, vs, rfl, ha, ra⟩ := hv.tup_inv
    exact .inl ⟨a, vs, rfl, .inr (SqT.of (s _ _ ha)), by rw [ra.length]; exact k.flat s (.int _) p⟩
  · obtain ⟨v, rfl, hv⟩ := h.one
    exact .inr ⟨_, by rw [hv.str_inv], p.1, k.flat s (.int _) p.2⟩
  · exact p.elim
theorem o_abs : OpL K (fun xs H Q => ∃ i, xs = [.int i] ∧ Q (.int (if i < 0 then -i else i)) H) absD := by
  intro F H xs ds Q P s h p k
  unfold absD at p
  split at p
  · obtain ⟨v, rfl, hv⟩ := h.one
    exact ⟨_, by rw [hv.int_inv], k.flat s (.int _) p⟩
  · exact p.elim
def rMxA (K : PySem.W.Frag) : List V → Hp → VK → Prop := fun xs H Q => ((∃ i j, xs = [.int i, .int j] ∧ Q (.int (if j > i then j else i)) H) ∨ rMax K xs H Q) ∨ rNuC3 nuMax3 xs H Q
theorem c_max (hc : X.calm = true) : CallR X (.builtin "max") (rMxA X.K) := ((call_max2 hc).or (cr_max hc)).or (call_max3Nu hc)
theorem nuMax3_int (i j k : Int) : nuMax3 (.int i) (.int j) (.int k) = some (.int (max (max i j) k)) := by
  have e : ∀ a b : Int, nuMax2 (.int a) (.int b) = some (.int (max a b)) := by
    intro a b
    show some (if decide (a < b) = true then V.int b else V.int a) = _
    by_cases h : a < b
    · rw [if_pos (decide_eq_true h), Int.max_eq_right (by omega)]
    · rw [if_neg (by simpa using h), Int.max_eq_left (by omega)]
  show (nuMax2 (.int i) (.int j)).bind (fun m => nuMax2 m (.int k)) = _
  rw [e, Option.bind_some, e]
theorem c_min (hc : X.calm = true) : CallR X (.builtin "min") (fun xs H Q => (∃ i j, xs = [.int i, .int j] ∧ Q (.int (if j < i then j else i)) H) ∨ rMin X.K xs H Q) := (call_min2 hc).or (cr_min hc)
theorem o_max : OpL K (rMxA K) maxD := by
  intro F H xs ds Q P s h p k
  unfold maxD at p
  split at p
  · obtain ⟨v, u, rfl, hv, hu⟩ := h.two
    exact .inl (.inl ⟨_, _, by rw [hv.int_inv, hu.int_inv], k.flat s (.int _) p⟩)
  · obtain ⟨v, u, w, rfl, hv, hu, hw⟩ := h.three
    refine .inr ⟨_, _, _, _, rfl, ?_, k.flat s (.int _) p⟩
    rw [hv.int_inv, hu.int_inv, hw.int_inv]
    exact nuMax3_int ..
  · obtain ⟨v, rfl, hv⟩ := h.one
    split at p
    · rename_i ns e
      obtain ⟨a, rfl, hs⟩ := hv.ints_inv (K := K) s e
      exact .inl (.inr ⟨a, ns, rfl, hs, p.1, fun m h1 h2 => k.flat s (.int _) (p.2 m h1 h2)⟩)
    · exact p.elim
  · exact p.elim
theorem o_min : OpL K (fun xs H Q => (∃ i j, xs = [.int i, .int j] ∧ Q (.int (if j < i then j else i)) H) ∨ rMin K xs H Q) minD := by
  intro F H xs ds Q P s h p k
  unfold minD at p
  split at p
  · obtain ⟨v, u, rfl, hv, hu⟩ := h.two
    exact .inl ⟨_, _, by rw [hv.int_inv, hu.int_inv], k.flat s (.int _) p⟩
  · obtain ⟨v, rfl, hv⟩ := h.one
    split at p
    · rename_i ns e
      obtain ⟨a, rfl, hs⟩ := hv.ints_inv (K := K) s e
      exact .inr ⟨a, ns, rfl, hs, p.1, fun m h1 h2 => k.flat s (.int _) (p.2 m h1 h2)⟩
    · exact p.elim
  · exact p.elim
theorem o_int : OpL K (fun xs H Q => (∃ i, xs = [.int i] ∧ Q (.int i) H) ∨ ∃ k, xs = [.bl k] ∧ Q (.int (if k then 1 else 0)) H) intD := by
  intro F H xs ds Q P s h p k
  unfold intD at p
  split at p
  · obtain ⟨v, rfl, hv⟩ := h.one
    exact .inl ⟨_, by rw [hv.int_inv], k.flat s (.int _) p⟩
  · obtain ⟨v, rfl, hv⟩ := h.one
    exact .inr ⟨_, by rw [hv.bl_inv], k.flat s (.int _) p⟩
  · exact p.elim
theorem o_sum : OpL K (rSum K) sumD := by
  intro F H xs ds Q P s h p k
  unfold sumD at p
  split at p
  · obtain ⟨v, rfl, hv⟩ := h.one
    split at p
    · rename_i ns e
      obtain ⟨a, rfl, hs⟩ := hv.ints_inv (K := K) s e
      exact ⟨a, ns, rfl, hs, k.flat s (.int _) p⟩
    · exact p.elim
  · exact p.elim
theorem o_any : OpL K (rAny K) anyD := by
  intro F H xs ds Q P s h p k
  unfold anyD at p
  split at p
  · obtain ⟨v, rfl, hv⟩ := h.one
    split at p
    · rename_i ns e
      obtain ⟨a, rfl, hs⟩ := hv.bls_inv (K := K) s e
      exact ⟨a, ns, rfl, hs, k.flat s (.bl _) p⟩
    · exact p.elim
  · exact p.elim
theorem o_all : OpL K (rAll K) allD := by
  intro F H xs ds Q P s h p k
  unfold allD at p
  split at p
  · obtain ⟨v, rfl, hv⟩ := h.one
    split at p
    · rename_i ns e
      obtain ⟨a, rfl, hs⟩ := hv.bls_inv (K := K) s e
      exact ⟨a, ns, rfl, hs, k.flat s (.bl _) p⟩
    · exact p.elim
  · exact p.elim
theorem o_sorted : OpL K (rSortedI K) sortedD := by
  intro F H xs ds Q P s h p k
  unfold sortedD at p
  split at p
  · obtain ⟨v, rfl, hv⟩ := h.one
    split at p
    · rename_i ns e
      obtain ⟨a, rfl, hs⟩ := hv.ints_inv (K := K) s e
      refine ⟨a, ns, rfl, hs, fun ns' q h1 h2 hq => ?_⟩
      rw [sortI_eq h1 h2]
      exact k.list s (FpAll.ints _) p q hq
    · exact p.elim
  · exact p.elim
theorem o_copy : OpL K (fun xs H Q => ∃ p ys, xs = [.ref p] ∧ (SqL K H p ys ∨ SqT K H p ys) ∧ ∀ l, H l = none → Q (.ref l) (upd H l (.lst ys))) copyD := by
  intro F H xs ds Q P s h p k
  unfold copyD at p
  split at p
  · obtain ⟨v, rfl, hv⟩ := h.one
    obtain ⟨a, vs, rfl, ha, ra⟩ := hv.lst_inv
    exact ⟨a, vs, rfl, .inl (SqL.of (s _ _ ha)), k.list s ra p⟩
  · obtain ⟨v, rfl, hv⟩ := h.one
    obtain ⟨a, vs, rfl, ha, ra⟩ := hv.tup_inv
    exact ⟨a, vs, rfl, .inr (SqT.of (s _ _ ha)), k.list s ra p⟩
  · exact p.elim

/-! sorted(xs, reverse=True) -/
def sortedRD : List PyData → PyData → (Sl → Prop) → Prop
  | [.list ds], .bool true, P => match intsOf ds with
    | some ns => P (.m (.ol ((sortI ns).reverse.map .int)))
    | none => False
  | _, _, _ => False
def pSortedR (pa pk : PAs) : PO := fun env Q => pa env fun gs env1 => pk env1 fun hs env2 => match agD? gs, agD? hs with
  | some ds, some [b] => sortedRD ds b fun r => Q r env2
  | _, _ => False
theorem l_sortedR {x : Str} {p pos : Pos} {e : Expr} {es : List Expr} {kws : List Keyword} {pa pk : PAs} (hg : Gl X x) (hm : X.mg x = none) (hv : bootBuiltins x = some (.builtin "sorted")) (ha : PA X (e :: es) (liftA X.K E pa)) (hk : PK X kws (liftA X.K E pk)) (hn : x ≠ "__name__" := by decide) (hdb : (x == ("__debug__" : Str)) = false := by decide)
    (he : backTo pos (starEach (e :: es) X.env) = (false, eval e X.env) :: backTo pos (starEach es X.env) := by rfl) (hpl : (backTo pos (starEach (e :: es) X.env)).any (·.1) = false := by rfl)
    (hall : (backToKw pos (keywordEach kws X.env)).all (·.1.isSome) = true := by rfl) (hnone : (backToKw pos (keywordEach kws X.env)).any (·.1.isNone) = false := by rfl) (hks : (backToKw pos (keywordEach kws X.env)).filterMap (·.1) = [Str.ofString "reverse"] := by rfl) :
    PE X (.Call (.Name x p) (e :: es) kws pos) (liftO X.K E (pSortedR pa pk)) :=
  pe_w (pe_callBK (cr_sortedRev (b := true)) hg hm hv ha hk hn hdb he hpl hall hnone hks) fun σ H Q ⟨ts, F, env, As, Q', S, fx, p, k⟩ => ⟨ts, F, env, As, _, S, fx, p, fun vs gs F1 H1 env1 As1 S1 f1 P1 q => ⟨ts, F1, env1, As1, _, S1, fx, q, fun zs hs F2 H2 env2 As2 S2 f2 P2 q => by
    split at q
    · rename_i ds b e1 e2
      have h1 := AgOk.ds (AgOk.to f2 P1) e1
      have h2 := AgOk.ds P2 e2
      unfold sortedRD at q
      split at q
      · obtain ⟨v, rfl, hv⟩ := h1.one
        obtain ⟨w, rfl, hw⟩ := h2.one
        split at q
        · rename_i ns e
          obtain ⟨a, rfl, hs⟩ := hv.ints_inv (K := X.K) S2.sub e
          refine ⟨a, ns, rfl, by rw [hw.bl_inv], hs, fun ns' r h3 h4 hr => ?_⟩
          have h5 : ns' = (sortI ns).reverse := sortI_rev h3 (by
            unfold OrdB at h4
            rw [if_pos rfl] at h4
            exact h4)
          rw [h5]
          exact (KN.ko' k S2 (f1.trans f2)).list S2.sub (FpAll.ints _) q r hr
        · exact q.elim
      · exact q.elim
    · exact q.elim⟩⟩

/-! list(range(..)) -/
def pListRng (pa : PAs) : PO := fun env Q => pa env fun gs env1 => match gs with
  | [.d (.int j)] => RgOk 0 j ∧ Q (.m (.ol (rangeD 0 1 j.toNat))) env1
  | [.d (.int i), .d (.int j)] => RgOk i j ∧ Q (.m (.ol (rangeD i 1 (j - i).toNat))) env1
  | [.d (.int i), .d (.int j), .d (.int c)] => (c = -1 ∧ RgOk j i) ∧ Q (.m (.ol (rangeD i (-1) (i - j).toNat))) env1
  | _ => False
theorem FpAll.range {F : Hp} {lo c : Int} {n : Nat} : FpAll F ((List.range n).map fun i => V.int (lo + (i : Nat) * c)) (rangeD lo c n) := by
  unfold rangeD
  have : ∀ l : List Nat, FpAll F (l.map fun i => V.int (lo + (i : Nat) * c)) (l.map fun i => PyData.int (lo + (i : Nat) * c)) := by
    intro l
    induction l with
    | nil => exact .nil
    | cons x r ih => exact .cons (.int _) ih
  exact this _
theorem rgV_eq (a b : Int) : rgV a b = (List.range (b - a).toNat).map fun i => V.int (a + (i : Nat) * 1) := by
  unfold rgV
  refine List.map_congr_left fun i _ => ?_
  rw [Int.mul_one]
theorem prg_A {es : List Expr} {t : TA} {p pos : Pos} {e1 : Expr} {er : List Expr} (hes : es = e1 :: er) (hg : Gl X "range") (hm : X.mg "range" = none) (ha : PA X es t) (hs : starEach es X.env = (false, eval e1 X.env) :: starEach er X.env) (hpl : (backTo pos (starEach er X.env)).any (·.1) = false) {pins : List (Addr × Obj)} {s : Shared} {σ : L2.St} {H : Hp}
    {Q : Value → Shared → Prop} (I : Inv X pins σ H s) {R : List V → Hp → Prop} (h : t σ H R)
    (k : ∀ us s1 vs H1, Inv X pins σ H1 s1 → Vals vs us → R vs H1 → wpAny (model X.prog X.w) X.A (call (.type "range") us) Q X.xe s1) : wpAny (model X.prog X.w) X.A (eval (.Call (.Name "range" p) es [] pos) X.env) Q X.xe s := by
  subst hes
  exact Call_ (ld_blt I hg hm boot_range (PyProof.Rows.callWith_type1 (thn (ha.run pos pins s σ H _ I h) fun us s1 ⟨vs, H1, I1, r1, q1⟩ => k us s1 vs H1 I1 r1 q1) hs hpl))
theorem l_listRng {es er : List Expr} {e1 : Expr} {pa : PAs} {p p2 pos pos2 : Pos} (hes : es = e1 :: er) (hc : X.calm = true) (hg : Gl X "list") (hm : X.mg "list" = none) (hg2 : Gl X "range") (hm2 : X.mg "range" = none) (ha : PA X es (liftA X.K E pa))
    (hs : starEach es X.env = (false, eval e1 X.env) :: starEach er X.env) (hpl : (backTo pos2 (starEach er X.env)).any (·.1) = false) (na : starEach [.Call (.Name "range" p2) es [] pos2] X.env = (false, eval (.Call (.Name "range" p2) es [] pos2) X.env) :: starEach [] X.env) :
    PE X (.Call (.Name "list" p) [.Call (.Name "range" p2) es [] pos2] [] pos) (liftO X.K E (pListRng pa)) := by
  refine ⟨fun pins s σ H Q I ⟨ts, F, env, As, Q', S, fx, p, k⟩ => ?_⟩
  refine Call_ (ld_blt I hg hm boot_list (PyProof.Rows.callWith_type1 (args_cons (prg_A hes hg2 hm2 ha hs hpl I (R := fun vs H1 => ∃ gs F1 env1 As1, SR X.K E F1 H1 (σ ++ ts) env1 As1 ∧ Same F F1 ∧ Paired (AgOk F1 σ) vs gs ∧ (match gs with
      | [.d (.int j)] => RgOk 0 j ∧ Q' (.m (.ol (rangeD 0 1 j.toNat))) env1
      | [.d (.int i), .d (.int j)] => RgOk i j ∧ Q' (.m (.ol (rangeD i 1 (j - i).toNat))) env1
      | [.d (.int i), .d (.int j), .d (.int c)] => (c = -1 ∧ RgOk j i) ∧ Q' (.m (.ol (rangeD i (-1) (i - j).toNat))) env1
      | _ => False)) ⟨ts, F, env, As, _, S, fx, p, fun vs gs F1 H1 env1 As1 S1 f1 P q => ⟨gs, F1, env1, As1, S1, f1, P, q⟩⟩ fun us s1 vs H1 I1 r ⟨gs, F1, env1, As1, S1, f1, P, q⟩ => ?_) na) na))
  have fin : ∀ {a b c : Int} {t u v : Tok} {s2 : Shared} {r0 : Addr} {n : Nat}, Inv X pins σ H1 s2 → IsRange s2.heap r0 a b c t u v → Builtin.Range.small a b c = true → Builtin.Range.rangeSize a b c = n → n ≤ 2 ^ 24 → Q' (.m (.ol (rangeD a c n))) env1 →
      wpAny (model X.prog X.w) X.A (call (.type "list") [.ref r0]) (EP X pins σ Q) X.xe s2 := by
    intro a b c t u v s2 r0 n I2 hr hsm hsz hn q
    refine PySem.call_list_range (n := n) (I2.ok.hd hc) hr hsm hsz hn fun h' tk acc c' hk e' hi => ?_
    have hv : Vals ((List.range n).map fun i => V.int (a + (i : Nat) * c)) acc.toList := by
      have e : acc.toList.length = n := by rw [Array.length_toList]; exact hi.1
      rw [← e]
      refine vals_of_get acc.toList _ fun j w hj => ?_
      obtain ⟨t, rfl⟩ := hi.2 j w (by rw [← hj, Array.getElem?_toList])
      exact ⟨t, rfl⟩
    have hfr := I2.hok.fresh (Nat.le_refl s2.heap.objs.size)
    refine ⟨.ref s2.heap.objs.size, upd H1 s2.heap.objs.size (.lst _), I2.laid hk (Nat.le_refl _) (show ObjOk X.prog X.w _ _ _ (.lst ((List.range n).map fun i => V.int (a + (i : Nat) * c))) from ⟨?_, acc.toList, c', hv, ?_⟩), rfl, ?_⟩
    · rw [List.length_map, List.length_range, sizeLine_eq]
      omega
    · rw [Array.toArray_toList]; exact e'
    · exact (KN.ko' k S1 f1).list S1.sub FpAll.range q _ hfr
  split at q
  · obtain ⟨v, rfl, hv⟩ := paired_one P
    have e := hv.int_inv
    subst e
    obtain ⟨u, rfl, t, rfl⟩ := vals1 r
    obtain ⟨⟨b1, b2, b3, b4, b5⟩, q⟩ := q
    refine call_range_1 (args_nil (fin (I1.kept fun b u e => Heap.get?_push_of_some _ e) (IsRange.new _ _ _ _ _ _ _) (small_one b1 b2 b3 b4) (rangeSize_nat _ _) b5 ?_))
    simpa using q
  · obtain ⟨v, w, rfl, hv, hw⟩ := paired_two P
    have e := hv.int_inv
    subst e
    have e := hw.int_inv
    subst e
    obtain ⟨u1, u2, rfl, ⟨t, rfl⟩, ⟨t', rfl⟩⟩ := vals2 r
    obtain ⟨⟨b1, b2, b3, b4, b5⟩, q⟩ := q
    exact call_range_2 (args_nil (fin (I1.kept fun b u e => Heap.get?_push_of_some _ e) (IsRange.new _ _ _ _ _ _ _) (small_one b1 b2 b3 b4) (rangeSize_nat _ _) b5 q))
  · obtain ⟨v, w, z, rfl, hv, hw, hz⟩ := paired_three P
    have e := hv.int_inv
    subst e
    have e := hw.int_inv
    subst e
    have e := hz.int_inv
    subst e
    obtain ⟨⟨rfl, b1, b2, b3, b4, b5⟩, q⟩ := q
    cases r with
    | cons r1 r =>
      obtain ⟨u1, u2, rfl, ⟨t', rfl⟩, ⟨t'', rfl⟩⟩ := vals2 r
      obtain ⟨t, rfl⟩ := r1
      obtain ⟨c0, c1, c2, c3⟩ := RgC.neg b3 b4 b1 b2
      refine call_range_3 (by decide) (args_nil (fin (I1.kept fun b u e => Heap.get?_push_of_some _ e) (IsRange.new _ _ _ _ _ _ _) c2 c3 b5 q)) (.inl (PyProof.noPylong_small c1))
  · exact q.elim
end
end PL

namespace PL
open PySem PySem.Spec PyProof.Rows L2

/-! ### 25. repr -/
def reprD : List PyData → (Sl → Prop) → Prop
  | [.int i], P => i.natAbs.log2 < 1920 ∧ P (.v (.str (toString i)))
  | [.list ds], P => (PyData.showable (.list ds) = true ∧ PyData.hasDict (.list ds) = false ∧ PyData.depth (.list ds) ≤ 60 ∧ (PyData.shown (.list ds)).length ≤ sizeLine) ∧ P (.v (.str (PyData.shown (.list ds))))
  | [.tuple ds], P => (PyData.showable (.tuple ds) = true ∧ PyData.hasDict (.tuple ds) = false ∧ PyData.depth (.tuple ds) ≤ 60 ∧ (PyData.shown (.tuple ds)).length ≤ sizeLine) ∧ P (.v (.str (PyData.shown (.tuple ds))))
  | _, _ => False
def rRepr (K : PySem.W.Frag) : List V → Hp → VK → Prop := fun xs H Q => (∃ i, xs = [.int i] ∧ i.natAbs.log2 < 1920 ∧ Q (.str (toString i)) H) ∨
  ∃ a d, xs = [.ref a] ∧ Dp K H (.ref a) d ∧ (d.showable = true ∧ d.hasDict = false ∧ d.depth ≤ 60 ∧ d.shown.length ≤ sizeLine) ∧ Q (.str d.shown) H
section
variable {X : Cx} {E : Ent} {K : PySem.W.Frag}
theorem c_repr (hg : X.A.guards = some []) (hu : X.A.units + 64 < cLine) : CallR X (.builtin "repr") (rRepr X.K) := by
  intro pins s σ H xs us Q I r h
  rcases h with h | ⟨a, d, rfl, hd, ⟨h1, h2, h3, h4⟩, q⟩
  · exact SkE.call_repr_int pins s σ H xs us Q I r h
  · obtain ⟨u, rfl, e⟩ := vals1 r
    obtain rfl : u = Value.ref a := e
    obtain ⟨as, rd⟩ := Dp.reads I d (.ref a) (.ref a) hd rfl
    exact repr_of_reads' rd h1 (fun z => by rw [h2] at z; cases z) hg (by omega) (fun _ _ z => z) (fun h' u tk hk => ⟨.str d.shown, H, I.kept (t' := tk) hk, ⟨_, rfl⟩, q⟩) h4
theorem o_repr : OpL K (rRepr K) reprD := by
  intro F H xs ds Q P s h p k
  unfold reprD at p
  split at p
  · obtain ⟨v, rfl, hv⟩ := h.one
    exact .inl ⟨_, by rw [hv.int_inv], p.1, k.flat s (.str _) p.2⟩
  · obtain ⟨v, rfl, hv⟩ := h.one
    have hd := hv.dp (K := K) s
    obtain ⟨a, vs, rfl, _⟩ := hv.lst_inv
    exact .inr ⟨a, _, rfl, hd, p.1, k.flat s (.str _) p.2⟩
  · obtain ⟨v, rfl, hv⟩ := h.one
    have hd := hv.dp (K := K) s
    obtain ⟨a, vs, rfl, _⟩ := hv.tup_inv
    exact .inr ⟨a, _, rfl, hd, p.1, k.flat s (.str _) p.2⟩
  · exact p.elim

/-! ### 26. slices -/
def cutD (ds : List PyData) (lo hi : Option Int) : List PyData := (ds.drop (HT.sIx ds.length 0 lo)).take (HT.sIx ds.length ds.length hi - HT.sIx ds.length 0 lo)
theorem FpAll.cut {F : Hp} {vs : List V} {ds : List PyData} (h : FpAll F vs ds) (lo hi : Option Int) : FpAll F (cutV vs lo hi) (cutD ds lo hi) := by
  unfold cutV cutD
  rw [h.length]
  exact (h.drop _).take _
abbrev PBd := PEnv → (Option Int → PEnv → Prop) → Prop
def pNoB : PBd := fun env Q => Q none env
def pBd (pa : PX) : PBd := fun env Q => pa env fun d env1 => match d with
  | .int i => Q (some i) env1
  | _ => False
def liftB (K : PySem.W.Frag) (E : Ent) (p : PBd) : TO := fun σ H Q => ∃ ts F env As Q', SR K E F H (σ ++ ts) env As ∧ FixIn E σ ∧ p env Q' ∧ ∀ o F' H' env' As', SR K E F' H' (σ ++ ts) env' As' → Same F F' → Q' o env' → Q o H'
theorem lb_none : L2.PO X none (liftB X.K E pNoB) := ⟨fun pins s σ H Q I ⟨ts, F, env, As, Q', S, fx, p, k⟩ => po_none.run pins s σ H Q I (k none F H env As S (Same.refl F) p)⟩
theorem lb_some {e : Expr} {pa : PX} (h : PE X e (liftE X.K E pa)) : L2.PO X (some e) (liftB X.K E (pBd pa)) := ⟨fun pins s σ H Q I ⟨ts, F, env, As, Q', S, fx, p, k⟩ => (po_some h).run pins s σ H Q I ⟨ts, F, env, As, _, S, fx, p, fun v d F1 H1 env1 As1 S1 f1 hv q => by
  split at q
  · exact ⟨_, hv.int_inv, k _ F1 H1 env1 As1 S1 f1 q⟩
  · exact q.elim⟩⟩
/-- xs[lo:hi] of a list -/
def pSlice (pa : PX) (pl ph : PBd) : PO := fun env Q => pa env fun d env1 => pl env1 fun lo env2 => ph env2 fun hi env3 => match d with
  | .list ds => Q (.m (.ol (cutD ds lo hi))) env3
  | _ => False
theorem l_slice {e : Expr} {lo hi : Option Expr} {p2 pos : Pos} {pa : PX} {pl ph : PBd} (he : PE X e (liftE X.K E pa)) (hl : L2.PO X lo (liftB X.K E pl)) (hu : L2.PO X hi (liftB X.K E ph)) : PE X (.Subscript e (.Slice lo hi none p2) pos) (liftO X.K E (pSlice pa pl ph)) :=
  pe_w (pe_slice sl_list he hl hu) fun σ H Q ⟨ts, F, env, As, Q', S, fx, p, k⟩ => ⟨ts, F, env, As, _, S, fx, p, fun v d F1 H1 env1 As1 S1 f1 hv q => ⟨ts, F1, env1, As1, _, S1, fx, q, fun lo F2 H2 env2 As2 S2 f2 q => ⟨ts, F2, env2, As2, _, S2, fx, q, fun hi F3 H3 env3 As3 S3 f3 q => by
    split at q
    · obtain ⟨a, vs, rfl, ha, ra⟩ := hv.lst_inv
      have f := f2.trans f3
      exact ⟨a, vs, rfl, SqL.of (S3.sub _ _ (f _ _ ha)), (KN.ko' k S3 (f1.trans f)).list S3.sub ((ra.to f).cut lo hi) q⟩
    · exact q.elim⟩⟩⟩
/-- the value of an owned slot -/
def isM (env : PEnv) (i : Nat) : Prop := ∃ c, env[i]? = some (.m c)
theorem SR.mslot {F H : Hp} {σ ts : L2.St} {env : PEnv} {As : Nat → List Addr} (S : SR K E F H (σ ++ ts) env As) {i : Nat} (hi : i < σ.length) {c : MO} (e : env[i]? = some (.m c)) : ∃ v, σ[i]? = some (some v) ∧ Mp K F H v c (As i) := by
  obtain ⟨x', h1, w, e1, h2⟩ := S.slot i _ e
  subst e1
  exact ⟨w, app_get hi h1, h2⟩
/-- a slice of an owned slot, which stays owned -/
def pSliceM (i : Nat) (pl ph : PBd) : PO := fun env Q => isM env i ∧ pl env fun lo env2 => ph env2 fun hi env3 => match env3[i]? with
  | some (.m (.ol ds)) => Q (.m (.ol (cutD ds lo hi))) env3
  | some (.m (.scr ns)) => Q (.m (.ol (cutD (ns.map .int) lo hi))) env3
  | _ => False
theorem l_sliceM (i : Nat) {x : Str} {px : Pos} {lo hi : Option Expr} {p2 pos : Pos} {pl ph : PBd} (h : PE X (.Name x px) (tVar i)) (hN : i < X.N.length) (hl : L2.PO X lo (liftB X.K E pl)) (hu : L2.PO X hi (liftB X.K E ph)) : PE X (.Subscript (.Name x px) (.Slice lo hi none p2) pos) (liftO X.K E (pSliceM i pl ph)) := by
  refine ⟨fun pins s σ H Q I ⟨ts, F, env, As, Q', S, fx, ⟨⟨c, ec⟩, p⟩, k⟩ => ?_⟩
  have hi' : i < σ.length := by rw [I.len]; exact hN
  obtain ⟨v, hv, _⟩ := S.mslot hi' ec
  refine (pe_slice sl_list h hl hu).run pins s σ H Q I ⟨v, hv, ts, F, env, As, _, S, fx, p, fun lo F2 H2 env2 As2 S2 f2 q => ⟨ts, F2, env2, As2, _, S2, fx, q, fun hi F3 H3 env3 As3 S3 f3 q => ?_⟩⟩
  split at q
  · rename_i ds e
    obtain ⟨w, z, h2⟩ := S3.mslot hi' e
    rw [hv] at z
    cases z
    generalize As3 i = ai at h2
    cases h2 with
    | ol ha ra => exact ⟨_, _, rfl, SqL.of ha, (KN.ko' k S3 (f2.trans f3)).list S3.sub (ra.cut lo hi) q⟩
  · rename_i ns e
    obtain ⟨w, z, h2⟩ := S3.mslot hi' e
    rw [hv] at z
    cases z
    generalize As3 i = ai at h2
    cases h2 with
    | scr hs => exact ⟨_, _, rfl, S3.sub.seq hs, (KN.ko' k S3 (f2.trans f3)).list S3.sub ((FpAll.ints ns).cut lo hi) q⟩
  · exact q.elim
/-- xs[::-1] -/
def revD : PyData → (Sl → Prop) → Prop
  | .list ds, P => P (.m (.ol ds.reverse))
  | _, _ => False
theorem l_revL {e : Expr} {pa : PX} {k : Nat} {p1 p2 p3 pos : Pos} (he : PE X e (liftE X.K E pa)) : PE X (.Subscript e (.Slice none none (some (.UnaryOp .USub (.Constant (.int 1) k p1) p2)) p3) pos) (liftO X.K E (pOp1 revD pa)) :=
  pe_w (pe_revL he) fun σ H Q ⟨ts, F, env, As, Q', S, fx, p, k⟩ => ⟨ts, F, env, As, _, S, fx, p, fun v d F1 H1 env1 As1 S1 f1 hv q => by
    unfold revD at q
    split at q
    · obtain ⟨a, vs, rfl, ha, ra⟩ := hv.lst_inv
      exact ⟨a, vs, rfl, SqL.of (S1.sub _ _ ha), (KN.ko' k S1 f1).list S1.sub ra.reverse q⟩
    · exact q.elim⟩

/-! ### 27. what is done to an owned slot -/
/-- the items of an owned list or of the script -/
def mItems : MO → Option (List PyData)
  | .ol ds => some ds
  | .scr ns => some (ns.map .int)
  | .lst cs => cs.mapM fun c => match c with
    | .fz d => some d
    | _ => some .none
  | _ => none
/-- xs[i] of an owned slot; an item that is owned itself is refused -/
def itemM : MO → Int → Option PyData
  | .ol ds, i => atI ds i
  | .scr ns, i => atI (ns.map .int) i
  | .lst cs, i => match atI cs i with
    | some (.fz d) => some d
    | _ => none
  | _, _ => none
def lenM : MO → Option Nat
  | .ol ds => some ds.length
  | .scr ns => some ns.length
  | .lst cs => some cs.length
  | _ => none
theorem MpAll.length {F H : Hp} : ∀ {vs : List V} {cs : List MO} {as : List Addr}, MpAll K F H vs cs as → vs.length = cs.length
  | _, _, _, .nil => rfl
  | _, _, _, .cons _ r => by rw [List.length_cons, List.length_cons, MpAll.length r]
theorem MpAll.get {F H : Hp} : ∀ {vs : List V} {cs : List MO} {as : List Addr} {i : Nat} {c : MO}, MpAll K F H vs cs as → cs[i]? = some c → ∃ v a1 a2 a3, vs[i]? = some v ∧ Mp K F H v c a2 ∧ as = a1 ++ (a2 ++ a3) ∧
    ∀ {F' H' : Hp} {v' : V} {c' : MO} {a2' : List Addr}, Same F F' → (∀ a ∈ a1 ++ a3, H' a = H a) → Mp K F' H' v' c' a2' → MpAll K F' H' (vs.set i v') (cs.set i c') (a1 ++ (a2' ++ a3))
  | _, _, _, 0, _, .cons (as := as) (bs := bs) h r, e => by
    cases e
    exact ⟨_, [], as, bs, rfl, h, rfl, fun {F' H' v' c' a2'} f k h' => (show MpAll K F' H' _ _ (a2' ++ bs) from .cons h' (r.to f fun a ha => k a (List.mem_append_right _ ha)))⟩
  | _, _, _, i + 1, _, .cons (as := as) (bs := bs) h r, e => by
    rw [List.getElem?_cons_succ] at e
    obtain ⟨v, a1, a2, a3, h1, h2, rfl, h4⟩ := MpAll.get r e
    refine ⟨v, as ++ a1, a2, a3, by rw [List.getElem?_cons_succ]; exact h1, h2, by rw [List.append_assoc], fun {F' H' v' c' a2'} f k h' => ?_⟩
    rw [List.append_assoc]
    exact .cons (h.to f fun a ha => k a (List.mem_append_left _ (List.mem_append_left _ ha))) (h4 f (fun a ha => k a (by
      rcases List.mem_append.mp ha with z | z
      · exact List.mem_append_left _ (List.mem_append_right _ z)
      · exact List.mem_append_right _ z)) h')
theorem Mp.item {F H : Hp} (s : Same F H) {v : V} {c : MO} {as : List Addr} (h : Mp K F H v c as) {i : Int} {d : PyData} (e : itemM c i = some d) : ∃ a xs w, v = .ref a ∧ SqL K H a xs ∧ atI xs i = some w ∧ Fp F w d := by
  cases h with
  | ol ha ra =>
    obtain ⟨w, h1, h2⟩ := atI_fp ra (show atI _ i = some d from e)
    exact ⟨_, _, w, rfl, SqL.of ha, h1, h2⟩
  | scr hs =>
    obtain ⟨w, h1, h2⟩ := atI_fp (FpAll.ints _) (show atI _ i = some d from e)
    exact ⟨_, _, w, rfl, s.seq hs, h1, h2⟩
  | @lst a vs cs as ha r =>
    have e' : (match atI cs i with
      | some (.fz d) => some d
      | _ => none) = some d := e
    split at e'
    · rename_i d' e2
      cases e'
      unfold atI at e2
      cases q : ixN cs.length i with
      | none => rw [q] at e2; cases e2
      | some j =>
        rw [q] at e2
        obtain ⟨w, _, _, _, h1, h2, _, _⟩ := r.get e2
        generalize hz : MO.fz d = cz at h2
        cases h2 with
        | fz h3 =>
          cases hz
          refine ⟨a, vs, w, rfl, SqL.of ha, ?_, h3⟩
          unfold atI
          rw [r.length, q]
          exact h1
        | _ => cases hz
    · cases e'
  | _ => cases e
theorem Mp.len {F H : Hp} (s : Same F H) {v : V} {c : MO} {as : List Addr} (h : Mp K F H v c as) {n : Nat} (e : lenM c = some n) : ∃ a xs, v = .ref a ∧ SqL K H a xs ∧ xs.length = n := by
  cases h with
  | ol ha ra => cases e; exact ⟨_, _, rfl, SqL.of ha, ra.length⟩
  | scr hs => cases e; exact ⟨_, _, rfl, s.seq hs, List.length_map ..⟩
  | lst ha r => cases e; exact ⟨_, _, rfl, SqL.of ha, r.length⟩
  | _ => cases e
/-- xs[i] -/
def pIxM (i : Nat) (pi : PX) : PX := fun env Q => isM env i ∧ pi env fun d env1 => match env1[i]?, d with
  | some (.m c), .int k => ∃ x, itemM c k = some x ∧ Q x env1
  | _, _ => False
theorem l_ixM (i : Nat) {x : Str} {px pos : Pos} {b : Expr} {pi : PX} (hs : PlainIx b) (h : PE X (.Name x px) (tVar i)) (hN : i < X.N.length) (hb : PE X b (liftE X.K E pi)) : PE X (.Subscript (.Name x px) b pos) (liftE X.K E (pIxM i pi)) := by
  refine ⟨fun pins s σ H Q I ⟨ts, F, env, As, Q', S, fx, ⟨⟨c, ec⟩, p⟩, k⟩ => ?_⟩
  have hi' : i < σ.length := by rw [I.len]; exact hN
  obtain ⟨v, hv, _⟩ := S.mslot hi' ec
  refine (pe_ix ix_list h hb hs).run pins s σ H Q I ⟨v, hv, ts, F, env, As, _, S, fx, p, fun w d F1 H1 env1 As1 S1 f1 hd q => ?_⟩
  split at q
  · rename_i c' kk e
    obtain ⟨w2, z, h2⟩ := S1.mslot hi' e
    rw [hv] at z
    cases z
    obtain ⟨y, ey, q⟩ := q
    obtain ⟨a, xs, w3, rfl, h3, h4, h5⟩ := h2.item S1.sub ey
    exact ⟨a, xs, kk, w3, rfl, hd.int_inv, h3, h4, k w3 y F1 H1 env1 As1 S1 f1 h5 q⟩
  · exact q.elim
/-- len(xs) -/
def pLenM (i : Nat) : PX := fun env Q => match env[i]? with
  | some (.m c) => ∃ n, lenM c = some n ∧ Q (.int n) env
  | some (.v (.list ds)) => Q (.int ds.length) env
  | some (.v (.tuple ds)) => Q (.int ds.length) env
  | some (.v (.str z)) => z.length ≤ sizeLine ∧ Q (.int z.length) env
  | _ => False
theorem l_lenM (i : Nat) {x y : Str} {px p pos : Pos} (h : PE X (.Name x px) (tVar i)) (hN : i < X.N.length) (hg : Gl X y) (hm : X.mg y = none) (hv : bootBuiltins y = some (.builtin "len")) (hn : y ≠ "__name__" := by decide) (hdb : (y == ("__debug__" : Str)) = false := by decide)
    (he : starEach [.Name x px] X.env = (false, eval (.Name x px) X.env) :: starEach [] X.env := by rfl) (hpl : (backTo pos (starEach [] X.env)).any (·.1) = false := by rfl) : PE X (.Call (.Name y p) [.Name x px] [] pos) (liftE X.K E (pLenM i)) := by
  refine ⟨fun pins s σ H Q I ⟨ts, F, env, As, Q', S, fx, p, k⟩ => ?_⟩
  have hi' : i < σ.length := by rw [I.len]; exact hN
  refine (pe_callB c_len hg hm hv (pa_cons h pa_nil he) hn hdb he hpl).run pins s σ H Q I ?_
  unfold pLenM at p
  split at p
  · rename_i c e
    obtain ⟨v, z, h2⟩ := S.mslot hi' e
    obtain ⟨n, en, q⟩ := p
    obtain ⟨a, xs, rfl, h3, h4⟩ := h2.len S.sub en
    refine ⟨_, z, .inl ⟨a, xs, rfl, .inl h3, ?_⟩⟩
    rw [h4]
    exact k (.int n) _ F H env As S (Same.refl F) (.int _) q
  · rename_i ds e
    obtain ⟨x', h1, w, e1, h2, _⟩ := S.slot i _ e
    subst e1
    obtain ⟨a, vs, rfl, ha, ra⟩ := h2.lst_inv
    refine ⟨_, app_get hi' h1, .inl ⟨a, vs, rfl, .inl (SqL.of (S.sub _ _ ha)), ?_⟩⟩
    rw [ra.length]
    exact k (.int _) _ F H env As S (Same.refl F) (.int _) p
  · rename_i ds e
    obtain ⟨x', h1, w, e1, h2, _⟩ := S.slot i _ e
    subst e1
    obtain ⟨a, vs, rfl, ha, ra⟩ := h2.tup_inv
    refine ⟨_, app_get hi' h1, .inl ⟨a, vs, rfl, .inr (SqT.of (S.sub _ _ ha)), ?_⟩⟩
    rw [ra.length]
    exact k (.int _) _ F H env As S (Same.refl F) (.int _) p
  · rename_i z' e
    obtain ⟨x', h1, w, e1, h2, _⟩ := S.slot i _ e
    subst e1
    refine ⟨_, app_get hi' h1, .inr ⟨_, by rw [h2.str_inv], p.1, ?_⟩⟩
    exact k (.int _) _ F H env As S (Same.refl F) (.int _) p.2
  · exact p.elim

/-! methods that change a list -/
abbrev RpM := List PyData → List PyData → (PyData → List PyData → Prop) → Prop
def OpM (K : PySem.W.Frag) (r : V → List V → Hp → VK → Prop) (rp : RpM) : Prop := ∀ F H a vs ds xs es Q P, Same F H → H a = some (.lst vs) → FpAll F vs ds → FpAll F xs es → rp ds es P →
  (∀ z d vs' ds', FpAll F vs' ds' → Fp F z d → P d ds' → Q z (upd H a (.lst vs'))) → r (.ref a) xs H Q
def appendD : RpM
  | ds, [d], P => ds.length < sizeLine ∧ P .none (ds ++ [d])
  | _, _, _ => False
def extendD : RpM
  | ds, [.list es], P => ds.length + es.length ≤ sizeLine ∧ P .none (ds ++ es)
  | _, _, _ => False
def pop0D : RpM
  | ds, [], P => ∃ d, ds[ds.length - 1]? = some d ∧ P d ds.dropLast
  | _, _, _ => False
def popAtD : RpM
  | ds, [.int i], P => (-(2 ^ 63) ≤ i ∧ i < 2 ^ 63) ∧ ∃ k d, seqIndex? i ds.length = some k ∧ ds[k]? = some d ∧ P d (ds.eraseIdx k)
  | _, _, _ => False
def insertD : RpM
  | ds, [.int i, d], P => (ds.length < sizeLine ∧ 0 ≤ i ∧ i < 2 ^ 63) ∧ P .none (ds.take i.toNat ++ [d] ++ ds.drop i.toNat)
  | _, _, _ => False
def reverseD : RpM
  | ds, [], P => P .none ds.reverse
  | _, _, _ => False
/-- remove of an int -/
def removeD : RpM
  | ds, [.int k], P => ∃ ns j, intsOf ds = some ns ∧ ns[j]? = some k ∧ (∀ m : Nat, m < j → ns[m]? ≠ some k) ∧ P .none ((ns.eraseIdx j).map .int)
  | _, _, _ => False
theorem m_append : OpM K rAppend appendD := by
  intro F H a vs ds xs es Q P s ha ra rx p k
  unfold appendD at p
  split at p
  · obtain ⟨v, rfl, hv⟩ := rx.one
    exact ⟨a, vs, v, rfl, rfl, ha, by rw [ra.length]; exact p.1, k _ _ _ _ (ra.app (.cons hv .nil)) .non p.2⟩
  · exact p.elim
theorem m_extend : OpM K rExtend extendD := by
  intro F H a vs ds xs es Q P s ha ra rx p k
  unfold extendD at p
  split at p
  · obtain ⟨v, rfl, hv⟩ := rx.one
    obtain ⟨b, us, rfl, hb, rb⟩ := hv.lst_inv
    exact ⟨a, b, vs, us, rfl, rfl, ha, s _ _ hb, by rw [ra.length, rb.length]; exact p.1, k _ _ _ _ (ra.app rb) .non p.2⟩
  · exact p.elim
theorem FpAll.dropLast {F : Hp} {vs : List V} {ds : List PyData} (h : FpAll F vs ds) : FpAll F vs.dropLast ds.dropLast := by
  rw [List.dropLast_eq_take, List.dropLast_eq_take, h.length]
  exact h.take _
theorem m_pop0 : OpM K rPop pop0D := by
  intro F H a vs ds xs es Q P s ha ra rx p k
  unfold pop0D at p
  split at p
  · cases rx
    obtain ⟨d, e, p⟩ := p
    obtain ⟨v, h1, h2⟩ := ra.get e
    exact ⟨a, vs, v, rfl, rfl, ha, by rw [ra.length]; exact h1, k _ _ _ _ ra.dropLast h2 p⟩
  · exact p.elim
theorem m_popAt : OpM K rPopAt popAtD := by
  intro F H a vs ds xs es Q P s ha ra rx p k
  unfold popAtD at p
  split at p
  · obtain ⟨v, rfl, hv⟩ := rx.one
    obtain ⟨⟨b1, b2⟩, j, d, e1, e2, p⟩ := p
    obtain ⟨w, h1, h2⟩ := ra.get e2
    exact ⟨a, vs, _, j, w, rfl, by rw [hv.int_inv], ha, b1, b2, by rw [ra.length]; exact e1, h1, k _ _ _ _ (ra.eraseIdx j) h2 p⟩
  · exact p.elim
theorem m_insert : OpM K (fun x vs H Q => ∃ (l : Addr) (xs : List V) (i : Int) (y : V), x = .ref l ∧ vs = [.int i, y] ∧ H l = some (.lst xs) ∧ xs.length < sizeLine ∧ 0 ≤ i ∧ i < 2 ^ 63 ∧ Q .non (upd H l (.lst (xs.take i.toNat ++ [y] ++ xs.drop i.toNat)))) insertD := by
  intro F H a vs ds xs es Q P s ha ra rx p k
  unfold insertD at p
  split at p
  · obtain ⟨v, u, rfl, hv, hu⟩ := rx.two
    exact ⟨a, vs, _, u, rfl, by rw [hv.int_inv], ha, by rw [ra.length]; exact p.1.1, p.1.2.1, p.1.2.2, k _ _ _ _ (((ra.take _).app (.cons hu .nil)).app (ra.drop _)) .non p.2⟩
  · exact p.elim
theorem m_reverse : OpM K rReverse reverseD := by
  intro F H a vs ds xs es Q P s ha ra rx p k
  unfold reverseD at p
  split at p
  · cases rx
    exact ⟨a, vs, rfl, rfl, ha, k _ _ _ _ ra.reverse .non p⟩
  · exact p.elim
theorem m_remove : OpM K rRemI removeD := by
  intro F H a vs ds xs es Q P s ha ra rx p k
  unfold removeD at p
  split at p
  · obtain ⟨v, rfl, hv⟩ := rx.one
    obtain ⟨ns, j, e, e1, e2, p⟩ := p
    rw [intsOf_eq e] at ra
    rw [FpAll.of_ints ra] at ha
    exact ⟨a, ns, _, j, rfl, by rw [hv.int_inv], ha, e1, e2, k _ _ _ _ (FpAll.ints _) .non p⟩
  · exact p.elim
/-- x.m(..) of an owned list -/
def isOL (env : PEnv) (i : Nat) : Prop := ∃ ds, env[i]? = some (.m (.ol ds))
def pMeth (i : Nat) (rp : RpM) (pa : PAs) : PX := fun env Q => isOL env i ∧ pa env fun gs env1 => match agD? gs, env1[i]? with
  | some es, some (.m (.ol ds)) => rp ds es fun d ds' => Q d (env1.set i (.m (.ol ds')))
  | _, _ => False
theorem mp_ol {F H : Hp} {v : V} {ds : List PyData} {as : List Addr} (h : Mp K F H v (.ol ds) as) : ∃ a vs, v = .ref a ∧ as = [a] ∧ H a = some (.lst vs) ∧ FpAll F vs ds := by
  cases h with
  | ol h1 h2 => exact ⟨_, _, rfl, rfl, h1, h2⟩
/-- an owned list rewritten -/
theorem SR.put {F H : Hp} {σ ts : L2.St} {env : PEnv} {As : Nat → List Addr} (S : SR K E F H (σ ++ ts) env As) {i : Nat} (hi : i < σ.length) {ds : List PyData} (e : env[i]? = some (.m (.ol ds))) : ∃ a vs, σ[i]? = some (some (.ref a)) ∧ H a = some (.lst vs) ∧ FpAll F vs ds ∧ F a = none ∧
    ∀ vs' ds', FpAll F vs' ds' → ∃ As', SR K E F (upd H a (.lst vs')) (σ ++ ts) (env.set i (.m (.ol ds'))) As' := by
  obtain ⟨v, hv, h2⟩ := S.mslot hi e
  obtain ⟨a, vs, rfl, ea, ha, ra⟩ := mp_ol h2
  have hF : F a = none := (S.own i a (by rw [ea]; exact List.mem_singleton.mpr rfl)).1
  refine ⟨a, vs, hv, ha, ra, hF, fun vs' ds' h' => ⟨_, S.write (H' := upd H a (.lst vs')) (as' := [a]) (List.getElem?_eq_some_iff.mp e).1 (by rw [List.getElem?_append_left hi]; exact hv) (.ol upd_same h') (by simp) (fun b hb => .inl (by rw [ea]; exact hb)) fun b hb _ => upd_ne fun z => hb (by rw [ea, z]; exact List.mem_singleton.mpr rfl)⟩⟩
theorem l_meth (i : Nat) {e : Expr} {es : List Expr} {r : V → List V → Hp → VK → Prop} {rp : RpM} {pa : PAs} (hr : OpM X.K r rp) (hN : i < X.N.length) (h : ∀ t, PA X es t → PE X e (tBM X.K "list" r (tVar i) t)) (ha : PA X es (liftA X.K E pa)) : PE X e (liftE X.K E (pMeth i rp pa)) := by
  refine ⟨fun pins s σ H Q I ⟨ts, F, env, As, Q', S, fx, ⟨⟨c, ec⟩, p⟩, k⟩ => ?_⟩
  have hi' : i < σ.length := by rw [I.len]; exact hN
  obtain ⟨a0, vs0, hv, h0, _⟩ := S.put hi' ec
  refine (h _ ha).run pins s σ H Q I ⟨_, hv, .inl ⟨rfl, _, SqL.of h0⟩, ts, F, env, As, _, S, fx, p, fun xs gs F1 H1 env1 As1 S1 f1 P q => ?_⟩
  split at q
  · rename_i es' ds e1 e2
    obtain ⟨a, vs, hv2, ha2, ra, hF, wr⟩ := S1.put hi' e2
    rw [hv] at hv2
    cases hv2
    refine hr F1 H1 _ vs ds xs es' Q _ S1.sub ha2 ra (AgOk.ds P e1) q fun z d vs' ds' h1 h2 q => ?_
    obtain ⟨As', S'⟩ := wr vs' ds' h1
    exact k z d F1 _ _ As' S' f1 h2 q
  · exact q.elim
/-- x.m() -/
def pMeth0 (i : Nat) (rp : RpM) : PX := fun env Q => match env[i]? with
  | some (.m (.ol ds)) => rp ds [] fun d ds' => Q d (env.set i (.m (.ol ds')))
  | _ => False
theorem l_meth0 (i : Nat) {e : Expr} {r : V → List V → Hp → VK → Prop} {rp : RpM} (hr : OpM X.K r rp) (hN : i < X.N.length) (h : PE X e (tBM0 X.K "list" r (tVar i))) : PE X e (liftE X.K E (pMeth0 i rp)) := by
  refine ⟨fun pins s σ H Q I ⟨ts, F, env, As, Q', S, fx, p, k⟩ => ?_⟩
  have hi' : i < σ.length := by rw [I.len]; exact hN
  unfold pMeth0 at p
  split at p
  · rename_i ds e2
    obtain ⟨a, vs, hv, ha, ra, hF, wr⟩ := S.put hi' e2
    refine h.run pins s σ H Q I ⟨_, hv, .inl ⟨rfl, _, SqL.of ha⟩, hr F H _ vs ds [] [] Q _ S.sub ha ra .nil p fun z d vs' ds' h1 h2 q => ?_⟩
    obtain ⟨As', S'⟩ := wr vs' ds' h1
    exact k z d F _ _ As' S' (Same.refl F) h2 q
  · exact p.elim

/-! ### 28. stores into an owned list -/
/-- o[j] = d of an owned list -/
def setM : MO → Int → PyData → Option MO
  | .ol ds, k, d => (ixN ds.length k).map fun j => .ol (ds.set j d)
  | .lst cs, k, d => (ixN cs.length k).bind fun j => match cs[j]? with
    | some (.fz _) => some (.lst (cs.set j (.fz d)))
    | _ => none
  | _, _, _ => none
def setIx (i : Nat) (pj : PX) (d : PyData) (env : PEnv) (Q : PEnv → Prop) : Prop := isM env i ∧ pj env fun ix env1 => match env1[i]?, ix with
  | some (.m c), .int k => ∃ c', setM c k d = some c' ∧ Q (env1.set i (.m c'))
  | _, _ => False
theorem SR.setIt {F H : Hp} {σ ts : L2.St} {env : PEnv} {As : Nat → List Addr} (S : SR K E F H (σ ++ ts) env As) {i : Nat} (hi : i < σ.length) {c c' : MO} (e : env[i]? = some (.m c)) {k : Int} {d : PyData} {w : V} (hw : Fp F w d) (es : setM c k d = some c') :
    ∃ a vs j, σ[i]? = some (some (.ref a)) ∧ H a = some (.lst vs) ∧ ixN vs.length k = some j ∧ ∃ As', SR K E F (upd H a (.lst (vs.set j w))) (σ ++ ts) (env.set i (.m c')) As' := by
  obtain ⟨v, hv, h2⟩ := S.mslot hi e
  have il := (List.getElem?_eq_some_iff.mp e).1
  have hσ : (σ ++ ts)[i]? = some (some v) := by rw [List.getElem?_append_left hi]; exact hv
  generalize hA : As i = ai at h2
  cases h2 with
  | @ol a vs ds h1 h2 =>
    obtain ⟨j, e1, rfl⟩ := Option.map_eq_some_iff.mp (show (ixN ds.length k).map (fun j => MO.ol (ds.set j d)) = some c' from es)
    refine ⟨a, vs, j, hv, h1, by rw [h2.length]; exact e1, _, S.write (H' := upd H a (.lst (vs.set j w))) (as' := [a]) il hσ (.ol upd_same (FpAll.set hw j h2)) (by simp) (fun b hb => .inl (by rw [hA]; exact hb)) fun b hb _ => upd_ne fun z => hb (by rw [hA, z]; exact List.mem_singleton.mpr rfl)⟩
  | @lst a vs cs as h1 h2 =>
    obtain ⟨j, e1, e2⟩ := Option.bind_eq_some_iff.mp (show (ixN cs.length k).bind (fun j => match cs[j]? with
      | some (.fz _) => some (MO.lst (cs.set j (.fz d)))
      | _ => none) = some c' from es)
    split at e2
    · rename_i d0 e3
      cases e2
      obtain ⟨w0, a1, a2, a3, q1, q2, rfl, q4⟩ := h2.get e3
      have nd := S.nd i
      rw [hA] at nd
      generalize hz : MO.fz d0 = cz at q2
      cases q2 with
      | fz q3 =>
        have fr : ∀ b ∈ a1 ++ a3, upd H a (.lst (vs.set j w)) b = H b := fun b hb => upd_ne fun z => (List.nodup_cons.mp nd).1 (by rw [← z]; simpa using hb)
        refine ⟨a, vs, j, hv, h1, by rw [h2.length]; exact e1, _, S.write (H' := upd H a (.lst (vs.set j w))) (as' := a :: (a1 ++ ([] ++ a3))) il hσ (.lst upd_same (q4 (Same.refl F) fr (.fz hw))) nd (fun b hb => .inl (by rw [hA]; exact hb)) fun b hb _ => upd_ne fun z => hb (by rw [hA, z]; exact List.mem_cons_self)⟩
      | _ => cases hz
    · cases e2
  | _ => cases es
/-- x[j] = e -/
def pSetIx (i : Nat) (pj pe : PX) : PSt := fun D env => pe env fun d env1 => setIx i pj d env1 D.nx
theorem le_setIx {i : Nat} {pj : PX} {b : Expr} {ts σ : L2.St} {F H : Hp} {env : PEnv} {As : Nat → List Addr} {v : V} {d : PyData} {Q : Hp → Prop} {Q' : PEnv → Prop} (hi' : i < σ.length) (S : SR K E F H (σ ++ ts) env As) (fx : FixIn E σ) (hv : Fp F v d) (p : setIx i pj d env Q')
    (k : ∀ F' H' env' As', SR K E F' H' (σ ++ ts) env' As' → Same F F' → Q' env' → Q H') : tVar i σ H fun o H1 => liftE K E pj σ H1 fun ix H2 => rSetL o ix v H2 Q := by
  obtain ⟨⟨c, ec⟩, p⟩ := p
  obtain ⟨w, hw, _⟩ := S.mslot hi' ec
  refine ⟨w, hw, ts, F, env, As, _, S, fx, p, fun x dx F1 H1 env1 As1 S1 f1 hx q => ?_⟩
  split at q
  · rename_i c1 kk e1
    obtain ⟨c', e2, q⟩ := q
    obtain ⟨a, vs, j, q1, q2, q3, As2, S2⟩ := S1.setIt hi' e1 (hv.to f1) e2
    rw [hw] at q1
    cases q1
    exact ⟨a, vs, kk, j, rfl, hx.int_inv, q2, q3, k F1 _ _ As2 S2 f1 q⟩
  · exact q.elim
theorem ls_setIx (i : Nat) {b e : Expr} {tg : Expr} {pos : Pos} {pj pe : PX} (hN : i < X.N.length) (h : ∀ te ti, PE X e te → PE X b ti → PS X (.Assign [tg] e pos) (tAsg te (gSub (tVar i) ti rSetL))) (he : PE X e (liftE X.K E pe)) (hb : PE X b (liftE X.K E pj)) : PS X (.Assign [tg] e pos) (liftS X.K E (pSetIx i pj pe)) := by
  refine ⟨fun pins s σ H D I ⟨F, env, As, D', S, fx, p, k⟩ => (h _ _ he hb).run pins s σ H D I ⟨[], F, env, As, _, app_nil_SR S, fx, p, fun v d F1 H1 env1 As1 S1 f1 hv q => ?_⟩⟩
  have hi' : i < σ.length := by rw [I.len]; exact hN
  exact le_setIx (K := X.K) (b := b) hi' S1 fx hv q fun F' H' env' As' S' f' q' => k.nx σ F' H' env' As' rfl (nil_app_SR S') (f1.trans f') q'
/-- x[j], y[k] = e, g -/
def pSet2 (i : Nat) (pj : PX) (i2 : Nat) (pj2 : PX) (pe pg : PX) : PSt := fun D env => pe env fun d env1 => pg env1 fun d2 env2 => setIx i pj d env2 fun env3 => setIx i2 pj2 d2 env3 D.nx
theorem ls_set2 (i i2 : Nat) {b b2 e g : Expr} {tg ev : Expr} {pos : Pos} {pj pj2 pe pg : PX} (hN : i < X.N.length) (hN2 : i2 < X.N.length)
    (h : ∀ te tg' ti ti2, PE X e te → PE X g tg' → PE X b ti → PE X b2 ti2 → PS X (.Assign [tg] ev pos) (tAsg (tTup (tCons te (tCons tg' tNil))) (gTup X.K 2 (gCons (gSub (tVar i) ti rSetL) (gCons (gSub (tVar i2) ti2 rSetL) gNil)))))
    (he : PE X e (liftE X.K E pe)) (hg : PE X g (liftE X.K E pg)) (hb : PE X b (liftE X.K E pj)) (hb2 : PE X b2 (liftE X.K E pj2)) : PS X (.Assign [tg] ev pos) (liftS X.K E (pSet2 i pj i2 pj2 pe pg)) := by
  refine ⟨fun pins s σ H D I ⟨F, env, As, D', S, fx, p, k⟩ => (h _ _ _ _ he hg hb hb2).run pins s σ H D I ?_⟩
  have hi' : i < σ.length := by rw [I.len]; exact hN
  have hi2' : i2 < σ.length := by rw [I.len]; exact hN2
  refine l_two' (K := X.K) (E := E) (ts := []) (R := fun x y H2 => [x, y].length ≤ sizeLine ∧ ∀ p, H2 p = none → gTup X.K 2 (gCons (gSub (tVar i) (liftE X.K E pj) rSetL) (gCons (gSub (tVar i2) (liftE X.K E pj2) rSetL) gNil)) (.ref p) σ (upd H2 p (.tup [x, y])) D.nx) (app_nil_SR S) fx p fun x y d d2 F1 H1 env1 As1 S1 f1 h1 h2 q => ?_
  refine ⟨by show 2 ≤ sizeLine; decide, fun a ha => ?_⟩
  have g := Gr.laid (o := HO.tup [x, y]) S1.sub ha
  have S2 := S1.gr g
  refine ⟨a, [x, y], rfl, SqT.of upd_same, rfl, x, [y], rfl, ?_⟩
  refine le_setIx (K := X.K) (b := b) hi' S2 fx (h1.to g.ff) q fun F3 H3 env3 As3 S3 f3 q3 => ⟨y, [], rfl, ?_⟩
  exact le_setIx (K := X.K) (b := b2) hi2' S3 fx ((h2.to g.ff).to f3) q3 fun F4 H4 env4 As4 S4 f4 q4 => ⟨rfl, k.nx σ F4 H4 env4 As4 rfl (nil_app_SR S4) (((f1.trans g.ff).trans f3).trans f4) q4⟩

/-! ### 29. several names at once -/
/-- a, b = x, y: new values, or what is owned -/
def pPar (is : List Nat) (pr : POs) : PSt := fun D env => pr env fun rs env1 => is.length = rs.length ∧ D.nx (setAll env1 is rs)
theorem setV_two {σ : L2.St} {i j : Nat} {v w : V} : setV σ [i, j] [v, w] = (σ.set i (some v)).set j (some w) := rfl
theorem ls_par2 {i j : Nat} {tg ev : Expr} {pos : Pos} {es : List Expr} {pr : POs} (hi : i < X.N.length ∧ E.fix i = none) (hj : j < X.N.length ∧ E.fix j = none) (h : ∀ ta, PA X es ta → PS X (.Assign [tg] ev pos) (tPar i j ta)) (ha : PA X es (liftAO X.K E pr)) : PS X (.Assign [tg] ev pos) (liftS X.K E (pPar [i, j] pr)) := by
  refine ⟨fun pins s σ H D I ⟨F, env, As, D', S, fx, p, k⟩ => (h _ ha).run pins s σ H D I ⟨[], F, env, As, _, app_nil_SR S, fx, p, fun vs rs ar F1 H1 env1 As1 S1 f1 A ⟨hl, q⟩ => ?_⟩⟩
  have S1' := nil_app_SR S1
  have le : env1.length = X.N.length := by rw [← S1'.len]; exact I.len
  obtain ⟨As', S2⟩ := SR.setAll S1' A (is := [i, j]) (fun m hm => by
    rw [le]
    rcases List.mem_cons.mp hm with rfl | hm
    · exact hi
    · rw [List.mem_singleton.mp hm]; exact hj) hl
  have lv := RsAll.lengths A.1
  match vs, lv, hl, S2 with
  | [v, w], _, _, S2 => exact ⟨v, w, rfl, k.nx _ F1 H1 _ As' (by rw [List.length_set, List.length_set]) S2 f1 q⟩
  | [], lv, hl, _ => rw [← lv] at hl; cases hl
  | [_], lv, hl, _ => rw [← lv] at hl; cases hl
  | _ :: _ :: _ :: _, lv, hl, _ => rw [← lv] at hl; simp at hl
/-- .. by a tuple that is taken apart -/
theorem names_unpack : ∀ (is : List Nat) (vs : List V) (σ : L2.St) (H : Hp) (Q : L2.St → Hp → Prop), is.length = vs.length → Q (setV σ is vs) H → (is.foldr (fun i t => gCons (gName i) t) gNil) vs σ H Q
  | [], [], σ, H, Q, _, q => ⟨rfl, q⟩
  | [], _ :: _, _, _, _, h, _ => by cases h
  | _ :: _, [], _, _, _, h, _ => by cases h
  | i :: is, v :: vs, σ, H, Q, h, q => ⟨v, vs, rfl, names_unpack is vs (σ.set i (some v)) H Q (by simpa using h) q⟩
theorem ls_parN {is : List Nat} {tg ev : Expr} {pos : Pos} {es : List Expr} {pr : POs} (hz : is.length ≤ sizeLine) (hi : ∀ i ∈ is, i < X.N.length ∧ E.fix i = none) (h : ∀ ta, PA X es ta → PS X (.Assign [tg] ev pos) (tAsg (tTup ta) (gTup X.K is.length (is.foldr (fun i t => gCons (gName i) t) gNil)))) (ha : PA X es (liftAO X.K E pr)) :
    PS X (.Assign [tg] ev pos) (liftS X.K E (pPar is pr)) := by
  refine ⟨fun pins s σ H D I ⟨F, env, As, D', S, fx, p, k⟩ => (h _ ha).run pins s σ H D I ⟨[], F, env, As, _, app_nil_SR S, fx, p, fun vs rs ar F1 H1 env1 As1 S1 f1 A ⟨hl, q⟩ => ?_⟩⟩
  have S1' := nil_app_SR S1
  have le : env1.length = X.N.length := by rw [← S1'.len]; exact I.len
  have lv := RsAll.lengths A.1
  refine ⟨?_, fun a hp => ?_⟩
  · rw [lv, ← hl]
    exact hz
  · have live := RsAll.live A.1
    have g := Gr.made (o := HO.tup vs) S1'.sub hp
    have A2 : AllOk X.K E F1 (upd H1 a (.tup vs)) As1 vs rs ar := by
      refine ⟨?_, A.2.1, A.2.2.1, A.2.2.2⟩
      have : ∀ {vs : List V} {rs : List Sl} {ar : List Addr}, RsAll X.K F1 H1 vs rs ar → ∀ {H' : Hp}, (∀ b ∈ ar, H' b = H1 b) → RsAll X.K F1 H' vs rs ar := by
        intro vs rs ar hR
        induction hR with
        | nil => intro H' _; exact .nil
        | cons h r ih => intro H' kk; exact .cons (h.to (Same.refl F1) fun b hb => kk b (List.mem_append_left _ hb)) (ih fun b hb => kk b (List.mem_append_right _ hb))
      exact this A.1 fun b hb => upd_ne fun z => live b hb (by rw [z]; exact hp)
    obtain ⟨As', S2⟩ := SR.setAll (S1'.gr g) A2 (is := is) (fun m hm => by rw [le]; exact hi m hm) hl
    refine ⟨a, vs, rfl, SqT.of upd_same, by rw [lv, hl], names_unpack is vs σ _ _ (by rw [lv, hl]) ?_⟩
    exact k.nx _ F1 _ _ As' (setV_length ..) S2 f1 q
end
end PL

namespace PL
open PySem PySem.Spec PyProof.Rows L2

/-! ### 30. taken apart; op= -/
def pUnp (t : Tg) (pe : PX) : PSt := fun D env => pe env fun d env1 => tgP t d env1 D.nx
def pAug (i : Nat) (rp : PyData → PyData → (Sl → Prop) → Prop) (pe : PX) : PSt := fun D env => match env[i]? with
  | some (.v d0) => pe env fun d env1 => rp d0 d fun r => match r with
    | .v x => D.nx (env1.set i (.v x))
    | _ => False
  | _ => False
section
variable {X : Cx} {E : Ent} {K : PySem.W.Frag}
theorem ls_unp {t : Tg} {tg e : Expr} {pos : Pos} {pe : PX} (ht : ∀ i ∈ t.is, i < X.N.length ∧ E.fix i = none) (h : ∀ te, PE X e te → PS X (.Assign [tg] e pos) (tAsg te (tgT X.K t))) (he : PE X e (liftE X.K E pe)) : PS X (.Assign [tg] e pos) (liftS X.K E (pUnp t pe)) := by
  refine ⟨fun pins s σ H D I ⟨F, env, As, D', S, fx, p, k⟩ => (h _ he).run pins s σ H D I ⟨[], F, env, As, _, app_nil_SR S, fx, p, fun v d F1 H1 env1 As1 S1 f1 hv q => ?_⟩⟩
  have S1' := nil_app_SR S1
  unfold tgP at q
  split at q
  · rename_i bs eb
    obtain ⟨ws, b1, b2, b3⟩ := tg_lift (K := X.K) S1'.sub t hv eb
    refine b3 σ _ ?_
    obtain ⟨As3, S3, _⟩ := SR.setDs S1' b1 fun p hp => by
      have z := ht p.1 (by rw [← b2]; exact List.mem_map.mpr ⟨p, hp, rfl⟩)
      rw [← S1'.len, I.len]
      exact z
    exact k.nx _ F1 H1 _ As3 (setVs_length ws σ) S3 f1 q
  · exact q.elim
theorem PIp.or' {op : Operator} {t u : TIp} (h : PIp X op t) (h' : PIp X op u) : PIp X op fun x y H Q => t x y H Q ∨ u x y H Q := fun pins s σ H x y v w Q I r1 r2 q => q.elim (h pins s σ H x y v w Q I r1 r2) (h' pins s σ H x y v w Q I r1 r2)
/-- an in-place operator, by the operator's own rule -/
def iaddD : PyData → PyData → (Sl → Prop) → Prop
  | .int i, .int j, P => P (.v (.int (i + j)))
  | _, _, _ => False
theorem o_iadd : Op2 K (ipI fun i j => i + j) iaddD := by
  intro F H x y d e Q P s h1 h2 p k
  unfold iaddD at p
  split at p
  · exact ⟨_, _, h1.int_inv, h2.int_inv, k.flat s (.int _) p⟩
  · exact p.elim
theorem o_isub : Op2 K (ipI fun i j => i - j) subD := by
  intro F H x y d e Q P s h1 h2 p k
  unfold subD at p
  split at p
  · exact ⟨_, _, h1.int_inv, h2.int_inv, k.flat s (.int _) p⟩
  · exact p.elim
def imulD : PyData → PyData → (Sl → Prop) → Prop
  | .int i, .int j, P => i.natAbs.log2 + j.natAbs.log2 < 1000000 ∧ P (.v (.int (i * j)))
  | _, _, _ => False
theorem ls_aug {i : Nat} {x : Str} {op : Operator} {ti : TIp} {rp : PyData → PyData → (Sl → Prop) → Prop} {px pos : Pos} {e : Expr} {pe : PX} (hr : Op2 X.K ti rp) (hN : i < X.N.length) (hf : E.fix i = none) (h : ∀ te, PE X e te → PS X (.AugAssign (.Name x px) op e pos) (tAug i te ti)) (he : PE X e (liftE X.K E pe)) :
    PS X (.AugAssign (.Name x px) op e pos) (liftS X.K E (pAug i rp pe)) := by
  refine ⟨fun pins s σ H D I ⟨F, env, As, D', S, fx, p, k⟩ => ?_⟩
  unfold pAug at p
  split at p
  · rename_i d0 e0
    obtain ⟨x', h1, v, e1, h2, _⟩ := S.slot i _ e0
    subst e1
    refine (h _ he).run pins s σ H D I ⟨v, h1, [], F, env, As, _, app_nil_SR S, fx, p, fun w d F1 H1 env1 As1 S1 f1 hv q => ?_⟩
    have S1' := nil_app_SR S1
    refine hr F1 H1 v w d0 d _ _ S1'.sub (h2.to f1) hv q fun z r ar F2 H2 g n q => ?_
    split at q
    · have S2 := S1'.gr g
      have hi : i < env1.length := by rw [← S1'.len, I.len]; exact hN
      exact k.nx _ F2 H2 _ _ (List.length_set ..) (S2.set (n.ok S1') hi hf) (f1.trans g.ff) q
    · exact q.elim
  · exact p.elim
end

/-! ### 31. a part that only looks: what it looks at stays owned -/
def flatD : PyData → Bool
  | .none => true
  | .bool _ => true
  | .int _ => true
  | .str _ => true
  | _ => false
mutual
def flatM : MO → Bool
  | .fz d => flatD d
  | .ol ds => ds.all flatD
  | .lst cs => flatMs cs
  | .dk ms => flatKs ms
  | .ins _ ms => flatFs ms
  | .dt false ms => ms.all fun p => flatD p.2
  | .st _ => true
  | _ => false
def flatFs : List (Str × MO) → Bool
  | [] => true
  | (_, c) :: cs => flatM c && flatFs cs
def flatMs : List MO → Bool
  | [] => true
  | c :: cs => flatM c && flatMs cs
def flatKs : List (Key × MO) → Bool
  | [] => true
  | (_, c) :: cs => flatM c && flatKs cs
end
/-- what is looked at without being given away -/
def lookS (S : List Nat) (i : Nat) : Sl → Bool
  | .m (.scr _) => true
  | .m c => decide (i ∈ S) && c.d?.isSome
  | _ => true
def frzSl (S : List Nat) (i : Nat) (s : Sl) : Sl := match s with
  | .m c => if i ∈ S then (match c.d? with
    | some d => .v d
    | none => s) else s
  | _ => s
def frzP (S : List Nat) (env : PEnv) : PEnv := mapI (frzSl S) 0 env
theorem frzP_eq (S : List Nat) (env : PEnv) : frzP S env = env.mapIdx (frzSl S) := mapI_eq _ _
def backB (S : List Nat) (env env' : PEnv) : PEnv := mapI (fun i s => match lookS S i s with
  | true => s
  | false => env'.getD i .un) 0 env
theorem backB_eq (S : List Nat) (env env' : PEnv) : backB S env env' = env.mapIdx fun i s => if lookS S i s = true then s else env'.getD i .un := by
  unfold backB
  rw [mapI_eq]
  refine congrArg (fun g => List.mapIdx g env) (funext fun i => funext fun s => ?_)
  cases lookS S i s <;> rfl
def okSl : Sl → Bool
  | .m c => flatM c
  | _ => false
def okB (S : List Nat) (env env' : PEnv) : Bool := allI (fun i s => lookS S i s || okSl (env'.getD i .un)) 0 env
theorem okB_eq (S : List Nat) (env env' : PEnv) : okB S env env' = (env.mapIdx fun i s => lookS S i s || okSl (env'.getD i .un)).all id := allI_eq _ _
def pBor (S : List Nat) (p : PX) : PX := fun env Q => p (frzP S env) fun d env' => (flatD d = true ∧ okB S env env' = true) ∧ Q d (backB S env env')
def pBorT (S : List Nat) (p : PTt) : PTt := fun env Q => p (frzP S env) fun d env' => okB S env env' = true ∧ Q d (backB S env env')
section
variable {K : PySem.W.Frag} {E : Ent} {F F' H H' : Hp}
theorem Fp.flat {v : V} {d : PyData} (h : Fp F' v d) (e : flatD d = true) : Fp F v d := by
  cases h with
  | non => exact .non
  | bl b => exact .bl b
  | int i => exact .int i
  | str x => exact .str x
  | lst _ _ => cases e
  | tup _ _ => cases e
theorem FpAll.flat : ∀ {vs : List V} {ds : List PyData}, FpAll F' vs ds → ds.all flatD = true → FpAll F vs ds
  | _, _, .nil, _ => .nil
  | _, _, .cons h r, e => by
    rw [List.all_cons, Bool.and_eq_true] at e
    exact .cons (h.flat e.1) (FpAll.flat r e.2)
theorem FpT.flat : ∀ {vs : List (List Key × V)} {ds : List (List Key × PyData)}, FpT F' vs ds → (ds.all fun p => flatD p.2) = true → FpT F vs ds
  | _, _, .nil, _ => .nil
  | _, _, .cons h r, e => by
    rw [List.all_cons, Bool.and_eq_true] at e
    exact .cons (h.flat e.1) (FpT.flat r e.2)
mutual
theorem Mp.flat : ∀ {c : MO} {v : V} {as : List Addr}, Mp K F' H v c as → flatM c = true → Mp K F H v c as
  | .fz d, _, _, .fz h, e => by
    rw [flatM] at e
    exact .fz (h.flat e)
  | .ol ds, _, _, .ol h r, e => by
    rw [flatM] at e
    exact .ol h (r.flat e)
  | .lst cs, _, _, .lst h r, e => by
    rw [flatM] at e
    exact .lst h (MpAll.flat r e)
  | .dk cs, _, _, .dk h r, e => by
    rw [flatM] at e
    exact .dk h (MpKV.flat r e)
  | .dt false ms, _, _, .dt h r, e => by
    rw [flatM] at e
    exact .dt h (r.flat e)
  | .dt true _, _, _, _, e => by rw [flatM] at e; cases e; all_goals (intros; first | contradiction | (intro h; cases h))
  | .ins _ cs, _, _, .ins h r, e => by
    rw [flatM] at e
    exact .ins h (MpFs.flat r e)
  | .st _, _, _, .st h r, _ => .st h r
  | .scr _, _, _, _, e => by rw [flatM] at e; cases e; all_goals (intros; first | contradiction | (intro h; cases h))
theorem MpFs.flat : ∀ {cs : List (Str × MO)} {vs : List (Str × V)} {as : List Addr}, MpFs K F' H vs cs as → flatFs cs = true → MpFs K F H vs cs as
  | [], _, _, .nil, _ => .nil
  | (k, c) :: cs, _, _, .cons h r, e => by
    rw [flatFs, Bool.and_eq_true] at e
    exact .cons (Mp.flat h e.1) (MpFs.flat r e.2)
theorem MpAll.flat : ∀ {cs : List MO} {vs : List V} {as : List Addr}, MpAll K F' H vs cs as → flatMs cs = true → MpAll K F H vs cs as
  | [], _, _, .nil, _ => .nil
  | c :: cs, _, _, .cons h r, e => by
    rw [flatMs, Bool.and_eq_true] at e
    exact .cons (Mp.flat h e.1) (MpAll.flat r e.2)
theorem MpKV.flat : ∀ {cs : List (Key × MO)} {vs : List (Key × V)} {as : List Addr}, MpKV K F' H vs cs as → flatKs cs = true → MpKV K F H vs cs as
  | [], _, _, .nil, _ => .nil
  | (k, c) :: cs, _, _, .cons h r, e => by
    rw [flatKs, Bool.and_eq_true] at e
    exact .cons (Mp.flat h e.1) (MpKV.flat r e.2)
end
/-- the slots that are looked at -/
def fr (S : List Nat) (env : PEnv) (i : Nat) : Prop := i ∈ S ∧ ∃ c d, env[i]? = some (.m c) ∧ c.d? = some d
open Classical in
noncomputable def frF (F H : Hp) (S : List Nat) (env : PEnv) (As : Nat → List Addr) : Hp := fun a => if ∃ i, fr S env i ∧ a ∈ As i then H a else F a
open Classical in
noncomputable def frA (S : List Nat) (env : PEnv) (As : Nat → List Addr) : Nat → List Addr := fun i => if fr S env i then [] else As i
theorem frA_mem {S : List Nat} {env : PEnv} {As : Nat → List Addr} {i : Nat} {a : Addr} (h : a ∈ frA S env As i) : ¬ fr S env i ∧ a ∈ As i := by
  unfold frA at h
  split at h
  · cases h
  · exact ⟨by assumption, h⟩
theorem frF_in {S : List Nat} {env : PEnv} {As : Nat → List Addr} {a : Addr} {i : Nat} (h : fr S env i) (ha : a ∈ As i) : frF F H S env As a = H a := if_pos ⟨i, h, ha⟩
theorem frF_out {S : List Nat} {env : PEnv} {As : Nat → List Addr} {a : Addr} (h : ¬ ∃ i, fr S env i ∧ a ∈ As i) : frF F H S env As a = F a := if_neg h
theorem SR.look {σ : L2.St} {env : PEnv} {As : Nat → List Addr} (S0 : SR K E F H σ env As) (S : List Nat) : SR K E (frF F H S env As) H σ (frzP S env) (frA S env As) ∧ Same F (frF F H S env As) := by
  have ff : Same F (frF F H S env As) := fun b o e => by
    by_cases h : ∃ i, fr S env i ∧ b ∈ As i
    · obtain ⟨i, h1, h2⟩ := h
      rw [frF_in h1 h2]
      exact S0.sub b o e
    · rw [frF_out h]
      exact e
  refine ⟨⟨fun b o e => ?_, S0.f0.trans ff, fun a h => ?_, S0.keep, ?_, fun i s e => ?_, fun i h => ?_, fun i a h => ?_, fun i => ?_, fun i j a ne h1 h2 => S0.disj i j a ne (frA_mem h1).2 (frA_mem h2).2, S0.fix⟩, ff⟩
  · by_cases h : ∃ i, fr S env i ∧ b ∈ As i
    · obtain ⟨i, h1, h2⟩ := h
      rw [frF_in h1 h2] at e
      exact e
    · rw [frF_out h] at e
      exact S0.sub b o e
  · by_cases c : ∃ i, fr S env i ∧ a ∈ As i
    · obtain ⟨i, _, h2⟩ := c
      exact .inr ((S0.own i a h2).2.elim (fun z => .inr (.inl z)) .inl)
    · rw [frF_out c] at h
      exact S0.grow a h
  · rw [frzP_eq]
    rw [List.length_mapIdx]
    exact S0.len
  · rw [frzP_eq] at e
    rw [List.getElem?_mapIdx] at e
    obtain ⟨s0, e0, e1⟩ := Option.map_eq_some_iff.mp e
    obtain ⟨x, h1, h2⟩ := S0.slot i s0 e0
    refine ⟨x, h1, ?_⟩
    by_cases c : fr S env i
    · obtain ⟨hS, c', d, ec, ed⟩ := id c
      rw [e0] at ec
      cases ec
      have e2 : s = .v d := by
        rw [← e1]
        simp only [frzSl, hS, ed, if_true]
      subst e2
      obtain ⟨v, q1, q2⟩ := h2
      subst q1
      refine ⟨v, rfl, Mp.still ff q2 ed fun a ha => frF_in c ha, ?_⟩
      unfold frA
      exact if_pos c
    · have e2 : s = s0 := by
        rw [← e1]
        unfold frzSl
        cases s0 with
        | un => rfl
        | v d => rfl
        | m c' =>
          show (if i ∈ S then _ else _) = _
          by_cases hS : i ∈ S
          · rw [if_pos hS]
            cases ed : c'.d? with
            | none => rfl
            | some d => exact absurd ⟨hS, c', d, e0, ed⟩ c
          · rw [if_neg hS]
      subst e2
      have ea : frA S env As i = As i := if_neg c
      rw [ea]
      exact h2.to ff fun _ _ => rfl
  · unfold frA
    split
    · rfl
    · rw [frzP_eq] at h
      rw [List.length_mapIdx] at h
      exact S0.out i h
  · obtain ⟨n, h⟩ := frA_mem h
    refine ⟨?_, (S0.own i a h).2⟩
    rw [frF_out fun ⟨j, h1, h2⟩ => by
      by_cases z : j = i
      · subst z; exact n h1
      · exact S0.disj j i a z h2 h]
    exact (S0.own i a h).1
  · unfold frA
    split
    · exact List.nodup_nil
    · exact S0.nd i
/-- behind it: the slots as they were, but for what may change -/
theorem SR.looked {σ : L2.St} {env env' : PEnv} {As As' : Nat → List Addr} (S0 : SR K E F H σ env As) (S : List Nat) (S' : SR K E F' H' σ env' As') (f : Same (frF F H S env As) F') (ok : okB S env env' = true) : ∃ As2, SR K E F H' σ (backB S env env') As2 := by
  have ff := (S0.look S).2.trans f
  have le : env'.length = env.length := by rw [← S'.len, S0.len]
  have okAt : ∀ {i : Nat} {s : Sl}, env[i]? = some s → lookS S i s ≠ true → ∃ c, env'[i]? = some (.m c) ∧ flatM c = true := fun {i s} e n => by
    rw [okB_eq] at ok
    have hi := (List.getElem?_eq_some_iff.mp e).1
    have z := List.all_eq_true.mp ok (lookS S i s || okSl (env'.getD i .un)) (by
      refine List.mem_of_getElem? (i := i) ?_
      rw [List.getElem?_mapIdx, e]
      rfl)
    have z' : okSl (env'.getD i .un) = true := by
      cases q : lookS S i s with
      | true => exact absurd q n
      | false => rw [q] at z; exact z
    rw [List.getD_eq_getElem?_getD, List.getElem?_eq_getElem (by omega)] at z'
    cases q : env'[i]'(by omega) with
    | un => rw [show (some (env'[i]'(by omega))).getD Sl.un = Sl.un from q] at z'; cases z'
    | v d => rw [show (some (env'[i]'(by omega))).getD Sl.un = Sl.v d from q] at z'; cases z'
    | m c =>
      rw [show (some (env'[i]'(by omega))).getD Sl.un = Sl.m c from q] at z'
      exact ⟨c, by rw [List.getElem?_eq_getElem (by omega), q], z'⟩
  -- what is kept: looked at, its things stand
  let kp : Nat → Prop := fun i => ∃ s, env[i]? = some s ∧ lookS S i s = true
  have stands : ∀ {i : Nat} {a : Addr}, kp i → a ∈ As i → F' a ≠ none ∧ H' a = H a := fun {i a} ⟨s, e, l⟩ ha => by
    obtain ⟨x, h1, h2⟩ := S0.slot i s e
    have hfr : fr S env i := by
      cases s with
      | un =>
        have z : As i = [] := h2
        rw [z] at ha
        cases ha
      | v d =>
        obtain ⟨_, _, _, z⟩ := h2
        rw [z] at ha
        cases ha
      | m c =>
        cases c with
        | scr ns =>
          obtain ⟨v, _, q⟩ := h2
          generalize As i = ai at q ha
          cases q
          cases ha
        | _ =>
          have l' := Bool.and_eq_true_iff.mp l
          obtain ⟨d, hd⟩ := Option.isSome_iff_exists.mp l'.2
          exact ⟨of_decide_eq_true l'.1, _, d, e, hd⟩
    have q := frF_in (F := F) (H := H) hfr ha
    cases e2 : H a with
    | none => exact absurd e2 (S0.live i a ha)
    | some o =>
      rw [e2] at q
      have z := f _ _ q
      exact ⟨some_ne z, S'.sub _ _ z⟩
  let As2 : Nat → List Addr := fun i => open Classical in if kp i then As i else As' i
  have a2 : ∀ {i : Nat}, kp i → As2 i = As i := fun h => if_pos h
  have a2' : ∀ {i : Nat}, ¬ kp i → As2 i = As' i := fun h => if_neg h
  have noF : ∀ {i : Nat} {a : Addr}, a ∈ As' i → F a = none := fun {i a} h => by
    cases q : F a with
    | none => rfl
    | some o =>
      have z := ff _ _ q
      rw [(S'.own i a h).1] at z
      cases z
  refine ⟨As2, fun b o e => S'.sub _ _ (ff b o e), S0.f0, S0.grow, S'.keep, ?_, fun i s e => ?_, fun i h => ?_, fun i a h => ?_, fun i => ?_, fun i j a ne h1 h2 => ?_, S'.fix⟩
  · rw [backB_eq]
    rw [List.length_mapIdx]
    exact S0.len
  · rw [backB_eq] at e
    rw [List.getElem?_mapIdx] at e
    obtain ⟨s0, e0, e1⟩ := Option.map_eq_some_iff.mp e
    have hi := (List.getElem?_eq_some_iff.mp e0).1
    by_cases l : lookS S i s0 = true
    · rw [if_pos l] at e1
      subst e1
      obtain ⟨x, h1, h2⟩ := S0.slot i s0 e0
      have hk : kp i := ⟨s0, e0, l⟩
      refine ⟨x, h1, ?_⟩
      rw [a2 hk]
      exact h2.to (Same.refl F) fun a ha => (stands hk ha).2
    · rw [if_neg l] at e1
      obtain ⟨c, ec, hc⟩ := okAt e0 l
      have e2 : s = .m c := by
        rw [← e1, List.getD_eq_getElem?_getD, ec]
        rfl
      subst e2
      obtain ⟨x, h1, v, q1, q2⟩ := S'.slot i _ ec
      have nk : ¬ kp i := fun ⟨s', z1, z2⟩ => by
        rw [e0] at z1
        cases z1
        exact l z2
      refine ⟨x, h1, v, q1, ?_⟩
      rw [a2' nk]
      exact Mp.flat q2 hc
  · rw [backB_eq] at h
    rw [List.length_mapIdx] at h
    have nk : ¬ kp i := fun ⟨s', z1, _⟩ => by
      have := (List.getElem?_eq_some_iff.mp z1).1
      omega
    rw [a2' nk]
    exact S'.out i (by omega)
  · by_cases c : kp i
    · rw [a2 c] at h
      exact S0.own i a h
    · rw [a2' c] at h
      exact ⟨noF h, (S'.own i a h).2⟩
  · by_cases c : kp i
    · rw [a2 c]; exact S0.nd i
    · rw [a2' c]; exact S'.nd i
  · by_cases c1 : kp i
    · rw [a2 c1] at h1
      by_cases c2 : kp j
      · rw [a2 c2] at h2
        exact S0.disj i j a ne h1 h2
      · rw [a2' c2] at h2
        exact (stands c1 h1).1 (S'.own j a h2).1
    · rw [a2' c1] at h1
      by_cases c2 : kp j
      · rw [a2 c2] at h2
        exact (stands c2 h2).1 (S'.own i a h1).1
      · rw [a2' c2] at h2
        exact S'.disj i j a ne h1 h2
end
section
variable {X : Cx} {E : Ent} {e : Expr}
theorem l_bor (S : List Nat) {p : PX} (h : PE X e (liftE X.K E p)) : PE X e (liftE X.K E (pBor S p)) := pe_w h fun σ H Q ⟨ts, F, env, As, Q', S0, fx, p, k⟩ => by
  obtain ⟨S1, f1⟩ := S0.look S
  refine ⟨ts, _, _, _, _, S1, fx, p, fun v d F' H' env' As' S' f hv ⟨⟨h1, h2⟩, q⟩ => ?_⟩
  obtain ⟨As2, S2⟩ := S0.looked S S' f h2
  exact k v d F H' _ As2 S2 (Same.refl F) (hv.flat h1) q
theorem lt_bor (S : List Nat) {p : PTt} (h : PT X e (liftT X.K E p)) : PT X e (liftT X.K E (pBorT S p)) := pt_w h fun σ H Q ⟨ts, F, env, As, Q', S0, fx, p, k⟩ => by
  obtain ⟨S1, f1⟩ := S0.look S
  refine ⟨ts, _, _, _, _, S1, fx, p, fun b F' H' env' As' S' f ⟨h2, q⟩ => ?_⟩
  obtain ⟨As2, S2⟩ := S0.looked S S' f h2
  exact k b F H' _ As2 S2 (Same.refl F) q
end
end PL

namespace PL
open PySem PySem.Spec PyProof.Rows L2

/-! ### 32. for a program that prints derivations -/
section
variable {X : Cx} {E : Ent}
theorem pg_nm {e : Expr} {i : Nat} (h : PG X e (gName i)) : PG X e (tgT X.K (.nm i)) := by rw [tgT]; exact h
theorem pgs_n : PGs X [] (tgTs X.K []) := by rw [tgTs]; exact pgs_nil
theorem pgs_c {e : Expr} {es : List Expr} {t : Tg} {ts : List Tg} (h1 : PG X e (tgT X.K t)) (h2 : PGs X es (tgTs X.K ts)) (hs : (assignEach (e :: es) X.env).map (·.2) = assign e X.env :: (assignEach es X.env).map (·.2) := by rfl) : PGs X (e :: es) (tgTs X.K (t :: ts)) := by
  rw [tgTs]
  exact pgs_cons h1 h2 hs
theorem pg_tp {es : List Expr} {k : Nat} {ts : List Tg} {pos : Pos} (hc : X.calm = true) (h : PGs X es (tgTs X.K ts)) (hn : (assignEach es X.env).length = tgN ts := by rfl) (hst : (assignEach es X.env).findIdx? (·.1) = none := by rfl) : PG X (.Tuple es k pos) (tgT X.K (.tup ts)) := by
  rw [tgT]
  exact pg_or (pg_tup hc h hn hst) (pg_unl hc h hn hst)
/-- one reading or another, by what stands in the slots -/
def pCase (c : PEnv → Bool) (p1 p2 : PX) : PX := fun env Q => match c env with
  | true => p1 env Q
  | false => p2 env Q
def pCaseO (c : PEnv → Bool) (p1 p2 : PO) : PO := fun env Q => match c env with
  | true => p1 env Q
  | false => p2 env Q
theorem l_case (c : PEnv → Bool) {e : Expr} {p1 p2 : PX} (h1 : PE X e (liftE X.K E p1)) (h2 : PE X e (liftE X.K E p2)) : PE X e (liftE X.K E (pCase c p1 p2)) := ⟨fun pins s σ H Q I ⟨ts, F, env, As, Q', S, fx, p, k⟩ => by
  unfold pCase at p
  split at p
  · exact h1.run pins s σ H Q I ⟨ts, F, env, As, Q', S, fx, p, k⟩
  · exact h2.run pins s σ H Q I ⟨ts, F, env, As, Q', S, fx, p, k⟩⟩
theorem l_caseO (c : PEnv → Bool) {e : Expr} {p1 p2 : PO} (h1 : PE X e (liftO X.K E p1)) (h2 : PE X e (liftO X.K E p2)) : PE X e (liftO X.K E (pCaseO c p1 p2)) := ⟨fun pins s σ H Q I ⟨ts, F, env, As, Q', S, fx, p, k⟩ => by
  unfold pCaseO at p
  split at p
  · exact h1.run pins s σ H Q I ⟨ts, F, env, As, Q', S, fx, p, k⟩
  · exact h2.run pins s σ H Q I ⟨ts, F, env, As, Q', S, fx, p, k⟩⟩
def ownedAt (i : Nat) (env : PEnv) : Bool := match env[i]? with
  | some (.m _) => true
  | _ => false
/-- x[i], x owned or not -/
def pIxN (i : Nat) (pi : PX) : PX := pCase (ownedAt i) (pIxM i pi) (pE (pOp2 ixD (pName i) pi))
theorem l_ixN (i : Nat) {x : Str} {px pos : Pos} {b : Expr} {pi : PX} (hs : PlainIx b) (h : PE X (.Name x px) (tVar i)) (hN : i < X.N.length) (hb : PE X b (liftE X.K E pi)) : PE X (.Subscript (.Name x px) b pos) (liftE X.K E (pIxN i pi)) :=
  l_case _ (l_ixM i hs h hN hb) (l_e (l_ix hs (l_name i h hN) hb))
def pSliceN (i : Nat) (pl ph : PBd) : PO := pCaseO (ownedAt i) (pSliceM i pl ph) (pSlice (pName i) pl ph)
theorem l_sliceN (i : Nat) {x : Str} {px : Pos} {lo hi : Option Expr} {p2 pos : Pos} {pl ph : PBd} (h : PE X (.Name x px) (tVar i)) (hN : i < X.N.length) (hl : L2.PO X lo (liftB X.K E pl)) (hu : L2.PO X hi (liftB X.K E ph)) : PE X (.Subscript (.Name x px) (.Slice lo hi none p2) pos) (liftO X.K E (pSliceN i pl ph)) :=
  l_caseO _ (l_sliceM i h hN hl hu) (l_slice (l_name i h hN) hl hu)
theorem fix_all {fx : List Nat} {n : Nat} {l : List Nat} (hfx : ∀ i, i ∉ fx → E.fix i = none) (h : (l.all fun i => decide (i < n) && !fx.contains i) = true) : ∀ i ∈ l, i < n ∧ E.fix i = none := fun i hi => by
  have z := List.all_eq_true.mp h i hi
  rw [Bool.and_eq_true] at z
  refine ⟨of_decide_eq_true z.1, hfx i fun q => ?_⟩
  have := z.2
  rw [List.contains_iff_mem.mpr q] at this
  cases this
theorem mem_all {l m : List Nat} (h : (l.all fun i => m.contains i) = true) : ∀ i ∈ l, i ∈ m := fun i hi => List.contains_iff_mem.mp (List.all_eq_true.mp h i hi)
theorem un65 {k : Nat} {A : Around} (r : Room k A) : A.units + 65 < cLine := by have := r.un; omega
theorem un64 {k : Nat} {A : Around} (r : Room k A) : A.units + 64 < cLine := by have := r.un; omega
end

/-! ### 32b. slots that are read no more are forgotten -/
def pB (vs : List Nat) (p : PSt) : PSt := fun D env => p D (wipeP env vs)
def pW (vs : List Nat) (p : PSt) : PSt := fun D env => p { D with nx := fun e => D.nx (wipeP e vs), ct := fun e => D.ct (wipeP e vs) } env
section
variable {K : PySem.W.Frag} {E : Ent} {F H : Hp} {X : Cx}
theorem SR.blank {σ : L2.St} {env : PEnv} {As : Nat → List Addr} (S : SR K E F H σ env As) (i : Nat) : SR K E F H σ (env.set i .un) (setA As i []) where
  sub := S.sub
  f0 := S.f0
  grow := S.grow
  keep := S.keep
  len := by rw [List.length_set]; exact S.len
  slot := fun j s e => by
    rcases getElem?_set_of e with ⟨rfl, rfl, hl⟩ | ⟨ne, e⟩
    · obtain ⟨x, h1, _⟩ := S.slot i _ (List.getElem?_eq_getElem hl)
      exact ⟨x, h1, by unfold setA; rw [if_pos rfl]; rfl⟩
    · obtain ⟨x, h1, h2⟩ := S.slot j s e
      exact ⟨x, h1, by unfold setA; rw [if_neg fun z => ne z.symm]; exact h2⟩
  out := fun j h => by
    unfold setA
    split
    · rfl
    · exact S.out j (by rw [List.length_set] at h; exact h)
  own := fun j a h => by
    unfold setA at h
    split at h
    · cases h
    · exact S.own j a h
  nd := fun j => by
    unfold setA
    split
    · exact List.nodup_nil
    · exact S.nd j
  disj := fun j k a ne h h' => by
    unfold setA at h h'
    split at h
    · cases h
    · split at h'
      · cases h'
      · exact S.disj j k a ne h h'
  fix := S.fix
theorem SR.blanks {σ : L2.St} {env : PEnv} {As : Nat → List Addr} (S : SR K E F H σ env As) : ∀ vs : List Nat, ∃ As', SR K E F H σ (wipeP env vs) As'
  | [] => ⟨As, S⟩
  | v :: vs => by
    obtain ⟨As', S'⟩ := SR.blanks S vs
    exact ⟨_, S'.blank v⟩
theorem ls_B {st : Stmt} {p : PSt} (vs : List Nat) (h : PS X st (liftS X.K E p)) : PS X st (liftS X.K E (pB vs p)) := ps_w h fun D σ H ⟨F, env, As, D', S, fx, p, k⟩ => by
  obtain ⟨As', S'⟩ := S.blanks vs
  exact ⟨F, _, As', D', S', fx, p, k⟩
theorem ls_W {st : List Stmt} {p : PSt} (vs : List Nat) (h : PSs X st (liftS X.K E p)) : PSs X st (liftS X.K E (pW vs p)) := pss_w h fun D σ H ⟨F, env, As, D', S, fx, p, k⟩ => by
  refine ⟨F, env, As, _, S, fx, p, ⟨fun σ' F' H' env' As' hl S' f q => ?_, k.bk, fun σ' F' H' env' As' hl S' f q => ?_, k.rt⟩⟩
  · obtain ⟨As2, S2⟩ := S'.blanks vs
    exact k.nx σ' F' H' _ As2 hl S2 f q
  · obtain ⟨As2, S2⟩ := S'.blanks vs
    exact k.ct σ' F' H' _ As2 hl S2 f q
end

/-! ### 33. the end of a law -/
section
variable {P : Program} {w : World} {K : PySem.W.Frag} {mg mb : Str → Option Value} {k : Nat} {fa a : Addr} {fd : FuncData} {x : Str} {sp : Sp} {st : Shared} {vs : List Value} {ns : List Int}
/-- the call, from a heap of which the script alone may be tracked -/
theorem call_from {H : Hp} (kx : K.In st.heap) (hm : st.heap.Ns mainGlobals mg) (hb : st.heap.Ns builtinsNs mb) (hbb : ∀ y : Str, y ≠ "__name__" → mb y = bootBuiltins y) (lim : st.heap.NoLimit) (hg : st.gens = #[])
    (ha : st.heap.get? a = some { cls := .type "list", data := .seq vs.toArray }) (hr : Room k callerA)
    (Fn : ∀ base : Heap, K.In base → base.Ns mainGlobals mg → FnG P w K mg base CX0 k fa fd [x] sp) (hbind : ∀ (s : Shared) (u : Value), BindsTo s fd ⟨[u], []⟩ [(x, u)])
    (only : Only H) (alone : ∀ b, H b ≠ none → b = a) (apart : H a ≠ none → K.lookup a = none) (ok : HOk P w H st.heap) (hsp : sp [.ref a] H (fun v _ => v = .bl true) fun _ _ _ => False) :
    codeAny (model P w) callerA (.call (.ref fa) ⟨[.ref a], []⟩) (fun r s' => r = .ok (.ret (.bool true)) ∧ OldK st.heap s'.heap ∧ s'.os = st.os ∧ AllBare s'.gens) st := by
  -- what is no list stands untracked
  have off : ∀ {b : Addr} {o : Obj}, st.heap.get? b = some o → (∀ q n, o.data ≠ .seq q n) → H b = none := fun {b o} e ne => by
    refine Classical.byContradiction fun hn => ?_
    have eb := alone b hn
    subst eb
    have z := Option.some.inj (ha.symm.trans e)
    exact ne vs.toArray _ (by rw [← z])
  have spaces : ∀ {b : Addr} {m : Str → Option Value}, st.heap.Ns b m → (hidT st.heap H).Ns b m := by
    rintro b m ⟨o, es, ep, e, d, r⟩
    exact ⟨o, es, ep, hidT_get e (off e fun q n z => by rw [d] at z; cases z), d, r⟩
  have kb : K.In (hidT st.heap H) := by
    intro b o e
    refine hidT_get (kx b o e) (Classical.byContradiction fun hn => ?_)
    have eb := alone b hn
    subst eb
    rw [apart hn] at e
    cases e
  have md : Mod K mg (hidT st.heap H) := by
    refine ⟨kb, spaces hm, ⟨mb, spaces hb, hbb⟩, ?_⟩
    obtain ⟨mc, q1, q2⟩ := lim
    exact ⟨mc, spaces q1, q2⟩
  have en : Env0 P w K mg (hidT st.heap H) callerA [] st H := by
    refine ⟨rfl, md, fun b o e => of_hidT e, ?_, trivial, ?_, ok, AllBare.of_eq hg⟩
    · rw [hidT_size]; exact Nat.le_refl _
    · intro b hbm; cases hbm
  have run := (Fn _ kb (spaces hm)).run callerA [] st H ⟨[.ref a], []⟩ [.ref a] [.ref a] _ _ hr rfl en (hbind st (.ref a)) (.cons rfl .nil) hsp
  refine codeAny_mono run fun r s' h => ?_
  cases r with
  | error e => exact False.elim h
  | ok fl =>
    cases fl with
    | ret u =>
      obtain ⟨v, H', h1, h2, un, ok', rv, rfl⟩ := h
      obtain rfl : u = Value.bool true := rv
      refine ⟨rfl, OldK.of_keep ?_, h1, h2⟩
      intro b o e
      cases q : H b with
      | none => exact un.keep b o e q (fun z => by cases z) (fun z => by cases z)
      | some y =>
        obtain z | ⟨ob, xs, z⟩ := only b
        · exact absurd z (by rw [q]; exact fun z => by cases z)
        · have e1 := (ok b _ z).1
          have e2 := (ok' b _ (un.frzs b ob _ z)).1
          rw [e] at e1
          rw [e2, ← Option.some.inj e1]
    | next => exact False.elim h
    | brk => exact False.elim h
    | cont => exact False.elim h
theorem law_callG (kx : K.In st.heap) (hm : st.heap.Ns mainGlobals mg) (hb : st.heap.Ns builtinsNs mb) (hbb : ∀ y : Str, y ≠ "__name__" → mb y = bootBuiltins y) (lim : st.heap.NoLimit) (hg : st.gens = #[])
    (ha : st.heap.get? a = some { cls := .type "list", data := .seq vs.toArray }) (hi : IntsAre vs ns) (hl : ns.length ≤ sizeLine) (hr : Room k callerA)
    (Fn : ∀ base : Heap, K.In base → base.Ns mainGlobals mg → FnG P w K mg base CX0 k fa fd [x] sp) (hbind : ∀ (s : Shared) (u : Value), BindsTo s fd ⟨[u], []⟩ [(x, u)])
    (hsp : ∀ H : Hp, Only H → SqL K H a (ns.map V.int) → sp [.ref a] H (fun v _ => v = .bl true) fun _ _ _ => False) :
    codeAny (model P w) callerA (.call (.ref fa) ⟨[.ref a], []⟩) (fun r s' => r = .ok (.ret (.bool true)) ∧ OldK st.heap s'.heap ∧ s'.os = st.os ∧ AllBare s'.gens) st := by
  have rv := vals_ints hi
  cases hk : K.lookup a with
  | some o =>
    have e := Option.some.inj (ha.symm.trans (kx a o hk))
    refine call_from (H := fun _ => none) kx hm hb hbb lim hg ha hr Fn hbind (fun b => .inl rfl) (fun b z => absurd rfl z) (fun z => absurd rfl z) (fun b u z => by cases z) (hsp _ (fun b => .inl rfl) (.inr ?_))
    refine ⟨o, vs.toArray, 0, hk, by rw [← e], by rw [← e], by rw [← e], ?_, by simpa using rv⟩
    rw [List.size_toArray, hi.length]
    exact hl
  | none =>
    let Hs : Hp := fun b => if b = a then some (.frz { cls := .type "list", data := .seq vs.toArray } (.lst (ns.map V.int))) else none
    have at_ : Hs a = some (.frz { cls := .type "list", data := .seq vs.toArray } (.lst (ns.map V.int))) := if_pos rfl
    have out : ∀ {b : Addr}, b ≠ a → Hs b = none := fun h => if_neg h
    have on : Only Hs := fun b => by
      by_cases h : b = a
      · rw [h]; exact .inr ⟨_, _, at_⟩
      · exact .inl (out h)
    refine call_from (H := Hs) kx hm hb hbb lim hg ha hr Fn hbind on (fun b z => Classical.byContradiction fun h => z (out h)) (fun _ => hk) (fun b u z => ?_) (hsp Hs on (.inl (.inr ⟨_, at_⟩)))
    by_cases h : b = a
    · subst h
      rw [at_] at z
      cases z
      exact ⟨ha, by rw [List.length_map]; exact hl, vs, 0, rv, ha⟩
    · rw [out h] at z
      cases z
end
/-- what k_head leaves, from the law's heap-free meaning -/
theorem walk_pl {l : PySem.W.OpenLaw} {n k : Nat} {q : Program} {loose : List Str} {XP : (Str → Option Value) → Heap → Prop} {YP : World → Heap → Prop} {d : DefRec} {K : Params → PySem.W.Frag} {sp : SpP} {x : Str}
    (hn : l.most = some n) (hn2 : n ≤ sizeLine) (hdf : d.params.defaults = []) (hr : Room k callerA) (hY : ∀ (w : World) (h : Heap), YP w h → (K w.params).In h)
    (Fn : ∀ (w : World) (mg : Str → Option Value) (fa : Addr) (h : Heap), (K w.params).In h → h.Ns mainGlobals mg → mg d.name = some (.ref fa) →
      ∃ fd : FuncData, (∀ (s : Shared) (u : Value), BindsTo s fd ⟨[u], []⟩ [(x, u)]) ∧ ∀ base : Heap, (K w.params).In base → base.Ns mainGlobals mg → FnG l.prog w (K w.params) mg base CX0 k fa fd [x] (liftSp (K w.params) 1 [0] sp))
    (hsp : ∀ ns : List Int, ns.length ≤ n → sp [.m (.scr ns)] fun r _ => r = .v (.bool true)) : PySem.W.WalkO q loose XP YP l.row.toRowW d [] (fun f vs => PySem.call f vs) := by
  refine Att.attach_call hn hdf ?_
  intro w s0 st mg mb fa o pm cd doc a vs ns G Y ho hd hcd hmg hobj hints hlen hg
  have kx := hY w _ Y
  obtain ⟨fd, hb, hF⟩ := Fn w mg fa _ kx G.T.g hmg
  refine law_callG kx G.T.g G.T.b G.T.builtins G.T.nolimit hg hobj hints (Nat.le_trans hlen hn2) hr hF hb fun H on hs => ?_
  -- nothing stands still at the entry but the script
  refine ⟨rfl, H, [.m (.scr ns)], fun _ => [], _, fun i c e => ?_, ?_, hsp ns hlen, ?_⟩
  · have := (List.getElem?_eq_some_iff.mp e).1
    have e0 : i = 0 := by simp at this; exact this
    rw [e0]
    exact List.mem_singleton.mpr rfl
  · refine ⟨Same.refl H, Same.refl H, fun b z => .inl z, fun b o e _ => e, rfl, fun i s e => ?_, fun i _ => rfl, fun i b z => absurd z (by simp), fun i => List.nodup_nil, fun i j b _ z => absurd z (by simp), fun i v e => ?_⟩
    · have := (List.getElem?_eq_some_iff.mp e).1
      have e0 : i = 0 := by simp at this; exact this
      subst e0
      cases e
      exact ⟨some (.ref a), rfl, .ref a, rfl, .scr hs⟩
    · have e' : (if i ∈ [0] then ([V.ref a] : List V)[i]? else none) = some v := e
      split at e'
      · rename_i hi
        have e0 : i = 0 := by simpa using hi
        subst e0
        cases e'
        rfl
      · cases e'
  · intro v r ar F' H' args' As' S' R e
    subst e
    obtain ⟨v', e1, h1, _⟩ := R.1
    cases e1
    exact h1.bl_inv
end PL

namespace PL
open PySem PySem.Spec PyProof.Rows L2

/-! ### 34. keywords, three names at once, more in-place operators, longer chains -/
section
variable {K : PySem.W.Frag}
theorem kbi_of {x qual : Str} {st : Stmt} {f : Addr} {fd : FuncData} {ps ks : List Str} {np : Nat} {ix : List Nat} (F : Fun K x qual st f fd)
    (h : ∀ (kV doc pm : Value) (an : Option Addr) (cdv ct : Value) (us ws : List Value), us.length = np → ws.length = ks.length → bindArgs (PySem.W.fnOf x qual (defArgs st) (defBody st) (defScope st) .none kV doc pm an cdv ct) ⟨us, ks.zip ws⟩ = pure (ps.zip (perm ix (us ++ ws)))) : KBi K fd ps ks np ix := by
  obtain ⟨oc, od, kV, doc, pm, an, cdv, ct, osl, rfl, lk, hcd⟩ := F.ex
  exact fun s us ws _ h1 h2 => .of_eq (h kV doc pm an cdv ct us ws h1 h2)
end
section
variable {X : Cx} {E : Ent} {K : PySem.W.Frag}
theorem ls_par3 {i j k : Nat} {tg ev : Expr} {pos : Pos} {es : List Expr} {pr : POs} (hi : ∀ m ∈ [i, j, k], m < X.N.length ∧ E.fix m = none) (h : ∀ ta, PA X es ta → PS X (.Assign [tg] ev pos) (tPar3 i j k ta)) (ha : PA X es (liftAO X.K E pr)) : PS X (.Assign [tg] ev pos) (liftS X.K E (pPar [i, j, k] pr)) := by
  refine ⟨fun pins s σ H D I ⟨F, env, As, D', S, fx, p, kk⟩ => (h _ ha).run pins s σ H D I ⟨[], F, env, As, _, app_nil_SR S, fx, p, fun vs rs ar F1 H1 env1 As1 S1 f1 A ⟨hl, q⟩ => ?_⟩⟩
  have S1' := nil_app_SR S1
  have le : env1.length = X.N.length := by rw [← S1'.len]; exact I.len
  obtain ⟨As', S2⟩ := SR.setAll S1' A (is := [i, j, k]) (fun m hm => by
    rw [le]
    exact hi m hm) hl
  have lv := RsAll.lengths A.1
  match vs, lv, hl, S2 with
  | [v, w, z], _, _, S2 => exact ⟨v, w, z, rfl, kk.nx _ F1 H1 _ As' (by rw [List.length_set, List.length_set, List.length_set]) S2 f1 q⟩
  | [], lv, hl, _ => rw [← lv] at hl; cases hl
  | [_], lv, hl, _ => rw [← lv] at hl; cases hl
  | [_, _], lv, hl, _ => rw [← lv] at hl; cases hl
  | _ :: _ :: _ :: _ :: _, lv, hl, _ => rw [← lv] at hl; simp at hl
theorem ip_mulW : PIp X .Mult (rI CMulW fun i j => .int (i * j)) := by
  intro pins s σ H x y v u Q I r1 r2 h
  obtain ⟨i, j, e1, e2, c, q⟩ := h
  subst e1; subst e2
  obtain ⟨t, rfl⟩ := r1
  obtain ⟨t', rfl⟩ := r2
  exact imul_int ⟨.int _, H, I.tok _, ⟨_, rfl⟩, q⟩ c.ok
theorem o_imul : Op2 K (rI CMulW fun i j => .int (i * j)) imulD := op2_I (gd := fun i j => .int (i * j)) (fun _ _ _ => .int _) fun d e P p => by
  unfold imulD at p
  split at p
  · exact ⟨_, _, rfl, rfl, p.1, p.2⟩
  · exact p.elim
theorem ip_fdivW : PIp X .FloorDiv (rI CDivW fun i j => .int (i / j)) := fun pins s σ H x y v u Q I r1 r2 h => iop_fdivW pins s σ H x y v u Q I r1 r2 h
theorem o_ifdiv : Op2 K (rI CDivW fun i j => .int (i / j)) fdivD := o_fdiv
end
end PL

namespace PL
open PySem PySem.W L2

/-! ### 35. the plain side: each reading at an environment -/
section
variable {i j n : Nat} {D : PEnds} {env : PEnv}
theorem a_seq {p q : PSt} : pSeq p q D env = p { D with nx := q D } env := rfl
theorem a_next : pNext D env = D.nx env := rfl
theorem a_set {p : PO} : pSet i p D env = p env fun r e => D.nx (e.set i r) := rfl
theorem a_drop {p : PO} : pDrop p D env = p env fun _ e => D.nx e := rfl
theorem a_ret {p : PO} : pRet p D env = p env D.rt := rfl
theorem a_retName : pRetName i D env = match env[i]? with
  | some (.un) => False
  | some r => D.rt r (env.set i .un)
  | none => False := rfl
theorem a_retN : pRetN D env = D.rt (.v .none) env := rfl
theorem a_ifS {t : PTt} {a b : PSt} : pIfS t a b D env = t env fun c e => sel c (a D e) (b D e) := rfl
theorem a_brk : pBrk D env = D.bk env := rfl
theorem a_cnt : pCnt D env = D.ct env := rfl
theorem a_for {pi : PIt} {t : Tg} {b : PSt} : pFor pi t b D env = pi env fun ds e => forL t b D ds e := rfl
theorem a_unp {t : Tg} {pe : PX} : pUnp t pe D env = pe env fun d e => tgP t d e D.nx := rfl
theorem a_aug {rp : PyData → PyData → (Sl → Prop) → Prop} {pe : PX} : pAug i rp pe D env = match env[i]? with
  | some (.v d0) => pe env fun d e => rp d0 d fun r => match r with
    | .v x => D.nx (e.set i (.v x))
    | _ => False
  | _ => False := rfl
theorem a_par {is : List Nat} {pr : POs} : pPar is pr D env = pr env fun rs e => is.length = rs.length ∧ D.nx (setAll e is rs) := rfl
theorem a_setIx {pj pe : PX} : pSetIx i pj pe D env = pe env fun d e => setIx i pj d e D.nx := rfl
theorem a_set2 {pj pj2 pe pg : PX} : pSet2 i pj j pj2 pe pg D env = pe env fun d e => pg e fun d2 e2 => setIx i pj d e2 fun e3 => setIx j pj2 d2 e3 D.nx := rfl
variable {Q : PyData → PEnv → Prop} {Qo : Sl → PEnv → Prop} {Qt : Bool → PEnv → Prop} {Qa : List Ag → PEnv → Prop} {Qi : List PyData → PEnv → Prop}
theorem a_C {d : PyData} : pC d env Q = Q d env := rfl
theorem a_name : pName i env Q = match env[i]? with
  | some (.v d) => Q d env
  | some (.m c) => match c.d? with
    | some d => Q d (env.set i (.v d))
    | none => False
  | _ => False := rfl
theorem a_E {p : PO} : pE p env Q = p env fun r e => match r.d? with
  | some d => Q d e
  | none => False := rfl
theorem a_V {p : PX} : pV p env Qo = p env fun d e => Qo (.v d) e := rfl
theorem a_1 {rp : PyData → (Sl → Prop) → Prop} {pa : PX} : pOp1 rp pa env Qo = pa env fun d e => rp d fun r => Qo r e := rfl
theorem a_2 {rp : PyData → PyData → (Sl → Prop) → Prop} {pa pb : PX} : pOp2 rp pa pb env Qo = pa env fun d e => pb e fun d2 e2 => rp d d2 fun r => Qo r e2 := rfl
theorem a_tst {p : PO} : pTst p env Qt = p env fun r e => match r with
  | .v (.bool k) => Qt k e
  | _ => False := rfl
theorem a_chain {rp rp' : PyData → PyData → (Sl → Prop) → Prop} {pa pb pc : PX} : pChain rp rp' pa pb pc env Qo = pa env fun d e1 => pb e1 fun e e2 => rp d e fun r => match r with
  | .v (.bool true) => pc e2 fun g e3 => rp' e g fun r' => Qo r' e3
  | .v (.bool false) => Qo (.v (.bool false)) e2
  | _ => False := rfl
theorem a_and {t u : PTt} : pAnd t u env Qt = t env fun c e => sel c (u e Qt) (Qt false e) := rfl
theorem a_or {t u : PTt} : pOr t u env Qt = t env fun c e => sel c (Qt true e) (u e Qt) := rfl
theorem a_not {t : PTt} : pNot t env Qt = t env fun c e => Qt (!c) e := rfl
theorem a_if {t : PTt} {a b : PX} : pIf t a b env Q = t env fun c e => sel c (a e Q) (b e Q) := rfl
theorem a_andV {pa pb : PX} : pAndV pa pb env Q = pa env fun d e => match d with
  | .bool true => pb e Q
  | .bool false => Q (.bool false) e
  | _ => False := rfl
theorem a_orV {pa pb : PX} : pOrV pa pb env Q = pa env fun d e => match d with
  | .bool false => pb e Q
  | .bool true => Q (.bool true) e
  | _ => False := rfl
theorem a_notV {pa : PX} : pNotV pa env Q = pa env fun d e => match d with
  | .bool k => Q (.bool (!k)) e
  | _ => False := rfl
theorem a_yes : pYes env Qt = Qt true env := rfl
theorem a_anil : pANil env Qa = Qa [] env := rfl
theorem a_acons {pa : PX} {pr : PAs} : pACons pa pr env Qa = pa env fun d e => pr e fun gs e2 => Qa (.d d :: gs) e2 := rfl
theorem a_alend {pr : PAs} : pALend i pr env Qa = ((∃ c, env[i]? = some (.m c)) ∧ pr env fun gs e2 => Qa (.s i :: gs) e2) := rfl
theorem a_callL {rp : List PyData → (Sl → Prop) → Prop} {pa : PAs} : pCallL rp pa env Qo = pa env fun gs e => match agD? gs with
  | some ds => rp ds fun r => Qo r e
  | none => False := rfl
theorem a_call {fx : List Nat} {sp : SpP} {pa : PAs} : pCall n fx sp pa env Qo = pa env fun gs e => gs.length = n ∧ (lentIn fx 0 gs = true ∧ (lents gs).Nodup) ∧ sp (argsOf e gs) fun r as => Qo r (backA e gs as) := rfl
theorem a_perm {ix : List Nat} {pa pk : PAs} : pPerm ix pa pk env Qa = pa env fun gs e => pk e fun hs e2 => Qa (perm ix (gs ++ hs)) e2 := rfl
theorem a_keep {pa : PAs} : pKeep n pa env Qa = pa env fun gs e => gs.length = n ∧ Qa gs e := rfl
variable {Qs : List Sl → PEnv → Prop}
theorem a_onil : pONil env Qs = Qs [] env := rfl
theorem a_ocons {pa : PO} {pr : POs} : pOCons pa pr env Qs = pa env fun r e => pr e fun rs e2 => Qs (r :: rs) e2 := rfl
theorem a_itList {pa : PX} : itList pa env Qi = pa env fun d e => match d with
  | .list ds => Qi ds e
  | _ => False := rfl
theorem a_itTup {pa : PX} : itTup pa env Qi = pa env fun d e => match d with
  | .tuple ds => Qi ds e
  | _ => False := rfl
theorem a_rng1 {pa : PAs} : itRng1 pa env Qi = pa env fun gs e => match gs with
  | [.d (.int j)] => (-(2 ^ 62) ≤ j ∧ j < 2 ^ 62) ∧ Qi (rangeD 0 1 j.toNat) e
  | _ => False := rfl
theorem a_rng2 {pa : PAs} : itRng2 pa env Qi = pa env fun gs e => match gs with
  | [.d (.int i), .d (.int j)] => (-(2 ^ 62) ≤ i ∧ i < 2 ^ 62 ∧ -(2 ^ 62) ≤ j ∧ j < 2 ^ 62) ∧ Qi (rangeD i 1 (j - i).toNat) e
  | _ => False := rfl
theorem a_rng3 {pa : PAs} : itRng3 pa env Qi = pa env fun gs e => match gs with
  | [.d (.int i), .d (.int j), .d (.int c)] => (c = -1 ∧ -(2 ^ 62) ≤ i ∧ i < 2 ^ 62 ∧ -(2 ^ 62) ≤ j ∧ j < 2 ^ 62) ∧ Qi (rangeD i (-1) (i - j).toNat) e
  | _ => False := rfl
theorem a_enum {pa : PAs} : itEnum pa env Qi = pa env fun gs e => match gs with
  | [.d (.list ds)] => Qi (enumD 0 ds) e
  | _ => False := rfl
theorem a_zip {pa : PAs} : itZip pa env Qi = pa env fun gs e => match gs with
  | [.d (.list ds), .d (.list es)] => Qi (zipD ds es) e
  | _ => False := rfl
theorem a_rev {pa : PAs} : itRev pa env Qi = pa env fun gs e => match gs with
  | [.d (.list ds)] => Qi ds.reverse e
  | _ => False := rfl
theorem a_scr : itScr i env Qi = match env[i]? with
  | some (.m (.scr ns)) => Qi (ns.map .int) env
  | _ => False := rfl
theorem a_lc {pi : PIt} {t : Tg} {tt : PTt} {te : PX} {vs : List Nat} : pLc pi t tt te vs env Qo = pi env fun ds e => stillAt e vs = true ∧ compK t tt te vs ds [] e fun acc e2 => Qo (.m (.ol acc)) (backP e e2 vs) := rfl
theorem a_sortedR {pa pk : PAs} : pSortedR pa pk env Qo = pa env fun gs e => pk e fun hs e2 => match agD? gs, agD? hs with
  | some ds, some [b] => sortedRD ds b fun r => Qo r e2
  | _, _ => False := rfl
theorem a_listRng {pa : PAs} : pListRng pa env Qo = pa env fun gs e => match gs with
  | [.d (.int j)] => RgOk 0 j ∧ Qo (.m (.ol (rangeD 0 1 j.toNat))) e
  | [.d (.int i), .d (.int j)] => RgOk i j ∧ Qo (.m (.ol (rangeD i 1 (j - i).toNat))) e
  | [.d (.int i), .d (.int j), .d (.int c)] => (c = -1 ∧ RgOk j i) ∧ Qo (.m (.ol (rangeD i (-1) (i - j).toNat))) e
  | _ => False := rfl
variable {Qb : Option Int → PEnv → Prop}
theorem a_noB : pNoB env Qb = Qb none env := rfl
theorem a_bd {pa : PX} : pBd pa env Qb = pa env fun d e => match d with
  | .int k => Qb (some k) e
  | _ => False := rfl
theorem a_slice {pa : PX} {pl ph : PBd} : pSlice pa pl ph env Qo = pa env fun d e1 => pl e1 fun lo e2 => ph e2 fun hi e3 => match d with
  | .list ds => Qo (.m (.ol (cutD ds lo hi))) e3
  | _ => False := rfl
theorem a_sliceM {pl ph : PBd} : pSliceM i pl ph env Qo = (isM env i ∧ pl env fun lo e2 => ph e2 fun hi e3 => match e3[i]? with
  | some (.m (.ol ds)) => Qo (.m (.ol (cutD ds lo hi))) e3
  | some (.m (.scr ns)) => Qo (.m (.ol (cutD (ns.map .int) lo hi))) e3
  | _ => False) := rfl
theorem a_sliceN {pl ph : PBd} : pSliceN i pl ph env Qo = match ownedAt i env with
  | true => pSliceM i pl ph env Qo
  | false => pSlice (pName i) pl ph env Qo := rfl
theorem a_ixM {pi : PX} : pIxM i pi env Q = (isM env i ∧ pi env fun d e => match e[i]?, d with
  | some (.m c), .int k => ∃ x, itemM c k = some x ∧ Q x e
  | _, _ => False) := rfl
theorem a_ixN {pi : PX} : pIxN i pi env Q = match ownedAt i env with
  | true => pIxM i pi env Q
  | false => pE (pOp2 ixD (pName i) pi) env Q := rfl
theorem a_lenM : pLenM i env Q = match env[i]? with
  | some (.m c) => ∃ n, lenM c = some n ∧ Q (.int n) env
  | some (.v (.list ds)) => Q (.int ds.length) env
  | some (.v (.tuple ds)) => Q (.int ds.length) env
  | some (.v (.str z)) => z.length ≤ sizeLine ∧ Q (.int z.length) env
  | _ => False := rfl
theorem a_meth {rp : RpM} {pa : PAs} : pMeth i rp pa env Q = (isOL env i ∧ pa env fun gs e => match agD? gs, e[i]? with
  | some es, some (.m (.ol ds)) => rp ds es fun d ds' => Q d (e.set i (.m (.ol ds')))
  | _, _ => False) := rfl
theorem a_meth0 {rp : RpM} : pMeth0 i rp env Q = match env[i]? with
  | some (.m (.ol ds)) => rp ds [] fun d ds' => Q d (env.set i (.m (.ol ds')))
  | _ => False := rfl
theorem a_stx {pj : PX} {d : PyData} {R : PEnv → Prop} : setIx i pj d env R = (isM env i ∧ pj env fun ix e => match e[i]?, ix with
  | some (.m c), .int k => ∃ c', setM c k d = some c' ∧ R (e.set i (.m c'))
  | _, _ => False) := rfl
theorem a_bor {S : List Nat} {p : PX} : pBor S p env Q = p (frzP S env) fun d e => (flatD d = true ∧ okB S env e = true) ∧ Q d (backB S env e) := rfl
theorem a_borT {S : List Nat} {p : PTt} : pBorT S p env Qt = p (frzP S env) fun d e => okB S env e = true ∧ Qt d (backB S env e) := rfl
theorem a_lstO {pr : POs} : pLstO pr env Qo = pr env fun rs e => match slMs rs with
  | some cs => rs.length ≤ sizeLine ∧ Qo (.m (.lst cs)) e
  | none => False := rfl
end

/-! ### 36. loops -/
theorem forL_inv {t : Tg} {body : PSt} {D : PEnds} {ds : List PyData} {env : PEnv} (I : Nat → PEnv → Prop) (h0 : I 0 env)
    (hs : ∀ i d e (G : PEnv → Prop), ds[i]? = some d → I i e → (∀ e', I (i + 1) e' → G e') → tgP t d e fun e1 => body { D with nx := G, ct := G, bk := D.nx } e1)
    (he : ∀ e, I ds.length e → D.nx e) : forL t body D ds env := by
  have z : ∀ (l : List PyData) (k : Nat) (e : PEnv), ds.drop k = l → k ≤ ds.length → I k e → forL t body D l e := by
    intro l
    induction l with
    | nil =>
      intro k e hd hk hI
      have : k = ds.length := by
        have := congrArg List.length hd
        rw [List.length_drop] at this
        simp at this
        omega
      subst this
      rw [forL_n]
      exact he e hI
    | cons d r ih =>
      intro k e hd hk hI
      have hlt : k < ds.length := by
        have := congrArg List.length hd
        rw [List.length_drop] at this
        simp at this
        omega
      have hdk : ds[k]? = some d := by
        have q := List.getElem?_drop (xs := ds) (i := k) (j := 0)
        rw [hd] at q
        simpa using q.symm
      have hr : ds.drop (k + 1) = r := by
        rw [← List.drop_drop, hd]
        rfl
      rw [forL_c]
      exact hs k d e (forL t body D r) hdk hI fun e' h' => ih (k + 1) e' hr hlt h'
  exact z ds 0 env rfl (Nat.zero_le _) h0
theorem forL_nil {t : Tg} {body : PSt} {D : PEnds} {env : PEnv} (h : D.nx env) : forL t body D [] env := by rw [forL_n]; exact h
theorem forL_cons {t : Tg} {body : PSt} {D : PEnds} {d : PyData} {ds : List PyData} {env : PEnv} (h : tgP t d env fun e1 => body { D with nx := forL t body D ds, ct := forL t body D ds, bk := D.nx } e1) : forL t body D (d :: ds) env := by rw [forL_c]; exact h
theorem while_inv {c : PTt} {body : PSt} {D : PEnds} {env : PEnv} (I : Nat → PEnv → Prop) (m : Nat) (h0 : I m env)
    (hs : ∀ m e, I m e → c e fun b e1 => sel b (body { D with nx := fun e => ∃ m', m' < m ∧ I m' e, ct := fun e => ∃ m', m' < m ∧ I m' e, bk := D.nx } e1) (D.nx e1)) : pWhile c body D env := by
  unfold pWhile
  exact ⟨I, ⟨m, h0⟩, hs⟩
/-- a comprehension, item by item -/
theorem compK_inv {t : Tg} {tt : PTt} {te : PX} {vs : List Nat} {ds : List PyData} {env : PEnv} {Q : List PyData → PEnv → Prop} (I : Nat → List PyData → PEnv → Prop) (h0 : I 0 [] env)
    (hs : ∀ i d acc e (G : List PyData → PEnv → Prop), ds[i]? = some d → I i acc e → (∀ acc' e', I (i + 1) acc' e' → G acc' e') →
      tgP t d (wipeP e vs) fun e1 => tt e1 fun b e2 => sel b (te e2 fun x e3 => (acc.length < sizeLine ∧ stillAt e3 vs = true) ∧ G (acc ++ [x]) e3) (stillAt e2 vs = true ∧ G acc e2))
    (he : ∀ acc e, I ds.length acc e → Q acc e) : compK t tt te vs ds [] env Q := by
  have z : ∀ (l : List PyData) (k : Nat) (acc : List PyData) (e : PEnv), ds.drop k = l → k ≤ ds.length → I k acc e → compK t tt te vs l acc e Q := by
    intro l
    induction l with
    | nil =>
      intro k acc e hd hk hI
      have : k = ds.length := by
        have := congrArg List.length hd
        rw [List.length_drop] at this
        simp at this
        omega
      subst this
      exact he acc e hI
    | cons d r ih =>
      intro k acc e hd hk hI
      have hlt : k < ds.length := by
        have := congrArg List.length hd
        rw [List.length_drop] at this
        simp at this
        omega
      have hdk : ds[k]? = some d := by
        have q := List.getElem?_drop (xs := ds) (i := k) (j := 0)
        rw [hd] at q
        simpa using q.symm
      have hr : ds.drop (k + 1) = r := by
        rw [← List.drop_drop, hd]
        rfl
      exact hs k d acc e (fun a' e' => compK t tt te vs r a' e' Q) hdk hI fun a' e' h' => ih (k + 1) a' e' hr hlt h'
  exact z ds 0 [] env rfl (Nat.zero_le _) h0
/-- a comprehension that changes nothing but its own names: what it gathers -/
theorem compK_pure {α : Type} {t : Tg} {tt : PTt} {te : PX} {vs : List Nat} {env : PEnv} {Q : List PyData → PEnv → Prop} (xs : List α) (enc : α → PyData) (keep : α → Bool) (out : α → PyData) (sh : PEnv → Prop) (h0 : sh env) (hl : xs.length ≤ sizeLine)
    (hs : ∀ x ∈ xs, ∀ e, sh e → ∀ (A : PEnv → Prop) (B : PyData → PEnv → Prop), (keep x = false → ∀ e', sh e' → stillAt e' vs = true → A e') → (keep x = true → ∀ e', sh e' → stillAt e' vs = true → B (out x) e') →
      tgP t (enc x) (wipeP e vs) fun e1 => tt e1 fun b e2 => sel b (te e2 fun y e3 => B y e3) (A e2))
    (he : ∀ e, sh e → Q ((xs.filter keep).map out) e) : compK t tt te vs (xs.map enc) [] env Q := by
  have z : ∀ (l : List α) (acc : List PyData) (e : PEnv), sh e → acc.length + l.length ≤ sizeLine → (∀ x ∈ l, x ∈ xs) → (∀ e, sh e → Q (acc ++ (l.filter keep).map out) e) → compK t tt te vs (l.map enc) acc e Q := by
    intro l
    induction l with
    | nil =>
      intro acc e h1 h2 hm h3
      have := h3 e h1
      simpa [compK] using this
    | cons x r ih =>
      intro acc e h1 h2 hm h3
      rw [List.length_cons] at h2
      have hr : ∀ y ∈ r, y ∈ xs := fun y hy => hm y (List.mem_cons_of_mem _ hy)
      refine hs x (hm x List.mem_cons_self) e h1 (fun e2 => stillAt e2 vs = true ∧ compK t tt te vs (r.map enc) acc e2 Q) (fun y e3 => (acc.length < sizeLine ∧ stillAt e3 vs = true) ∧ compK t tt te vs (r.map enc) (acc ++ [y]) e3 Q) ?_ ?_
      · intro ek e' h' hst
        refine ⟨hst, ih acc e' h' (by omega) hr fun e2 h4 => ?_⟩
        have := h3 e2 h4
        rwa [List.filter_cons, ek, if_neg Bool.false_ne_true] at this
      · intro ek e' h' hst
        refine ⟨⟨by omega, hst⟩, ih (acc ++ [out x]) e' h' (by rw [List.length_append]; simp; omega) hr fun e2 h4 => ?_⟩
        have := h3 e2 h4
        rw [List.filter_cons, ek, if_pos rfl, List.map_cons] at this
        rwa [List.append_assoc]
  simpa using z xs [] env h0 (by simpa using hl) (fun _ h => h) he
end PL

namespace PL
open PySem PySem.W L2

/-! ### 37. data: numbers, lists of numbers -/
abbrev li (l : List Int) : PyData := .list (l.map .int)
abbrev ll (l : List (List Int)) : PyData := .list (l.map li)
theorem li_toD (l : List Int) : li l = Datum.toD l := rfl
theorem okd_datum {α : Type} [DecidableEq α] [Datum α] (h : Datum.depth α ≤ 60) (a : α) : okd (Datum.toD a) = true := by
  unfold okd
  rw [Datum.plain a, Bool.true_and]
  exact decide_eq_true (Nat.le_trans (Datum.depth_le a) h)
theorem d_ol (ds : List PyData) : (MO.ol ds).d? = some (.list ds) := rfl
theorem okd_int (i : Int) : okd (.int i) = true := rfl
theorem okd_str (s : Str) : okd (.str s) = true := rfl
theorem okd_bool (b : Bool) : okd (.bool b) = true := rfl
theorem okd_none : okd .none = true := rfl
theorem okd_li (l : List Int) : okd (.list (l.map .int)) = true := okd_datum (α := List Int) (by decide) l
theorem okd_ll (l : List (List Int)) : okd (.list (l.map fun x => .list (x.map .int))) = true := okd_datum (α := List (List Int)) (by decide) l
theorem okd_nil : okd (.list []) = true := rfl
theorem eqv_int (i j : Int) : PyData.eqv (.int i) (.int j) = decide (i = j) := Datum.eqv i j
theorem eqv_str (i j : Str) : PyData.eqv (.str i) (.str j) = decide (i = j) := Datum.eqv i j
theorem eqv_bool (i j : Bool) : PyData.eqv (.bool i) (.bool j) = decide (i = j) := Datum.eqv i j
theorem eqv_li (a b : List Int) : PyData.eqv (.list (a.map .int)) (.list (b.map .int)) = decide (a = b) := Datum.eqv a b
theorem eqv_ll (a b : List (List Int)) : PyData.eqv (.list (a.map fun x => .list (x.map .int))) (.list (b.map fun x => .list (x.map .int))) = decide (a = b) := Datum.eqv a b
theorem eqv_li_nil (a : List Int) : PyData.eqv (.list (a.map .int)) (.list []) = decide (a = []) := Datum.eqv a []
theorem eqv_ss (s : Str) : PyData.eqv (.str s) (.str s) = true := by rw [eqv_str]; exact decide_eq_true rfl
theorem eqv_ii (s : Int) : PyData.eqv (.int s) (.int s) = true := by rw [eqv_int]; exact decide_eq_true rfl
theorem log2_lt_of {n k : Nat} (h : n < 2 ^ k) (hk : 0 < k) : n.log2 < k := by
  by_cases e : n = 0
  · subst e
    simpa using hk
  · exact (Nat.log2_lt e).mpr h
theorem mul_ok {i j : Int} (a : i.natAbs < 2 ^ 250) (b : j.natAbs < 2 ^ 250) : i.natAbs.log2 + j.natAbs.log2 < 1000000 := by
  have h1 := log2_lt_of a (by decide)
  have h2 := log2_lt_of b (by decide)
  omega
theorem pow_ok {i j : Int} (a : i.natAbs < 2 ^ 250) (h : 0 ≤ j) (h' : j ≤ 1000) : 0 ≤ j ∧ (i.natAbs.log2 + 1) * j.toNat ≤ 2 ^ 27 := by
  have h1 := log2_lt_of a (by decide)
  refine ⟨h, Nat.le_trans (Nat.mul_le_mul (show i.natAbs.log2 + 1 ≤ 251 by omega) (show j.toNat ≤ 1000 by omega)) (by decide)⟩
theorem div_ok {j : Int} (h : 0 < j) (a : j.natAbs < 2 ^ 250) : 0 < j ∧ j.natAbs.log2 < 9000 := ⟨h, Nat.lt_trans (log2_lt_of a (by decide)) (by decide)⟩
/-- an index from the front -/
theorem atI_nat {α : Type} {xs : List α} {i : Int} (h0 : 0 ≤ i) (h1 : i < xs.length) : atI xs i = xs[i.toNat]? := by
  unfold atI ixN
  rw [if_pos h0, if_pos h1]
  rfl
theorem atI_map {α β : Type} (f : α → β) (xs : List α) (i : Int) : atI (xs.map f) i = (atI xs i).map f := by
  unfold atI
  rw [List.length_map]
  cases ixN xs.length i with
  | none => rfl
  | some j => exact List.getElem?_map ..
theorem atI_0 {α : Type} {x : α} {r : List α} : atI (x :: r) 0 = some x := by
  rw [atI_nat (Int.le_refl 0) (by simp only [List.length_cons]; omega)]
  rfl
theorem atI_1 {α : Type} {x y : α} {r : List α} : atI (x :: y :: r) 1 = some y := by
  rw [atI_nat (by omega) (by simp only [List.length_cons]; omega)]
  rfl
theorem atI_2 {α : Type} {x y z : α} {r : List α} : atI (x :: y :: z :: r) 2 = some z := by
  rw [atI_nat (by omega) (by simp only [List.length_cons]; omega)]
  rfl
theorem atI_3 {α : Type} {x y z w : α} {r : List α} : atI (x :: y :: z :: w :: r) 3 = some w := by
  rw [atI_nat (by omega) (by simp only [List.length_cons]; omega)]
  rfl
theorem ixN_nat {n : Nat} {i : Int} (h0 : 0 ≤ i) (h1 : i < n) : ixN n i = some i.toNat := by
  unfold ixN
  rw [if_pos h0, if_pos h1]
theorem setM_nat {ds : List PyData} {i : Int} {d : PyData} (h0 : 0 ≤ i) (h1 : i < ds.length) : setM (.ol ds) i d = some (.ol (ds.set i.toNat d)) := by
  simp only [setM, ixN_nat h0 h1, Option.map_some]
theorem atI_at {α β : Type} {f : α → β} {xs : List α} {i : Int} {n : Nat} {x : α} (h : i = n) (e : xs[n]? = some x) : atI (xs.map f) i = some (f x) := by
  have hn := (List.getElem?_eq_some_iff.mp e).1
  rw [atI_map, atI_nat (by omega) (by omega), h, Int.toNat_natCast, e]
  rfl
theorem setM_at {α : Type} {f : α → PyData} {xs : List α} {i : Int} {n : Nat} {x : α} (h : i = n) (hn : n < xs.length) : setM (.ol (xs.map f)) i (f x) = some (.ol ((xs.set n x).map f)) := by
  rw [setM_nat (by omega) (by rw [List.length_map]; omega), h, Int.toNat_natCast, List.map_set]
theorem setM_0 {x d : PyData} {r : List PyData} : setM (.ol (x :: r)) 0 d = some (.ol (d :: r)) := setM_nat (Int.le_refl 0) (by simp only [List.length_cons]; omega)
theorem setM_1 {x y d : PyData} {r : List PyData} : setM (.ol (x :: y :: r)) 1 d = some (.ol (x :: d :: r)) := setM_nat (by omega) (by simp only [List.length_cons]; omega)
theorem setM_2 {x y z d : PyData} {r : List PyData} : setM (.ol (x :: y :: z :: r)) 2 d = some (.ol (x :: y :: d :: r)) := setM_nat (by omega) (by simp only [List.length_cons]; omega)
theorem seqIndex_nat {i : Int} {n : Nat} (h0 : 0 ≤ i) (h1 : i < n) : seqIndex? i n = some i.toNat := PySem.seqIndex_of h0 h1
theorem showAll_ints {l : List Int} (h : ∀ x ∈ l, x.natAbs < 2 ^ 120) : PyData.showableAll (l.map .int) = true ∧ PyData.hasDictAll (l.map .int) = false ∧ PyData.depthAll (l.map .int) = 0 ∧ PyData.leavesShortAll 200 (l.map .int) = true ∧ PyData.bulkAll (l.map .int) = l.length := by
  induction l with
  | nil => exact ⟨rfl, rfl, rfl, rfl, rfl⟩
  | cons x l ih =>
    obtain ⟨h1, h2, h3, h4, h5⟩ := ih fun y hy => h y (List.mem_cons_of_mem _ hy)
    have hx := h x List.mem_cons_self
    have lx := log2_lt_of hx (by decide)
    refine ⟨?_, ?_, ?_, ?_, ?_⟩
    · rw [List.map_cons, PyData.showableAll, h1, PyData.showable, Bool.and_true]
      exact decide_eq_true (by omega)
    · rw [List.map_cons, PyData.hasDictAll, h2, PyData.hasDict]
      rfl
    · rw [List.map_cons, PyData.depthAll, h3, PyData.depth]
      rfl
    · rw [List.map_cons, PyData.leavesShortAll, h4, PyData.leavesShort, Bool.and_true]
      refine decide_eq_true ?_
      have e := int_text_length_le (a := x) (k := 120) (by decide) lx
      have e2 : (PyData.shown (.int x)).length = (toString x).length := by
        rw [PyData.shown]
        exact ofString_length _
      simp only [PyData.shown] at e2 ⊢
      omega
    · rw [List.map_cons, PyData.bulkAll, h5, PyData.bulk, List.length_cons]
      omega
/-- what repr asks of a list of numbers -/
theorem repr_li {l : List Int} (h : ∀ x ∈ l, x.natAbs < 2 ^ 120) (hl : l.length ≤ 50000) : PyData.showable (.list (l.map .int)) = true ∧ PyData.hasDict (.list (l.map .int)) = false ∧ PyData.depth (.list (l.map .int)) ≤ 60 ∧ (PyData.shown (.list (l.map .int))).length ≤ sizeLine := by
  obtain ⟨h1, h2, h3, h4, h5⟩ := showAll_ints h
  refine ⟨by rw [PyData.showable]; exact h1, by rw [PyData.hasDict]; exact h2, by rw [PyData.depth, h3]; decide, ?_⟩
  have e := PyData.shown_le_bulk 200 (by decide) (.list (l.map .int)) (by rw [PyData.leavesShort]; exact h4)
  rw [PyData.bulk, h5] at e
  rw [sizeLine_eq]
  omega
theorem lt_line {n : Nat} (h : n ≤ 100000) : n < sizeLine := Nat.lt_of_le_of_lt h (by decide)
theorem le_line {n : Nat} (h : n ≤ 100000) : n ≤ sizeLine := Nat.le_of_lt (lt_line h)
theorem get_map {α β : Type} {f : α → β} {xs : List α} {i : Nat} (h : i < xs.length) : (xs.map f)[i]? = some (f xs[i]) := by
  rw [List.getElem?_map, List.getElem?_eq_getElem h]
  rfl
theorem erase_map {α β : Type} (f : α → β) (xs : List α) (i : Nat) : (xs.map f).eraseIdx i = (xs.eraseIdx i).map f := by
  rw [List.eraseIdx_eq_take_drop_succ, List.eraseIdx_eq_take_drop_succ, List.map_append, List.map_take, List.map_drop]
theorem intsOf_f {α : Type} (f : α → Int) (l : List α) : intsOf (l.map fun p => .int (f p)) = some (l.map f) := by
  have := intsOf_map (l.map f)
  rw [List.map_map] at this
  exact this
theorem blsOf_f {α : Type} (f : α → Bool) (l : List α) : blsOf (l.map fun p => .bool (f p)) = some (l.map f) := by
  have := blsOf_map (l.map f)
  rw [List.map_map] at this
  exact this
theorem sum_cast {α : Type} (g : α → Nat) (l : List α) : (l.map fun p => ((g p : Nat) : Int)).sum = ((l.map g).sum : Nat) := by
  induction l with
  | nil => rfl
  | cons x l ih =>
    rw [List.map_cons, List.sum_cons, ih, List.map_cons, List.sum_cons]
    omega
theorem sumD_ints {ns : List Int} {P : Sl → Prop} : sumD [.list (ns.map .int)] P = P (.v (.int ns.sum)) := by
  simp only [sumD, intsOf_map]
theorem sortedD_ints {ns : List Int} {P : Sl → Prop} : sortedD [.list (ns.map .int)] P = P (.m (.ol ((sortI ns).map .int))) := by
  simp only [sortedD, intsOf_map]
theorem sortedRD_ints {ns : List Int} {P : Sl → Prop} : sortedRD [.list (ns.map .int)] (.bool true) P = P (.m (.ol ((sortI ns).reverse.map .int))) := by
  simp only [sortedRD, intsOf_map]
theorem anyD_bls {ns : List Bool} {P : Sl → Prop} : anyD [.list (ns.map .bool)] P = P (.v (.bool (ns.any id))) := by
  simp only [anyD, blsOf_map]
theorem allD_bls {ns : List Bool} {P : Sl → Prop} : allD [.list (ns.map .bool)] P = P (.v (.bool (ns.all id))) := by
  simp only [allD, blsOf_map]
theorem enumD_eq : ∀ (n : Nat) (ds : List PyData), enumD n ds = (ds.zipIdx n).map fun p => .tuple [.int p.2, p.1]
  | _, [] => rfl
  | n, d :: ds => by
    rw [enumD, enumD_eq (n + 1) ds]
    rfl
theorem enumD_map {α : Type} (f : α → PyData) (n : Nat) (xs : List α) : enumD n (xs.map f) = (xs.zipIdx n).map fun p => .tuple [.int p.2, f p.1] := by
  rw [enumD_eq, List.zipIdx_map, List.map_map]
  rfl
theorem zipD_map {α β : Type} (f : α → PyData) (g : β → PyData) : ∀ (xs : List α) (ys : List β), zipD (xs.map f) (ys.map g) = (xs.zip ys).map fun p => .tuple [f p.1, g p.2]
  | [], _ => rfl
  | _ :: _, [] => rfl
  | x :: xs, y :: ys => by
    rw [List.map_cons, List.map_cons, zipD, zipD_map f g xs ys]
    rfl
theorem cutD_map {α : Type} (f : α → PyData) (xs : List α) (lo hi : Option Int) : cutD (xs.map f) lo hi = ((xs.drop (HT.sIx xs.length 0 lo)).take (HT.sIx xs.length xs.length hi - HT.sIx xs.length 0 lo)).map f := by
  unfold cutD
  rw [List.length_map, List.map_take, List.map_drop]
theorem sIx_nn {n d : Nat} {v : Int} (h : 0 ≤ v) : HT.sIx n d (some v) = min v.toNat n := by
  show (if v < 0 then _ else min v.toNat n) = _
  rw [if_neg (by omega)]
theorem sIx_neg {n d : Nat} {v : Int} (h : v < 0) : HT.sIx n d (some v) = (v + n).toNat := by
  show (if v < 0 then (v + n).toNat else _) = _
  rw [if_pos h]
/-- xs[v:] -/
theorem cut_from {α : Type} (f : α → PyData) (xs : List α) {v : Int} (h : 0 ≤ v) : cutD (xs.map f) (some v) none = (xs.drop v.toNat).map f := by
  rw [cutD_map, sIx_nn h]
  show List.map f (((xs.drop (min v.toNat xs.length))).take (xs.length - min v.toNat xs.length)) = _
  by_cases e : v.toNat ≤ xs.length
  · rw [Nat.min_eq_left e, List.take_of_length_le (by rw [List.length_drop]; exact Nat.le_refl _)]
  · rw [Nat.min_eq_right (by omega), List.drop_of_length_le (Nat.le_refl _), List.drop_of_length_le (by omega)]
    simp
/-- xs[:v] -/
theorem cut_to {α : Type} (f : α → PyData) (xs : List α) {v : Int} (h : 0 ≤ v) : cutD (xs.map f) none (some v) = (xs.take v.toNat).map f := by
  rw [cutD_map, sIx_nn h]
  show List.map f ((xs.drop 0).take (min v.toNat xs.length - 0)) = _
  rw [List.drop_zero, Nat.sub_zero]
  by_cases e : v.toNat ≤ xs.length
  · rw [Nat.min_eq_left e]
  · rw [Nat.min_eq_right (by omega), List.take_of_length_le (Nat.le_refl _), List.take_of_length_le (by omega)]
/-- xs[u:v] -/
theorem cut_mid {α : Type} (f : α → PyData) (xs : List α) {u v : Int} (hu : 0 ≤ u) (h : 0 ≤ v) : cutD (xs.map f) (some u) (some v) = ((xs.take v.toNat).drop u.toNat).map f := by
  rw [cutD_map, sIx_nn h, sIx_nn hu]
  congr 1
  by_cases e : u.toNat ≤ xs.length
  · rw [Nat.min_eq_left e, List.drop_take]
    by_cases e2 : v.toNat ≤ xs.length
    · rw [Nat.min_eq_left e2]
    · rw [Nat.min_eq_right (by omega), List.take_of_length_le (i := xs.length - u.toNat) (by rw [List.length_drop]; exact Nat.le_refl _), List.take_of_length_le (by rw [List.length_drop]; omega)]
  · have z : min u.toNat xs.length = xs.length := Nat.min_eq_right (by omega)
    rw [z, List.drop_of_length_le (Nat.le_refl _), List.drop_of_length_le (i := u.toNat) (by rw [List.length_take]; omega)]
    simp
theorem cut_all {α : Type} (f : α → PyData) (xs : List α) : cutD (xs.map f) none none = xs.map f := by
  rw [cutD_map]
  show List.map f ((xs.drop 0).take (xs.length - 0)) = _
  rw [List.drop_zero, Nat.sub_zero, List.take_of_length_le (Nat.le_refl _)]
theorem rangeD_len (lo c : Int) (n : Nat) : (rangeD lo c n).length = n := by unfold rangeD; simp
theorem rangeD_map (lo c : Int) (n : Nat) : rangeD lo c n = ((List.range n).map fun i => lo + (i : Nat) * c).map .int := by
  unfold rangeD
  rw [List.map_map]
  rfl
theorem rangeD_at {lo c : Int} {n i : Nat} {d : PyData} (h : (rangeD lo c n)[i]? = some d) : i < n ∧ d = .int (lo + i * c) := by
  unfold rangeD at h
  rw [List.getElem?_map] at h
  by_cases e : i < n
  · rw [List.getElem?_range e] at h
    exact ⟨e, (Option.some.inj h).symm⟩
  · rw [List.getElem?_eq_none (by simp; omega)] at h
    cases h
theorem map_get {α β : Type} {f : α → β} {xs : List α} {i : Nat} {d : β} (h : (xs.map f)[i]? = some d) : ∃ x, xs[i]? = some x ∧ d = f x := by
  rw [List.getElem?_map] at h
  obtain ⟨x, h1, h2⟩ := Option.map_eq_some_iff.mp h
  exact ⟨x, h1, h2.symm⟩
end PL

namespace PL
open PySem PySem.Spec PyProof.Rows L2

/-! ### 38. dicts that are owned -/
def keyD : PyData → Option Key
  | .int i => some (.inl i)
  | .str s => some (.inr s)
  | _ => none
def getK {α : Type} (ms : List (Key × α)) (k : Key) : Option α := (ms.find? fun kv => decide (kv.1 = k)).map (·.2)
/-- in its place, or at the end -/
def setK {α : Type} (ms : List (Key × α)) (k : Key) (c : α) : List (Key × α) :=
  if (ms.any fun kv => decide (kv.1 = k)) = true then ms.map (fun kv => if kv.1 = k then (kv.1, c) else kv) else ms ++ [(k, c)]
/-- the first of its key -/
def updK {α : Type} : List (Key × α) → Key → α → List (Key × α)
  | [], _, _ => []
  | kv :: r, k, c => if kv.1 = k then (kv.1, c) :: r else kv :: updK r k c
theorem getK_put {α : Type} (ms : List (Key × α)) (k j : Key) (c : α) : getK (setK ms k c) j = if j = k then some c else getK ms j := by
  unfold setK
  split
  · rename_i h
    induction ms with
    | nil => cases h
    | cons kv r ih =>
      unfold getK at ih ⊢
      rw [List.map_cons, List.find?_cons, List.find?_cons]
      by_cases e : kv.1 = k
      · rw [if_pos e]
        by_cases e2 : kv.1 = j
        · rw [decide_eq_true e2]
          rw [if_pos (e2.symm.trans e)]
          rfl
        · rw [decide_eq_false e2]
          have ne : ¬ j = k := fun z => e2 (e.trans z.symm)
          rw [if_neg ne]
          by_cases any : (r.any fun kv => decide (kv.1 = k)) = true
          · have := ih any
            rw [if_neg ne] at this
            exact this
          · have same : r.map (fun kv => if kv.1 = k then (kv.1, c) else kv) = r := by
              rw [List.map_congr_left (g := id) fun x hx => ?_, List.map_id]
              rw [if_neg fun z => any (List.any_eq_true.mpr ⟨x, hx, decide_eq_true z⟩)]
              rfl
            rw [same]
      · rw [if_neg e]
        rw [List.any_cons, decide_eq_false e, Bool.false_or] at h
        have := ih h
        by_cases e2 : kv.1 = j
        · rw [decide_eq_true e2]
          have ne : ¬ j = k := fun z => e (e2.trans z)
          rw [if_neg ne]
        · rw [decide_eq_false e2]
          exact this
  · rename_i h
    unfold getK
    rw [List.find?_append]
    by_cases e : j = k
    · subst e
      rw [if_pos rfl]
      have : (ms.find? fun kv => decide (kv.1 = j)) = none := by
        rw [List.find?_eq_none]
        exact fun x hx z => h (List.any_eq_true.mpr ⟨x, hx, z⟩)
      rw [this]
      simp
    · rw [if_neg e]
      cases (ms.find? fun kv => decide (kv.1 = j)) with
      | some x => rfl
      | none => simp [show ¬ k = j from fun z => e z.symm]
section
variable {K : PySem.W.Frag} {F H : Hp}
theorem MpKV.any (k : Key) : ∀ {kvs : List (Key × V)} {ms : List (Key × MO)} {as : List Addr}, MpKV K F H kvs ms as → (kvs.any fun kv => decide (kv.1 = k)) = ms.any fun kv => decide (kv.1 = k)
  | _, _, _, .nil => rfl
  | _, _, _, .cons h r => by rw [List.any_cons, List.any_cons, MpKV.any k r]
theorem MpKV.has (k : Key) : ∀ {kvs : List (Key × V)} {ms : List (Key × MO)} {as : List Addr}, MpKV K F H kvs ms as → (valV kvs k).isSome = (getK ms k).isSome
  | _, _, _, .nil => rfl
  | _, _, _, .cons (k := j) h r => by
    have ih := MpKV.has k r
    unfold valV getK at ih ⊢
    rw [List.find?_cons, List.find?_cons]
    by_cases e : j = k
    · rw [decide_eq_true e]
      rfl
    · rw [decide_eq_false e]
      exact ih
theorem MpKV.length : ∀ {kvs : List (Key × V)} {ms : List (Key × MO)} {as : List Addr}, MpKV K F H kvs ms as → kvs.length = ms.length
  | _, _, _, .nil => rfl
  | _, _, _, .cons h r => by rw [List.length_cons, List.length_cons, MpKV.length r]
/-- what stands under a key, and what may stand there -/
theorem MpKV.get {k : Key} {c : MO} : ∀ {kvs : List (Key × V)} {ms : List (Key × MO)} {as : List Addr}, MpKV K F H kvs ms as → getK ms k = some c → ∃ v a1 a2 a3, valV kvs k = some v ∧ Mp K F H v c a2 ∧ as = a1 ++ (a2 ++ a3) ∧
    ∀ {F' H' : Hp} {c' : MO} {a2' : List Addr}, Same F F' → (∀ a ∈ a1 ++ a3, H' a = H a) → Mp K F' H' v c' a2' → MpKV K F' H' kvs (updK ms k c') (a1 ++ (a2' ++ a3))
  | _, _, _, .nil, e => by cases e
  | _, _, _, .cons (k := j) (v := v) (vs := vs) (c := c0) (cs := cs) (as := as) (bs := bs) h r, e => by
    unfold getK at e
    rw [List.find?_cons] at e
    by_cases ej : j = k
    · rw [show decide ((j, c0).1 = k) = true from decide_eq_true ej] at e
      have e' : c0 = c := Option.some.inj e
      subst e'
      refine ⟨v, [], as, bs, ?_, h, rfl, fun {F' H' c' a2'} f kk h' => ?_⟩
      · unfold valV
        rw [List.find?_cons, show decide ((j, v).1 = k) = true from decide_eq_true ej]
        rfl
      · unfold updK
        rw [if_pos ej]
        exact (show MpKV K F' H' _ _ (a2' ++ bs) from .cons h' (r.to f fun a ha => kk a (List.mem_append_right _ ha)))
    · rw [show decide ((j, c0).1 = k) = false from decide_eq_false ej] at e
      obtain ⟨w, a1, a2, a3, q1, q2, rfl, q4⟩ := MpKV.get r (show getK cs k = some c from e)
      refine ⟨w, as ++ a1, a2, a3, ?_, q2, by rw [List.append_assoc], fun {F' H' c' a2'} f kk h' => ?_⟩
      · unfold valV at q1 ⊢
        rw [List.find?_cons, show decide ((j, v).1 = k) = false from decide_eq_false ej]
        exact q1
      · unfold updK
        rw [if_neg ej, List.append_assoc]
        exact .cons (h.to f fun a ha => kk a (List.mem_append_left _ (List.mem_append_left _ ha))) (q4 f (fun a ha => kk a (by
          rcases List.mem_append.mp ha with z | z
          · exact List.mem_append_left _ (List.mem_append_right _ z)
          · exact List.mem_append_right _ z)) h')
theorem MpKV.app : ∀ {kvs : List (Key × V)} {ms : List (Key × MO)} {as : List Addr} {kvs2 : List (Key × V)} {ms2 : List (Key × MO)} {as2 : List Addr}, MpKV K F H kvs ms as → MpKV K F H kvs2 ms2 as2 → MpKV K F H (kvs ++ kvs2) (ms ++ ms2) (as ++ as2)
  | _, _, _, _, _, _, .nil, h => h
  | _, _, _, _, _, _, .cons h r, h2 => by
    rw [List.append_assoc]
    exact .cons h (MpKV.app r h2)
theorem MpKV.repl {k : Key} {w : V} {d : PyData} (hw : Fp F w d) : ∀ {kvs : List (Key × V)} {ms : List (Key × MO)} {as : List Addr}, MpKV K F H kvs ms as → ∃ as', MpKV K F H (kvs.map fun kv => if kv.1 = k then (kv.1, w) else kv) (ms.map fun kv => if kv.1 = k then (kv.1, MO.fz d) else kv) as' ∧ List.Sublist as' as
  | _, _, _, .nil => ⟨[], .nil, List.Sublist.refl _⟩
  | _, _, _, .cons (k := j) (v := v) (c := c) (as := as) h r => by
    obtain ⟨as', q1, q2⟩ := MpKV.repl hw r
    rw [List.map_cons, List.map_cons]
    by_cases e : j = k
    · rw [if_pos (show (j, v).1 = k from e), if_pos (show (j, c).1 = k from e)]
      exact ⟨[] ++ as', .cons (.fz hw) q1, List.Sublist.trans q2 (List.sublist_append_right ..)⟩
    · rw [if_neg (show ¬ (j, v).1 = k from e), if_neg (show ¬ (j, c).1 = k from e)]
      exact ⟨as ++ as', .cons h q1, List.Sublist.append_left q2 as⟩
/-- a still value under a key -/
theorem MpKV.put {k : Key} {w : V} {d : PyData} (hw : Fp F w d) {kvs : List (Key × V)} {ms : List (Key × MO)} {as : List Addr} (h : MpKV K F H kvs ms as) : ∃ as', MpKV K F H (putK kvs k w) (setK ms k (.fz d)) as' ∧ List.Sublist as' as := by
  unfold putK setK
  rw [h.any k]
  split
  · exact MpKV.repl hw h
  · exact ⟨as ++ ([] ++ []), h.app (.cons (.fz hw) .nil), by simp⟩
end
theorem Fp.key {F : Hp} {v : V} {d : PyData} {k : Key} (h : Fp F v d) (e : keyD d = some k) : v = kV k := by
  cases h with
  | int i => cases e; rfl
  | str x => cases e; rfl
  | _ => cases e
def pDNew : PO := fun env Q => Q (.m (.dk [])) env
def pDIn (i : Nat) (pk : PX) : PO := fun env Q => pk env fun kd env1 => match env1[i]?, keyD kd with
  | some (.m (.dk ms)), some k => Q (.v (.bool (getK ms k).isSome)) env1
  | _, _ => False
def pDNotIn (i : Nat) (pk : PX) : PO := fun env Q => pk env fun kd env1 => match env1[i]?, keyD kd with
  | some (.m (.dk ms)), some k => Q (.v (.bool (!(getK ms k).isSome))) env1
  | _, _ => False
/-- d[k], a still value -/
def pDGet (i : Nat) (pk : PX) : PX := fun env Q => isM env i ∧ pk env fun kd env1 => match env1[i]?, keyD kd with
  | some (.m (.dk ms)), some k => ∃ x, getK ms k = some (.fz x) ∧ Q x env1
  | _, _ => False
/-- d[k] = v, a still value -/
def pDPut (i : Nat) (pk pv : PX) : PSt := fun D env => pv env fun d env1 => isM env1 i ∧ pk env1 fun kd env2 => match env2[i]?, keyD kd with
  | some (.m (.dk ms)), some k => ms.length < sizeLine ∧ D.nx (env2.set i (.m (.dk (setK ms k (.fz d)))))
  | _, _ => False
/-- d[k] op= v -/
def pDAug (i : Nat) (pk : PX) (rp : PyData → PyData → (Sl → Prop) → Prop) (pv : PX) : PSt := fun D env => isM env i ∧ pk env fun kd env1 => match env1[i]?, keyD kd with
  | some (.m (.dk ms)), some k => ∃ x, getK ms k = some (.fz x) ∧ pv env1 fun d env2 => rp x d fun r => match r, env2[i]? with
    | .v z, some (.m (.dk ms2)) => ms2.length < sizeLine ∧ D.nx (env2.set i (.m (.dk (setK ms2 k (.fz z)))))
    | _, _ => False
  | _, _ => False
section
variable {X : Cx} {E : Ent} {K : PySem.W.Frag} {x : Str} {px pos : Pos} {b e : Expr} {pk pv : PX}
theorem l_dnew : PE X (.Dict [] [] pos) (liftO X.K E pDNew) := pe_w pe_dnewK fun σ H Q ⟨ts, F, env, As, Q', S, fx, p, k⟩ => fun a ha =>
  k (.ref a) (.m (.dk [])) [a] F _ env As (S.gr (Gr.made (o := HO.dK []) S.sub ha)) (Same.refl F) ⟨⟨_, rfl, .dk upd_same .nil⟩, by simp, fun b hb => by
    rw [List.mem_singleton.mp hb]
    exact ⟨S.sub.free ha, (S.free ha).symm⟩, fun i b hb z => by
    rw [List.mem_singleton.mp hb] at z
    exact S.live i a z ha⟩ p
theorem mp_dk {F H : Hp} {v : V} {ms : List (Key × MO)} {as : List Addr} (h : Mp K F H v (.dk ms) as) : ∃ a kvs as', v = .ref a ∧ as = a :: as' ∧ H a = some (.dK kvs) ∧ MpKV K F H kvs ms as' := by
  cases h with
  | dk h1 h2 => exact ⟨_, _, _, rfl, rfl, h1, h2⟩
theorem le_din {ts : L2.St} {F : Hp} {env : PEnv} {As : Nat → List Addr} {i : Nat} {σ : L2.St} {H : Hp} {R : Bool → Hp → Prop} {P : Bool → PEnv → Prop} (hi : i < σ.length) (S : SR K E F H (σ ++ ts) env As) (fx : FixIn E σ)
    (p : pk env fun kd env1 => match env1[i]?, keyD kd with
      | some (.m (.dk ms)), some k => P (getK ms k).isSome env1
      | _, _ => False)
    (kk : ∀ b F' H' env' As', SR K E F' H' (σ ++ ts) env' As' → Same F F' → P b env' → R b H') : liftE K E pk σ H fun y H1 => ∃ v, σ[i]? = some (some v) ∧ ∃ a o, v = .ref a ∧ DGet H1 a y o ∧ R o.isSome H1 := by
  refine ⟨ts, F, env, As, _, S, fx, p, fun y d F1 H1 env1 As1 S1 f1 hd q => ?_⟩
  split at q
  · rename_i ms k e1 e2
    obtain ⟨v, hv, h2⟩ := S1.mslot hi e1
    obtain ⟨a, kvs, as', rfl, ea, ha, hk⟩ := mp_dk h2
    refine ⟨_, hv, a, _, rfl, (hd.key e2) ▸ DGet.k ha, ?_⟩
    rw [hk.has k]
    exact kk _ F1 H1 env1 As1 S1 f1 q
  · exact q.elim
theorem l_din (i : Nat) (hu : X.A.units + 64 < cLine) (h : PE X (.Name x px) (tVar i)) (hN : i < X.N.length) (hk : PE X b (liftE X.K E pk)) (hm : behindInMarks .In (.Name x px) = false := by rfl) : PE X (.Compare b [.In] [.Name x px] pos) (liftO X.K E (pDIn i pk)) :=
  ⟨fun pins s σ H Q I ⟨ts, F, env, As, Q', S, fx, p, k⟩ => (pe_cmp (pc_din (by omega) hk h) hm).run pins s σ H Q I (le_din (by rw [I.len]; exact hN) S fx p fun b F' H' env' As' S' f q => k _ (.v (.bool b)) [] F' H' env' As' S' f (RsOk.v (.bl b)) q)⟩
theorem l_dnotin (i : Nat) (hu : X.A.units + 64 < cLine) (h : PE X (.Name x px) (tVar i)) (hN : i < X.N.length) (hk : PE X b (liftE X.K E pk)) (hm : behindInMarks .NotIn (.Name x px) = false := by rfl) : PE X (.Compare b [.NotIn] [.Name x px] pos) (liftO X.K E (pDNotIn i pk)) :=
  ⟨fun pins s σ H Q I ⟨ts, F, env, As, Q', S, fx, p, k⟩ => (pe_cmp (pc_dnotin (by omega) hk h) hm).run pins s σ H Q I (le_din (P := fun b e => Q' (.v (.bool (!b))) e) (by rw [I.len]; exact hN) S fx p fun b F' H' env' As' S' f q => k _ (.v (.bool (!b))) [] F' H' env' As' S' f (RsOk.v (.bl _)) q)⟩
theorem lt_din (i : Nat) (hu : X.A.units + 64 < cLine) (h : PE X (.Name x px) (tVar i)) (hN : i < X.N.length) (hk : PE X b (liftE X.K E pk)) (hm : behindInMarks .In (.Name x px) = false := by rfl) : PT X (.Compare b [.In] [.Name x px] pos) (liftT X.K E (pTst (pDIn i pk))) :=
  ⟨fun pins s σ H Q I ⟨ts, F, env, As, Q', S, fx, p, k⟩ => (pt_cmp (pc_din (by omega) hk h) hm).run pins s σ H Q I (le_din (R := fun b H1 => ∃ c, V.bl b = .bl c ∧ Q c H1) (by rw [I.len]; exact hN) S fx p fun b F' H' env' As' S' f q => ⟨b, rfl, k b F' H' env' As' S' f q⟩)⟩
theorem lt_dnotin (i : Nat) (hu : X.A.units + 64 < cLine) (h : PE X (.Name x px) (tVar i)) (hN : i < X.N.length) (hk : PE X b (liftE X.K E pk)) (hm : behindInMarks .NotIn (.Name x px) = false := by rfl) : PT X (.Compare b [.NotIn] [.Name x px] pos) (liftT X.K E (pTst (pDNotIn i pk))) :=
  ⟨fun pins s σ H Q I ⟨ts, F, env, As, Q', S, fx, p, k⟩ => (pt_cmp (pc_dnotin (by omega) hk h) hm).run pins s σ H Q I (le_din (R := fun b H1 => ∃ c, V.bl (!b) = .bl c ∧ Q c H1) (P := fun b e => Q' (!b) e) (by rw [I.len]; exact hN) S fx p fun b F' H' env' As' S' f q => ⟨!b, rfl, k (!b) F' H' env' As' S' f q⟩)⟩
theorem l_dget (i : Nat) (hu : X.A.units + 64 < cLine) (h : PE X (.Name x px) (tVar i)) (hN : i < X.N.length) (hs : NoSl b) (hk : PE X b (liftE X.K E pk)) : PE X (.Subscript (.Name x px) b pos) (liftE X.K E (pDGet i pk)) := by
  refine ⟨fun pins s σ H Q I ⟨ts, F, env, As, Q', S, fx, ⟨⟨c, ec⟩, p⟩, k⟩ => ?_⟩
  have hi' : i < σ.length := by rw [I.len]; exact hN
  obtain ⟨v, hv, _⟩ := S.mslot hi' ec
  refine (pe_dget (by omega) h hk hs).run pins s σ H Q I ⟨v, hv, ts, F, env, As, _, S, fx, p, fun y d F1 H1 env1 As1 S1 f1 hd q => ?_⟩
  split at q
  · rename_i ms kk e1 e2
    obtain ⟨w, hw, h2⟩ := S1.mslot hi' e1
    rw [hv] at hw
    cases hw
    obtain ⟨a, kvs, as', rfl, ea, ha, hk⟩ := mp_dk h2
    obtain ⟨z, ez, q⟩ := q
    obtain ⟨w, a1, a2, a3, g1, g2, _⟩ := hk.get ez
    have g := DGet.k (k := kk) ha
    rw [g1] at g
    cases g2 with
    | fz g2 => exact ⟨a, w, rfl, (hd.key e2) ▸ g, k w z F1 H1 env1 As1 S1 f1 g2 q⟩
  · exact q.elim
/-- an owned dict rewritten -/
theorem SR.dput {F H : Hp} {σ ts : L2.St} {env : PEnv} {As : Nat → List Addr} (S : SR K E F H (σ ++ ts) env As) {i : Nat} (hi : i < σ.length) {ms : List (Key × MO)} (e : env[i]? = some (.m (.dk ms))) {k : Key} {d : PyData} {w : V} (hw : Fp F w d) :
    ∃ a kvs, σ[i]? = some (some (.ref a)) ∧ H a = some (.dK kvs) ∧ kvs.length = ms.length ∧ ∃ As', SR K E F (upd H a (.dK (putK kvs k w))) (σ ++ ts) (env.set i (.m (.dk (setK ms k (.fz d))))) As' := by
  obtain ⟨v, hv, h2⟩ := S.mslot hi e
  have nd := S.nd i
  generalize hA : As i = ai at h2 nd
  obtain ⟨a, kvs, as', rfl, rfl, ha, hk⟩ := mp_dk h2
  obtain ⟨as2, g1, g2⟩ := hk.put (k := k) hw
  have na : a ∉ as' := (List.nodup_cons.mp nd).1
  refine ⟨a, kvs, hv, ha, hk.length, _, S.write (H' := upd H a (.dK (putK kvs k w))) (as' := a :: as2) (List.getElem?_eq_some_iff.mp e).1 (by rw [List.getElem?_append_left hi]; exact hv)
    (.dk upd_same (g1.to (Same.refl F) fun b hb => upd_ne fun z => na (by rw [← z]; exact g2.subset hb))) ?_ (fun b hb => .inl ?_) fun b hb _ => upd_ne fun z => hb (by rw [hA, z]; exact List.mem_cons_self)⟩
  · exact List.nodup_cons.mpr ⟨fun z => na (g2.subset z), (List.nodup_cons.mp nd).2.sublist g2⟩
  · rw [hA]
    rcases List.mem_cons.mp hb with z | z
    · rw [z]; exact List.mem_cons_self
    · exact List.mem_cons_of_mem _ (g2.subset z)
theorem ls_dput (i : Nat) {tpos : Pos} (hu : X.A.units + 64 < cLine) (h : PE X (.Name x px) (tVar i)) (hN : i < X.N.length) (hk : PE X b (liftE X.K E pk)) (hv : PE X e (liftE X.K E pv)) (hs : swapsWith e (some (.Subscript (.Name x px) b tpos)) pos.line X.env = pure false := by rfl) :
    PS X (.Assign [.Subscript (.Name x px) b tpos] e pos) (liftS X.K E (pDPut i pk pv)) := by
  refine ⟨fun pins s σ H D I ⟨F, env, As, D', S, fx, p, k⟩ => (ps_dput (by omega) h hk hv hs).run pins s σ H D I ⟨[], F, env, As, _, app_nil_SR S, fx, p, fun v d F1 H1 env1 As1 S1 f1 hd ⟨⟨c, ec⟩, q⟩ => ?_⟩⟩
  have hi' : i < σ.length := by rw [I.len]; exact hN
  obtain ⟨u, hu', _⟩ := S1.mslot hi' ec
  refine ⟨u, hu', [], F1, env1, As1, _, S1, fx, q, fun y kd F2 H2 env2 As2 S2 f2 hkd q => ?_⟩
  split at q
  · rename_i ms kk e1 e2
    obtain ⟨a, kvs, g1, g2, g3, As3, g4⟩ := S2.dput hi' e1 (k := kk) (hd.to f2)
    rw [hu'] at g1
    cases g1
    exact ⟨a, _, rfl, (hkd.key e2) ▸ DPut.k g2 (by rw [g3]; exact q.1), k.nx σ F2 _ _ As3 rfl (nil_app_SR g4) (f1.trans f2) q.2⟩
  · exact q.elim
theorem ls_daug (i : Nat) {tpos : Pos} {op : Operator} {rd : V → V → Hp → VK → Prop} {rp : PyData → PyData → (Sl → Prop) → Prop} (hop : PIp X op rd) (hr : Op2 X.K rd rp) (hu : X.A.units + 64 < cLine) (h : PE X (.Name x px) (tVar i)) (hN : i < X.N.length) (hk : PE X b (liftE X.K E pk)) (hv : PE X e (liftE X.K E pv))
    (ha : ∀ ov iv new, augStore b ov iv new = (do holding [new, ov, iv] (setItem ov iv new); release [new, ov, iv] []; pure .next) := by intro _ _ _; rfl) :
    PS X (.AugAssign (.Subscript (.Name x px) b tpos) op e pos) (liftS X.K E (pDAug i pk rp pv)) := by
  refine ⟨fun pins s σ H D I ⟨F, env, As, D', S, fx, ⟨⟨c, ec⟩, p⟩, k⟩ => (ps_daug (by omega) h hk hv (fun pins s σ H x y u v Q I rx ry q => hop pins s σ H x y u v Q I rx ry q) ha).run pins s σ H D I ?_⟩
  have hi' : i < σ.length := by rw [I.len]; exact hN
  obtain ⟨u, hu', _⟩ := (app_nil_SR S).mslot hi' ec
  refine ⟨u, hu', [], F, env, As, _, app_nil_SR S, fx, p, fun y kd F1 H1 env1 As1 S1 f1 hkd q => ?_⟩
  split at q
  · rename_i ms kk e1 e2
    obtain ⟨w, hw, h2⟩ := S1.mslot hi' e1
    rw [hu'] at hw
    cases hw
    obtain ⟨a, kvs, as', rfl, ea, haa, hkk⟩ := mp_dk h2
    obtain ⟨z, ez, q⟩ := q
    obtain ⟨w, a1, a2, a3, g1, g2, _⟩ := hkk.get ez
    have g := DGet.k (k := kk) haa
    rw [g1] at g
    cases g2 with
    | fz g2 =>
      refine ⟨a, w, rfl, (hkd.key e2) ▸ g, [], F1, env1, As1, _, S1, fx, q, fun y2 d F2 H2 env2 As2 S2 f2 hd q => ?_⟩
      refine hr F2 H2 w y2 z d _ _ S2.sub (g2.to f2) hd q fun r rz ar F3 H3 g3 n q => ?_
      split at q
      · rename_i rz' z' ms2 _ e3
        have S3 := S2.gr g3
        obtain ⟨v', ev, hz, _⟩ := n.1
        cases ev
        obtain ⟨a', kvs', k1, k2, k3, As4, k4⟩ := S3.dput hi' e3 (k := kk) hz
        rw [hu'] at k1
        cases k1
        exact ⟨_, (hkd.key e2) ▸ DPut.k k2 (by rw [k3]; exact q.1), k.nx σ F3 _ _ As4 rfl (nil_app_SR k4) ((f1.trans f2).trans g3.ff) q.2⟩
      · exact q.elim
  · exact q.elim
end
end PL

namespace PL
open PySem PySem.Spec PyProof.Rows L2

/-! ### 39. a thing within an owned thing -/
def subM : MO → PyData → Option MO
  | .lst cs, .int i => atI cs i
  | .dk ms, d => (keyD d).bind (getK ms)
  | _, _ => none
def putM : MO → PyData → MO → MO
  | .lst cs, .int i, c => match ixN cs.length i with
    | some j => .lst (cs.set j c)
    | none => .lst cs
  | .dk ms, d, c => match keyD d with
    | some k => .dk (updK ms k c)
    | none => .dk ms
  | m, _, _ => m
section
variable {K : PySem.W.Frag} {E : Ent} {F H : Hp}
theorem Mp.subL {v : V} {cs : List MO} {as : List Addr} {i : Int} {c1 : MO} (h : Mp K F H v (.lst cs) as) (e : subM (.lst cs) (.int i) = some c1) : ∃ a vs w a1 a2 a3, v = .ref a ∧ H a = some (.lst vs) ∧ atI vs i = some w ∧ Mp K F H w c1 a2 ∧ as = a :: (a1 ++ (a2 ++ a3)) ∧
    ∀ {F' H' : Hp} {c1' : MO} {a2' : List Addr}, Same F F' → H' a = H a → (∀ b ∈ a1 ++ a3, H' b = H b) → Mp K F' H' w c1' a2' → Mp K F' H' v (putM (.lst cs) (.int i) c1') (a :: (a1 ++ (a2' ++ a3))) := by
  cases h with
  | @lst a vs cs as ha r =>
    have e0 : atI cs i = some c1 := e
    unfold atI at e0
    cases q : ixN cs.length i with
    | none => rw [q] at e0; cases e0
    | some j =>
      rw [q] at e0
      obtain ⟨w, a1, a2, a3, q1, q2, rfl, q4⟩ := r.get (show cs[j]? = some c1 from e0)
      refine ⟨a, vs, w, a1, a2, a3, rfl, ha, ?_, q2, rfl, fun {F' H' c1' a2'} f k1 k2 h' => ?_⟩
      · unfold atI
        rw [r.length, q]
        exact q1
      · have z := q4 f k2 h' (v' := w)
        have e2 : vs.set j w = vs := by
          obtain ⟨hj, hw⟩ := List.getElem?_eq_some_iff.mp q1
          rw [← hw]
          exact List.set_getElem_self hj
        rw [e2] at z
        have e3 : putM (.lst cs) (.int i) c1' = .lst (cs.set j c1') := by simp only [putM, q]
        rw [e3]
        exact .lst (by rw [k1]; exact ha) z
theorem Mp.subD {v : V} {ms : List (Key × MO)} {as : List Addr} {d : PyData} {k : Key} {c1 : MO} (h : Mp K F H v (.dk ms) as) (ek : keyD d = some k) (e : subM (.dk ms) d = some c1) : ∃ a kvs w a1 a2 a3, v = .ref a ∧ H a = some (.dK kvs) ∧ valV kvs k = some w ∧ Mp K F H w c1 a2 ∧ as = a :: (a1 ++ (a2 ++ a3)) ∧
    ∀ {F' H' : Hp} {c1' : MO} {a2' : List Addr}, Same F F' → H' a = H a → (∀ b ∈ a1 ++ a3, H' b = H b) → Mp K F' H' w c1' a2' → Mp K F' H' v (putM (.dk ms) d c1') (a :: (a1 ++ (a2' ++ a3))) := by
  cases h with
  | @dk a kvs ms as ha r =>
    have e0 : getK ms k = some c1 := by
      have : (keyD d).bind (getK ms) = some c1 := e
      rw [ek] at this
      exact this
    obtain ⟨w, a1, a2, a3, q1, q2, rfl, q4⟩ := r.get e0
    refine ⟨a, kvs, w, a1, a2, a3, rfl, ha, q1, q2, rfl, fun {F' H' c1' a2'} f k1 k2 h' => ?_⟩
    have e3 : putM (.dk ms) d c1' = .dk (updK ms k c1') := by simp only [putM, ek]
    rw [e3]
    exact .dk (by rw [k1]; exact ha) (q4 f k2 h')
/-- an inner list rewritten -/
theorem SR.inner {σ ts : L2.St} {env : PEnv} {As : Nat → List Addr} (S : SR K E F H (σ ++ ts) env As) {i : Nat} (hi : i < σ.length) {c : MO} (e : env[i]? = some (.m c)) {a : Addr} {w : V} {ds : List PyData} {a1 a2 a3 : List Addr} {f : MO → MO} (hv : σ[i]? = some (some (.ref a)))
    (ea : As i = a :: (a1 ++ (a2 ++ a3))) (m : Mp K F H w (.ol ds) a2)
    (up : ∀ {F' H' : Hp} {c1' : MO} {a2' : List Addr}, Same F F' → H' a = H a → (∀ b ∈ a1 ++ a3, H' b = H b) → Mp K F' H' w c1' a2' → Mp K F' H' (.ref a) (f c1') (a :: (a1 ++ (a2' ++ a3)))) :
    ∃ b us, w = .ref b ∧ H b = some (.lst us) ∧ FpAll F us ds ∧ ∀ us' ds', FpAll F us' ds' → ∃ As', SR K E F (upd H b (.lst us')) (σ ++ ts) (env.set i (.m (f (.ol ds')))) As' := by
  obtain ⟨b, us, rfl, rfl, hb, ra⟩ := mp_ol m
  have nd := S.nd i
  rw [ea] at nd
  have n1 := List.nodup_cons.mp nd
  have nab : a ≠ b := fun z => n1.1 (by rw [z]; simp)
  have n2 := List.nodup_append.mp n1.2
  have n3 := List.nodup_append.mp n2.2.1
  refine ⟨b, us, rfl, hb, ra, fun us' ds' h' => ⟨_, S.write (H' := upd H b (.lst us')) (as' := a :: (a1 ++ ([b] ++ a3))) (List.getElem?_eq_some_iff.mp e).1 (by rw [List.getElem?_append_left hi]; exact hv)
    (up (Same.refl F) (upd_ne nab) (fun d hd => upd_ne fun z => ?_) (.ol upd_same h')) nd (fun d hd => .inl (by rw [ea]; exact hd)) fun d hd _ => upd_ne fun z => hd (by rw [ea, z]; simp)⟩⟩
  rcases List.mem_append.mp hd with hd | hd
  · exact n2.2.2 d hd b (by simp) z
  · exact n3.2.2 b (by simp) d hd z.symm
end
/-- x[k].m(constants) of an inner list -/
def pMethL (i : Nat) (rp : RpM) (es : List PyData) (pk : PX) : PX := fun env Q => isM env i ∧ pk env fun kd env1 => match env1[i]?, kd with
  | some (.m (.lst cs)), .int j => match atI cs j with
    | some (.ol ds) => rp ds es fun d ds' => Q d (env1.set i (.m (putM (.lst cs) (.int j) (.ol ds'))))
    | _ => False
  | _, _ => False
def pMethD (i : Nat) (rp : RpM) (es : List PyData) (pk : PX) : PX := fun env Q => isM env i ∧ pk env fun kd env1 => match env1[i]?, keyD kd with
  | some (.m (.dk ms)), some k => match getK ms k with
    | some (.ol ds) => rp ds es fun d ds' => Q d (env1.set i (.m (.dk (updK ms k (.ol ds')))))
    | _ => False
  | _, _ => False
/-- len(x[k]) of an inner list -/
def pLenL (i : Nat) (pk : PX) : PX := fun env Q => isM env i ∧ pk env fun kd env1 => match env1[i]?, kd with
  | some (.m (.lst cs)), .int j => match atI cs j with
    | some (.ol ds) => Q (.int ds.length) env1
    | _ => False
  | _, _ => False
def pLenD (i : Nat) (pk : PX) : PX := fun env Q => isM env i ∧ pk env fun kd env1 => match env1[i]?, keyD kd with
  | some (.m (.dk ms)), some k => match getK ms k with
    | some (.ol ds) => Q (.int ds.length) env1
    | _ => False
  | _, _ => False
section
variable {X : Cx} {E : Ent} {x : Str} {px p2 pos : Pos} {b e : Expr} {pk : PX} {r : V → List V → Hp → VK → Prop} {rp : RpM}
theorem l_methL (i : Nat) {es : List PyData} {vs : List V} {t : TA} (hr : OpM X.K r rp) (hes : ∀ F : Hp, FpAll F vs es) (ht : ∀ σ H Q, Q vs H → t σ H Q) (hs : PlainIx b) (h : PE X (.Name x px) (tVar i)) (hN : i < X.N.length) (hk : PE X b (liftE X.K E pk))
    (hm : ∀ to, PE X (.Subscript (.Name x px) b p2) to → PE X e (tBM X.K "list" r to t)) : PE X e (liftE X.K E (pMethL i rp es pk)) := by
  refine ⟨fun pins s σ H Q I ⟨ts, F, env, As, Q', S, fx, ⟨⟨c0, ec⟩, p⟩, k⟩ => ?_⟩
  have hi : i < σ.length := by rw [I.len]; exact hN
  obtain ⟨v, hv, _⟩ := S.mslot hi ec
  refine (hm _ (pe_ix ix_list h hk hs)).run pins s σ H Q I ⟨v, hv, ts, F, env, As, _, S, fx, p, fun kv kd F1 H1 env1 As1 S1 f1 hd q => ?_⟩
  split at q
  · rename_i cs j e1
    split at q
    · rename_i ds e2
      obtain ⟨w0, hw0, m⟩ := S1.mslot hi e1
      rw [hv] at hw0
      cases hw0
      generalize hA : As1 i = ai at m
      obtain ⟨a, vs1, w, a1, a2, a3, rfl, g1, g2, g3, rfl, up⟩ := m.subL (i := j) e2
      obtain ⟨bb, us, rfl, g4, ra, wr⟩ := S1.inner (f := putM (.lst cs) (.int j)) hi e1 hv hA g3 up
      refine ⟨a, vs1, j, _, rfl, hd.int_inv, SqL.of g1, g2, .inl ⟨rfl, _, SqL.of g4⟩, ht _ _ _ ?_⟩
      refine hr F1 H1 _ us ds vs es Q _ S1.sub g4 ra (hes F1) q fun z d vs' ds' h1 h2 q => ?_
      obtain ⟨As', S'⟩ := wr vs' ds' h1
      exact k z d F1 _ _ As' S' f1 h2 q
    · exact q.elim
  · exact q.elim
theorem l_methD (i : Nat) {es : List PyData} {vs : List V} {t : TA} (hr : OpM X.K r rp) (hes : ∀ F : Hp, FpAll F vs es) (ht : ∀ σ H Q, Q vs H → t σ H Q) (hu : X.A.units + 64 < cLine) (hs : NoSl b) (h : PE X (.Name x px) (tVar i)) (hN : i < X.N.length) (hk : PE X b (liftE X.K E pk))
    (hm : ∀ to, PE X (.Subscript (.Name x px) b p2) to → PE X e (tBM X.K "list" r to t)) : PE X e (liftE X.K E (pMethD i rp es pk)) := by
  refine ⟨fun pins s σ H Q I ⟨ts, F, env, As, Q', S, fx, ⟨⟨c0, ec⟩, p⟩, k⟩ => ?_⟩
  have hi : i < σ.length := by rw [I.len]; exact hN
  obtain ⟨v, hv, _⟩ := S.mslot hi ec
  refine (hm _ (pe_dget (by omega) h hk hs)).run pins s σ H Q I ⟨v, hv, ts, F, env, As, _, S, fx, p, fun kv kd F1 H1 env1 As1 S1 f1 hd q => ?_⟩
  split at q
  · rename_i ms kk e1 ek
    split at q
    · rename_i ds e2
      obtain ⟨w0, hw0, m⟩ := S1.mslot hi e1
      rw [hv] at hw0
      cases hw0
      generalize hA : As1 i = ai at m
      have e3 : subM (.dk ms) kd = some (.ol ds) := by
        show (keyD kd).bind (getK ms) = _
        rw [ek]
        exact e2
      obtain ⟨a, kvs, w, a1, a2, a3, rfl, g1, g2, g3, rfl, up⟩ := m.subD ek e3
      obtain ⟨bb, us, rfl, g4, ra, wr⟩ := S1.inner (f := putM (.dk ms) kd) hi e1 hv hA g3 up
      have g := DGet.k (k := kk) g1
      rw [g2] at g
      refine ⟨a, .ref bb, rfl, (hd.key ek) ▸ g, .inl ⟨rfl, _, SqL.of g4⟩, ht _ _ _ ?_⟩
      refine hr F1 H1 _ us ds vs es Q _ S1.sub g4 ra (hes F1) q fun z d vs' ds' h1 h2 q => ?_
      obtain ⟨As', S'⟩ := wr vs' ds' h1
      have e4 : putM (.dk ms) kd (.ol ds') = .dk (updK ms kk (.ol ds')) := by simp only [putM, ek]
      rw [e4] at S'
      exact k z d F1 _ _ As' S' f1 h2 q
    · exact q.elim
  · exact q.elim
theorem l_lenL (i : Nat) {y : Str} {p : Pos} (hs : PlainIx b) (h : PE X (.Name x px) (tVar i)) (hN : i < X.N.length) (hk : PE X b (liftE X.K E pk)) (hg : Gl X y) (hm : X.mg y = none) (hv : bootBuiltins y = some (.builtin "len")) (hn : y ≠ "__name__" := by decide) (hdb : (y == ("__debug__" : Str)) = false := by decide)
    (he : starEach [.Subscript (.Name x px) b p2] X.env = (false, eval (.Subscript (.Name x px) b p2) X.env) :: starEach [] X.env := by rfl) (hpl : (backTo pos (starEach [] X.env)).any (·.1) = false := by rfl) : PE X (.Call (.Name y p) [.Subscript (.Name x px) b p2] [] pos) (liftE X.K E (pLenL i pk)) := by
  refine ⟨fun pins s σ H Q I ⟨ts, F, env, As, Q', S, fx, ⟨⟨c0, ec⟩, p⟩, k⟩ => ?_⟩
  have hi : i < σ.length := by rw [I.len]; exact hN
  obtain ⟨v, hv', _⟩ := S.mslot hi ec
  refine (pe_callB c_len hg hm hv (pa_cons (pe_ix ix_list h hk hs) pa_nil he) hn hdb he hpl).run pins s σ H Q I ⟨v, hv', ts, F, env, As, _, S, fx, p, fun kv kd F1 H1 env1 As1 S1 f1 hd q => ?_⟩
  split at q
  · rename_i cs j e1
    split at q
    · rename_i ds e2
      obtain ⟨w0, hw0, m⟩ := S1.mslot hi e1
      rw [hv'] at hw0
      cases hw0
      generalize hA : As1 i = ai at m
      obtain ⟨a, vs1, w, a1, a2, a3, rfl, g1, g2, g3, rfl, up⟩ := m.subL (i := j) e2
      obtain ⟨bb, us, rfl, rfl, hb, ra⟩ := mp_ol g3
      refine ⟨a, vs1, j, _, rfl, hd.int_inv, SqL.of g1, g2, .inl ⟨bb, us, rfl, .inl (SqL.of hb), ?_⟩⟩
      rw [ra.length]
      exact k (.int _) _ F1 H1 env1 As1 S1 f1 (.int _) q
    · exact q.elim
  · exact q.elim
theorem l_lenD (i : Nat) {y : Str} {p : Pos} (hu : X.A.units + 64 < cLine) (hs : NoSl b) (h : PE X (.Name x px) (tVar i)) (hN : i < X.N.length) (hk : PE X b (liftE X.K E pk)) (hg : Gl X y) (hm : X.mg y = none) (hv : bootBuiltins y = some (.builtin "len")) (hn : y ≠ "__name__" := by decide) (hdb : (y == ("__debug__" : Str)) = false := by decide)
    (he : starEach [.Subscript (.Name x px) b p2] X.env = (false, eval (.Subscript (.Name x px) b p2) X.env) :: starEach [] X.env := by rfl) (hpl : (backTo pos (starEach [] X.env)).any (·.1) = false := by rfl) : PE X (.Call (.Name y p) [.Subscript (.Name x px) b p2] [] pos) (liftE X.K E (pLenD i pk)) := by
  refine ⟨fun pins s σ H Q I ⟨ts, F, env, As, Q', S, fx, ⟨⟨c0, ec⟩, p⟩, k⟩ => ?_⟩
  have hi : i < σ.length := by rw [I.len]; exact hN
  obtain ⟨v, hv', _⟩ := S.mslot hi ec
  refine (pe_callB c_len hg hm hv (pa_cons (pe_dget (by omega) h hk hs) pa_nil he) hn hdb he hpl).run pins s σ H Q I ⟨v, hv', ts, F, env, As, _, S, fx, p, fun kv kd F1 H1 env1 As1 S1 f1 hd q => ?_⟩
  split at q
  · rename_i ms kk e1 ek
    split at q
    · rename_i ds e2
      obtain ⟨w0, hw0, m⟩ := S1.mslot hi e1
      rw [hv'] at hw0
      cases hw0
      generalize hA : As1 i = ai at m
      have e3 : subM (.dk ms) kd = some (.ol ds) := by
        show (keyD kd).bind (getK ms) = _
        rw [ek]
        exact e2
      obtain ⟨a, kvs, w, a1, a2, a3, rfl, g1, g2, g3, rfl, up⟩ := m.subD ek e3
      obtain ⟨bb, us, rfl, rfl, hb, ra⟩ := mp_ol g3
      have g := DGet.k (k := kk) g1
      rw [g2] at g
      refine ⟨a, .ref bb, rfl, (hd.key ek) ▸ g, .inl ⟨bb, us, rfl, .inl (SqL.of hb), ?_⟩⟩
      rw [ra.length]
      exact k (.int _) _ F1 H1 env1 As1 S1 f1 (.int _) q
    · exact q.elim
  · exact q.elim
end

/-! ### 39b. a method of a new thing that no slot holds -/
theorem SR.poke {K : PySem.W.Frag} {E : Ent} {F H : Hp} {σ : L2.St} {env : PEnv} {As : Nat → List Addr} (S : SR K E F H σ env As) {a : Addr} {o : HO} (hF : F a = none) (hB : E.B a ∨ E.H0 a = none) (hA : ∀ i, a ∉ As i) : SR K E F (upd H a o) σ env As where
  sub := fun b u e => by rw [upd_ne (ne_of_none e hF)]; exact S.sub b u e
  f0 := S.f0
  grow := S.grow
  keep := fun b u e n => by
    have ne : b ≠ a := fun z => by
      rw [z] at e n
      rcases hB with h | h
      · exact n h
      · rw [h] at e; cases e
    rw [upd_ne ne]
    exact S.keep b u e n
  len := S.len
  slot := fun i s e => by
    obtain ⟨x, h1, h2⟩ := S.slot i s e
    exact ⟨x, h1, h2.to (Same.refl F) fun b hb => upd_ne fun z => hA i (by rw [← z]; exact hb)⟩
  out := S.out
  own := S.own
  nd := S.nd
  disj := S.disj
  fix := S.fix
def pMethT (rp : RpM) (es : List PyData) (po : PO) : PX := fun env Q => po env fun r env1 => match r with
  | .m (.ol ds) => rp ds es fun d _ => Q d env1
  | _ => False
theorem l_methT {X : Cx} {E : Ent} {o e : Expr} {r : V → List V → Hp → VK → Prop} {rp : RpM} {es : List PyData} {vs : List V} {t : TA} {po : PO} (hr : OpM X.K r rp) (hes : ∀ F : Hp, FpAll F vs es) (ht : ∀ σ H Q, Q vs H → t σ H Q) (ho : PE X o (liftO X.K E po))
    (hm : ∀ to, PE X o to → PE X e (tBM X.K "list" r to t)) : PE X e (liftE X.K E (pMethT rp es po)) := by
  refine ⟨fun pins s σ H Q I ⟨ts, F, env, As, Q', S, fx, p, k⟩ => (hm _ ho).run pins s σ H Q I ⟨ts, F, env, As, _, S, fx, p, fun v r0 ar F1 H1 env1 As1 S1 f1 R q => ?_⟩⟩
  split at q
  · rename_i ds
    obtain ⟨v', e1, m⟩ := R.1
    cases e1
    obtain ⟨a, us, rfl, rfl, ha, ra⟩ := mp_ol m
    have own := R.2.2.1 a (List.mem_singleton.mpr rfl)
    refine ⟨.inl ⟨rfl, _, SqL.of ha⟩, ht _ _ _ ?_⟩
    refine hr F1 H1 a us ds vs es Q _ S1.sub ha ra (hes F1) q fun z d vs' ds' h1 h2 q => ?_
    exact k z d F1 _ env1 As1 (S1.poke own.1 own.2 fun i => R.2.2.2 i a (List.mem_singleton.mpr rfl)) f1 h2 q
  · exact q.elim

/-- m() of a list that was just made -/
theorem l_methT0 {X : Cx} {E : Ent} {o e : Expr} {r : V → List V → Hp → VK → Prop} {rp : RpM} {po : PO} (hr : OpM X.K r rp) (ho : PE X o (liftO X.K E po))
    (hm : ∀ to, PE X o to → PE X e (tBM0 X.K "list" r to)) : PE X e (liftE X.K E (pMethT rp [] po)) := by
  refine ⟨fun pins s σ H Q I ⟨ts, F, env, As, Q', S, fx, p, k⟩ => (hm _ ho).run pins s σ H Q I ⟨ts, F, env, As, _, S, fx, p, fun v r0 ar F1 H1 env1 As1 S1 f1 R q => ?_⟩⟩
  split at q
  · rename_i ds
    obtain ⟨v', e1, m⟩ := R.1
    cases e1
    obtain ⟨a, us, rfl, rfl, ha, ra⟩ := mp_ol m
    have own := R.2.2.1 a (List.mem_singleton.mpr rfl)
    refine ⟨.inl ⟨rfl, _, SqL.of ha⟩, ?_⟩
    refine hr F1 H1 a us ds [] [] Q _ S1.sub ha ra .nil q fun z d vs' ds' h1 h2 q => ?_
    exact k z d F1 _ env1 As1 (S1.poke own.1 own.2 fun i => R.2.2.2 i a (List.mem_singleton.mpr rfl)) f1 h2 q
  · exact q.elim

/-! ### 40. a op1 b op2 c op3 d -/
def tChain3 (r r' r3 : R2) (ta tb tc td : TE) : TE := fun σ H Q => ta σ H fun x H1 => tb σ H1 fun y H2 => r x y H2 fun z H3 => ∃ k, z = .bl k ∧
  (if k = true then tc σ H3 fun w' H4 => r' y w' H4 fun z2 H5 => ∃ k2, z2 = .bl k2 ∧ (if k2 = true then td σ H5 fun u H6 => r3 w' u H6 Q else Q (.bl false) H5) else Q (.bl false) H3)
def pChain3 (rp rp' rp3 : PyData → PyData → (Sl → Prop) → Prop) (pa pb pc pd : PX) : PO := fun env Q => pa env fun d env1 => pb env1 fun e env2 => rp d e fun r => match r with
  | .v (.bool true) => pc env2 fun g env3 => rp' e g fun r' => match r' with
    | .v (.bool true) => pd env3 fun f env4 => rp3 g f fun r3 => Q r3 env4
    | .v (.bool false) => Q (.v (.bool false)) env3
    | _ => False
  | .v (.bool false) => Q (.v (.bool false)) env2
  | _ => False
section
variable {X : Cx} {E : Ent} {K : PySem.W.Frag} {a b c d : Expr} {ta tb tc td : TE} {pos : Pos} {pa pb pc pd : PX}
theorem pe_chain3 {op op' op3 : CmpOp} {r r' r3 : R2} (ho : OpR X (compareOp op) r) (ho' : OpR X (compareOp op') r') (ho3 : OpR X (compareOp op3) r3) (ha : PE X a ta) (hb : PE X b tb) (hc : PE X c tc) (hd : PE X d td)
    (hm : lastMarks [op, op', op3] [b, c, d] = false := by with_unfolding_all rfl) : PE X (.Compare a [op, op', op3] [b, c, d] pos) (tChain3 r r' r3 ta tb tc td) := by
  refine ⟨fun pins s σ H Q I h => ?_⟩
  refine Compare_chain (thn (ha.run pins s σ H _ I h) fun v s1 ⟨x, H1, I1, r1, q1⟩ => chain_link (thn (hb.run pins s1 σ H1 _ I1 q1) fun u s2 ⟨y, H2, I2, r2, q2⟩ =>
    thn (ho pins s2 σ H2 x y v u _ I2 r1 r2 q2) fun d s3 ⟨z, H3, I3, r3, k, e, q3⟩ => ?_)) hm
  subst e
  cases r3
  refine wpAny_truthy_bool ?_
  cases k with
  | false => exact ite_ff ⟨.bl false, H3, I3, rfl, q3⟩
  | true =>
    refine ite_tt (chain_link (thn (hc.run pins s3 σ H3 _ I3 q3) fun w' s4 ⟨z', H4, I4, r4, q4⟩ => thn (ho' pins s4 σ H4 y z' u w' _ I4 r2 r4 q4) fun d' s5 ⟨z2, H5, I5, r5, k2, e2, q5⟩ => ?_))
    subst e2
    cases r5
    refine wpAny_truthy_bool ?_
    cases k2 with
    | false => exact ite_ff ⟨.bl false, H5, I5, rfl, q5⟩
    | true => exact ite_tt (chain_last (thn (hd.run pins s5 σ H5 _ I5 q5) fun w2 s6 ⟨z3, H6, I6, r6, q6⟩ => ho3 pins s6 σ H6 z' z3 w' w2 Q I6 r4 r6 q6))
theorem pt_chain3 {op op' op3 : CmpOp} {r r' r3 : R2} (ho : OpR X (compareOp op) r) (ho' : OpR X (compareOp op') r') (ho3 : OpR X (compareOp op3) r3) (ha : PE X a ta) (hb : PE X b tb) (hc : PE X c tc) (hd : PE X d td)
    (hm : lastMarks [op, op', op3] [b, c, d] = false := by with_unfolding_all rfl) : PT X (.Compare a [op, op', op3] [b, c, d] pos) (tTest (tChain3 r r' r3 ta tb tc td)) := by
  refine ⟨fun pins s σ H Q I h => ?_⟩
  refine isTrue_chain (thn (ha.run pins s σ H _ I h) fun v s1 ⟨x, H1, I1, r1, q1⟩ => test_link (thn (hb.run pins s1 σ H1 _ I1 q1) fun u s2 ⟨y, H2, I2, r2, q2⟩ =>
    thn (ho pins s2 σ H2 x y v u _ I2 r1 r2 q2) fun d s3 ⟨z, H3, I3, r3, k, e, q3⟩ => ?_)) hm
  subst e
  cases r3
  refine wpAny_truthy_bool ?_
  cases k with
  | false =>
    obtain ⟨k', e', q'⟩ := q3
    cases e'
    exact ite_ff ⟨H3, I3, q'⟩
  | true =>
    refine ite_tt (test_link (thn (hc.run pins s3 σ H3 _ I3 q3) fun w' s4 ⟨z', H4, I4, r4, q4⟩ => thn (ho' pins s4 σ H4 y z' u w' _ I4 r2 r4 q4) fun d' s5 ⟨z2, H5, I5, r5, k2, e2, q5⟩ => ?_))
    subst e2
    cases r5
    refine wpAny_truthy_bool ?_
    cases k2 with
    | false =>
      obtain ⟨k', e', q'⟩ := q5
      cases e'
      exact ite_ff ⟨H5, I5, q'⟩
    | true =>
      refine ite_tt (test_last (thn (hd.run pins s5 σ H5 _ I5 q5) fun w2 s6 ⟨z3, H6, I6, r6, q6⟩ => thn (ho3 pins s6 σ H6 z' z3 w' w2 _ I6 r4 r6 q6) fun d2 s7 ⟨z4, H7, I7, r7, k3, e3, q7⟩ => ?_))
      subst e3
      cases r7
      exact wpAny_truthy_bool ⟨H7, I7, q7⟩
theorem le_chain3 {r r' r3 : R2} {rp rp' rp3 : PyData → PyData → (Sl → Prop) → Prop} (hr : Op2 K r rp) (hr' : Op2 K r' rp') (hr3 : Op2 K r3 rp3) : Le (liftO K E (pChain3 rp rp' rp3 pa pb pc pd)) (tChain3 r r' r3 (liftE K E pa) (liftE K E pb) (liftE K E pc) (liftE K E pd)) := fun σ H Q ⟨ts, F, env, As, Q', S, fx, p, k⟩ => by
  refine l_two' S fx p fun x y d e F' H' env' As' S' f h1 h2 q => hr F' H' x y d e _ _ S'.sub h1 h2 q fun z rz ar F2 H2 g n q => ?_
  split at q
  · have S2 := S'.gr g
    refine ⟨true, bl_of n, ?_⟩
    rw [if_pos rfl]
    refine ⟨ts, F2, env', As', _, S2, fx, q, fun w' g' F3 H3 env3 As3 S3 f3 h3 q3 => hr' F3 H3 y w' e g' _ _ S3.sub ((h2.to g.ff).to f3) h3 q3 fun z2 rz2 ar2 F4 H4 g4 n4 q4 => ?_⟩
    split at q4
    · have S4 := S3.gr g4
      refine ⟨true, bl_of n4, ?_⟩
      rw [if_pos rfl]
      exact ⟨ts, F4, env3, As3, _, S4, fx, q4, fun w2 g2 F5 H5 env5 As5 S5 f5 h5 q5 => hr3 F5 H5 w' w2 g' g2 Q _ S5.sub ((h3.to g4.ff).to f5) h5 q5 (KN.ko' k S5 ((((f.trans g.ff).trans f3).trans g4.ff).trans f5))⟩
    · refine ⟨false, bl_of n4, ?_⟩
      rw [if_neg Bool.false_ne_true]
      exact k _ (.v (.bool false)) [] F4 H4 env3 As3 (S3.gr g4) (((f.trans g.ff).trans f3).trans g4.ff) (.v (.bl false)) q4
    · exact q4.elim
  · refine ⟨false, bl_of n, ?_⟩
    rw [if_neg Bool.false_ne_true]
    exact k _ (.v (.bool false)) [] F2 H2 env' As' (S'.gr g) (f.trans g.ff) (.v (.bl false)) q
  · exact q.elim
theorem l_chain3 {op op' op3 : CmpOp} {r r' r3 : R2} {rp rp' rp3 : PyData → PyData → (Sl → Prop) → Prop} (ho : OpR X (compareOp op) r) (hr : Op2 X.K r rp) (ho' : OpR X (compareOp op') r') (hr' : Op2 X.K r' rp') (ho3 : OpR X (compareOp op3) r3) (hr3 : Op2 X.K r3 rp3) (ha : PE X a (liftE X.K E pa)) (hb : PE X b (liftE X.K E pb)) (hc : PE X c (liftE X.K E pc)) (hd : PE X d (liftE X.K E pd))
    (hm : lastMarks [op, op', op3] [b, c, d] = false := by with_unfolding_all rfl) : PE X (.Compare a [op, op', op3] [b, c, d] pos) (liftO X.K E (pChain3 rp rp' rp3 pa pb pc pd)) := pe_w (pe_chain3 ho ho' ho3 ha hb hc hd hm) (le_chain3 hr hr' hr3)
theorem lt_chain3 {op op' op3 : CmpOp} {r r' r3 : R2} {rp rp' rp3 : PyData → PyData → (Sl → Prop) → Prop} (ho : OpR X (compareOp op) r) (hr : Op2 X.K r rp) (ho' : OpR X (compareOp op') r') (hr' : Op2 X.K r' rp') (ho3 : OpR X (compareOp op3) r3) (hr3 : Op2 X.K r3 rp3) (ha : PE X a (liftE X.K E pa)) (hb : PE X b (liftE X.K E pb)) (hc : PE X c (liftE X.K E pc)) (hd : PE X d (liftE X.K E pd))
    (hm : lastMarks [op, op', op3] [b, c, d] = false := by with_unfolding_all rfl) : PT X (.Compare a [op, op', op3] [b, c, d] pos) (liftT X.K E (pTst (pChain3 rp rp' rp3 pa pb pc pd))) := pt_w (pt_chain3 ho ho' ho3 ha hb hc hd hm) (le_tst (le_chain3 hr hr' hr3))
end

/-! ### 41. more data facts -/
theorem zipIdx_at {α : Type} {l : List α} {i : Nat} {p : α × Nat} (h : (l.zipIdx)[i]? = some p) : l[i]? = some p.1 ∧ p.2 = i := by
  rw [List.getElem?_zipIdx] at h
  obtain ⟨a, h1, rfl⟩ := Option.map_eq_some_iff.mp h
  exact ⟨h1, Nat.zero_add i⟩
theorem zip_at {α β : Type} {l : List α} {m : List β} {i : Nat} {p : α × β} (h : (l.zip m)[i]? = some p) : l[i]? = some p.1 ∧ m[i]? = some p.2 := by
  rw [List.getElem?_zip_eq_some] at h
  exact h
theorem enumD_at {α : Type} {f : α → PyData} {xs : List α} {i : Nat} {d : PyData} (h : (enumD 0 (xs.map f))[i]? = some d) : ∃ v, xs[i]? = some v ∧ d = .tuple [.int i, f v] := by
  rw [enumD_map] at h
  obtain ⟨⟨v, j⟩, hx, rfl⟩ := map_get h
  obtain ⟨hv, hj⟩ := zipIdx_at hx
  cases hj
  exact ⟨v, hv, rfl⟩
theorem zipD_at {α β : Type} {f : α → PyData} {g : β → PyData} {xs : List α} {ys : List β} {i : Nat} {d : PyData} (h : (zipD (xs.map f) (ys.map g))[i]? = some d) : ∃ v w, xs[i]? = some v ∧ ys[i]? = some w ∧ d = .tuple [f v, g w] := by
  rw [zipD_map] at h
  obtain ⟨⟨v, w⟩, hx, rfl⟩ := map_get h
  obtain ⟨h1, h2⟩ := zip_at hx
  exact ⟨v, w, h1, h2, rfl⟩
theorem enumD_len (n : Nat) (ds : List PyData) : (enumD n ds).length = ds.length := by rw [enumD_eq, List.length_map, List.length_zipIdx]
theorem zipD_len {α β : Type} (f : α → PyData) (g : β → PyData) (xs : List α) (ys : List β) : (zipD (xs.map f) (ys.map g)).length = min xs.length ys.length := by rw [zipD_map, List.length_map, List.length_zip]
theorem enumD_range (F : Nat → PyData) (m : Nat) : enumD 0 ((List.range m).map F) = (List.range m).map fun b => .tuple [.int b, F b] := by
  rw [enumD_map]
  refine List.ext_getElem? fun i => ?_
  rw [List.getElem?_map, List.getElem?_map, List.getElem?_zipIdx]
  by_cases h : i < m
  · rw [List.getElem?_range h]
    show some (PyData.tuple [.int ((0 + i : Nat) : Int), F i]) = _
    rw [Nat.zero_add]
    rfl
  · rw [List.getElem?_eq_none (by simp; omega)]
    rfl
theorem zipD_same {α : Type} (F G : α → PyData) : ∀ l : List α, zipD (l.map F) (l.map G) = l.map fun b => .tuple [F b, G b]
  | [] => rfl
  | x :: l => by rw [List.map_cons, List.map_cons, zipD, zipD_same F G l, List.map_cons]
theorem agD_star (a : List PyData) (gs : List Ag) : agD? (dsAg a ++ gs) = (agD? gs).map (a ++ ·) := by
  induction a with
  | nil =>
    show agD? gs = _
    cases agD? gs <;> rfl
  | cons x a ih =>
    show (agD? (dsAg a ++ gs)).map (x :: ·) = _
    rw [ih]
    cases agD? gs <;> rfl
theorem agD_star0 (a : List PyData) : agD? (dsAg a ++ []) = some (a ++ []) := by rw [agD_star]; rfl
theorem setK_le {α : Type} (ms : List (Key × α)) (k : Key) (c : α) : (setK ms k c).length ≤ ms.length + 1 := by
  unfold setK
  split
  · rw [List.length_map]
    omega
  · rw [List.length_append]
    exact Nat.le_refl _
theorem atI_last {α : Type} {xs : List α} {x : α} : atI (xs ++ [x]) (-1) = some x := by
  unfold atI ixN
  rw [List.length_append, List.length_singleton, if_neg (by omega), if_pos (by omega)]
  show (xs ++ [x])[((-1 : Int) + ((xs.length + 1 : Nat) : Int)).toNat]? = some x
  rw [show ((-1 : Int) + ((xs.length + 1 : Nat) : Int)).toNat = xs.length by omega, List.getElem?_append_right (Nat.le_refl _), Nat.sub_self]
  rfl
theorem showAll_bools (l : List Bool) : PyData.showableAll (l.map .bool) = true ∧ PyData.hasDictAll (l.map .bool) = false ∧ PyData.depthAll (l.map .bool) = 0 ∧ PyData.leavesShortAll 200 (l.map .bool) = true ∧ PyData.bulkAll (l.map .bool) = l.length := by
  induction l with
  | nil => exact ⟨rfl, rfl, rfl, rfl, rfl⟩
  | cons x l ih =>
    obtain ⟨h1, h2, h3, h4, h5⟩ := ih
    refine ⟨?_, ?_, ?_, ?_, ?_⟩
    · rw [List.map_cons, PyData.showableAll, h1, PyData.showable]; rfl
    · rw [List.map_cons, PyData.hasDictAll, h2, PyData.hasDict]; rfl
    · rw [List.map_cons, PyData.depthAll, h3, PyData.depth]; rfl
    · rw [List.map_cons, PyData.leavesShortAll, h4, PyData.leavesShort]; rfl
    · rw [List.map_cons, PyData.bulkAll, h5, PyData.bulk, List.length_cons]; omega
theorem repr_lb (l : List Bool) (hl : l.length ≤ 50000) : PyData.showable (.list (l.map .bool)) = true ∧ PyData.hasDict (.list (l.map .bool)) = false ∧ PyData.depth (.list (l.map .bool)) ≤ 60 ∧ (PyData.shown (.list (l.map .bool))).length ≤ sizeLine := by
  obtain ⟨h1, h2, h3, h4, h5⟩ := showAll_bools l
  refine ⟨by rw [PyData.showable]; exact h1, by rw [PyData.hasDict]; exact h2, by rw [PyData.depth, h3]; decide, ?_⟩
  have e := PyData.shown_le_bulk 200 (by decide) (.list (l.map .bool)) (by rw [PyData.leavesShort]; exact h4)
  rw [PyData.bulk, h5] at e
  rw [sizeLine_eq]
  omega
/-- repr of a list of lists of numbers -/
theorem repr_ll {l : List (List Int)} (h : ∀ x ∈ l, (∀ y ∈ x, y.natAbs < 2 ^ 120) ∧ x.length ≤ 200) (hl : l.length ≤ 200) : PyData.showable (.list (l.map fun x => .list (x.map .int))) = true ∧ PyData.hasDict (.list (l.map fun x => .list (x.map .int))) = false ∧ PyData.depth (.list (l.map fun x => .list (x.map .int))) ≤ 60 ∧ (PyData.shown (.list (l.map fun x => .list (x.map .int)))).length ≤ sizeLine := by
  have key : ∀ l : List (List Int), (∀ x ∈ l, (∀ y ∈ x, y.natAbs < 2 ^ 120) ∧ x.length ≤ 200) → PyData.showableAll (l.map fun x => .list (x.map .int)) = true ∧ PyData.hasDictAll (l.map fun x => .list (x.map .int)) = false ∧ PyData.depthAll (l.map fun x => .list (x.map .int)) ≤ 1 ∧ PyData.leavesShortAll 200 (l.map fun x => .list (x.map .int)) = true ∧ PyData.bulkAll (l.map fun x => .list (x.map .int)) ≤ 201 * l.length := by
    intro l
    induction l with
    | nil => intro _; exact ⟨rfl, rfl, by decide, rfl, Nat.le_refl _⟩
    | cons x l ih =>
      intro h
      obtain ⟨h1, h2, h3, h4, h5⟩ := ih fun y hy => h y (List.mem_cons_of_mem _ hy)
      obtain ⟨g1, g2⟩ := h x List.mem_cons_self
      obtain ⟨k1, k2, k3, k4, k5⟩ := showAll_ints g1
      refine ⟨?_, ?_, ?_, ?_, ?_⟩
      · rw [List.map_cons, PyData.showableAll, h1, PyData.showable, k1]; rfl
      · rw [List.map_cons, PyData.hasDictAll, h2, PyData.hasDict, k2]; rfl
      · rw [List.map_cons, PyData.depthAll, PyData.depth, k3]; omega
      · rw [List.map_cons, PyData.leavesShortAll, h4, PyData.leavesShort, k4]; rfl
      · rw [List.map_cons, PyData.bulkAll, PyData.bulk, k5, List.length_cons]; omega
  obtain ⟨h1, h2, h3, h4, h5⟩ := key l h
  refine ⟨by rw [PyData.showable]; exact h1, by rw [PyData.hasDict]; exact h2, by rw [PyData.depth]; omega, ?_⟩
  have e := PyData.shown_le_bulk 200 (by decide) (.list (l.map fun x => .list (x.map .int))) (by rw [PyData.leavesShort]; exact h4)
  rw [PyData.bulk] at e
  rw [sizeLine_eq]
  omega

/-! ### 42. what repr asks, piece by piece -/
structure RD (d : PyData) (k B : Nat) : Prop where
  sh : PyData.showable d = true
  hd : PyData.hasDict d = false
  dp : PyData.depth d ≤ k
  lv : PyData.leavesShort 200 d = true
  bk : PyData.bulk d ≤ B
structure RDA (ds : List PyData) (k B : Nat) : Prop where
  sh : PyData.showableAll ds = true
  hd : PyData.hasDictAll ds = false
  dp : PyData.depthAll ds ≤ k
  lv : PyData.leavesShortAll 200 ds = true
  bk : PyData.bulkAll ds ≤ B
theorem RD.mono {d : PyData} {k B k' B' : Nat} (h : RD d k B) (hk : k ≤ k') (hB : B ≤ B') : RD d k' B' := ⟨h.sh, h.hd, Nat.le_trans h.dp hk, h.lv, Nat.le_trans h.bk hB⟩
theorem RDA.nil {k B : Nat} : RDA [] k B := ⟨rfl, rfl, Nat.zero_le _, rfl, Nat.zero_le _⟩
theorem RDA.cons {d : PyData} {ds : List PyData} {k B C : Nat} (h : RD d k B) (r : RDA ds k C) : RDA (d :: ds) k (B + 1 + C) := by
  refine ⟨?_, ?_, ?_, ?_, ?_⟩
  · rw [PyData.showableAll, h.sh, r.sh]; rfl
  · rw [PyData.hasDictAll, h.hd, r.hd]; rfl
  · rw [PyData.depthAll]; exact Nat.max_le.mpr ⟨h.dp, r.dp⟩
  · rw [PyData.leavesShortAll, h.lv, r.lv]; rfl
  · rw [PyData.bulkAll]
    have := h.bk
    have := r.bk
    omega
theorem RDA.map {α : Type} {f : α → PyData} {k B : Nat} : ∀ {l : List α}, (∀ x ∈ l, RD (f x) k B) → RDA (l.map f) k (l.length * (B + 1))
  | [], _ => .nil
  | x :: l, h => by
    have z := RDA.cons (h x List.mem_cons_self) (RDA.map (l := l) fun y hy => h y (List.mem_cons_of_mem _ hy))
    refine ⟨z.sh, z.hd, z.dp, z.lv, Nat.le_trans z.bk ?_⟩
    rw [List.length_cons, Nat.add_mul]
    omega
theorem RD.list {ds : List PyData} {k B : Nat} (h : RDA ds k B) : RD (.list ds) (k + 1) B :=
  ⟨by rw [PyData.showable]; exact h.sh, by rw [PyData.hasDict]; exact h.hd, by rw [PyData.depth]; exact Nat.succ_le_succ h.dp, by rw [PyData.leavesShort]; exact h.lv, by rw [PyData.bulk]; exact h.bk⟩
theorem RD.tup {ds : List PyData} {k B : Nat} (h : RDA ds k B) : RD (.tuple ds) (k + 1) B :=
  ⟨by rw [PyData.showable]; exact h.sh, by rw [PyData.hasDict]; exact h.hd, by rw [PyData.depth]; exact Nat.succ_le_succ h.dp, by rw [PyData.leavesShort]; exact h.lv, by rw [PyData.bulk]; exact h.bk⟩
theorem RD.int {x : Int} {k B : Nat} (h : x.natAbs < 2 ^ 120) : RD (.int x) k B := by
  obtain ⟨h1, h2, h3, h4, h5⟩ := showAll_ints (l := [x]) fun y hy => by rw [List.mem_singleton.mp hy]; exact h
  rw [List.map_cons, List.map_nil] at h1 h2 h4
  refine ⟨?_, rfl, Nat.zero_le _, ?_, Nat.zero_le _⟩
  · rw [PyData.showableAll, Bool.and_eq_true] at h1
    exact h1.1
  · rw [PyData.leavesShortAll, Bool.and_eq_true] at h4
    exact h4.1
theorem RD.bool {x : Bool} {k B : Nat} : RD (.bool x) k B := ⟨rfl, rfl, Nat.zero_le _, rfl, Nat.zero_le _⟩
theorem RD.none {k B : Nat} : RD .none k B := ⟨rfl, rfl, Nat.zero_le _, rfl, Nat.zero_le _⟩
theorem RD.li {l : List Int} {k B : Nat} (h : ∀ x ∈ l, x.natAbs < 2 ^ 120) (hl : l.length ≤ B) : RD (.list (l.map .int)) (k + 1) B := by
  have z := RDA.map (f := PyData.int) (l := l) (k := k) (B := 0) fun x hx => RD.int (h x hx)
  exact (RD.list z).mono (Nat.le_refl _) (by omega)
theorem RD.fin {d : PyData} {k B : Nat} (h : RD d k B) (hk : k ≤ 60) (hB : B ≤ 80000) : PyData.showable d = true ∧ PyData.hasDict d = false ∧ PyData.depth d ≤ 60 ∧ (PyData.shown d).length ≤ sizeLine := by
  refine ⟨h.sh, h.hd, Nat.le_trans h.dp hk, ?_⟩
  have e := PyData.shown_le_bulk 200 (by decide) d h.lv
  have b := h.bk
  have m : (200 + 2) * d.bulk ≤ 202 * 80000 := Nat.mul_le_mul (by decide) (by omega)
  rw [sizeLine_eq]
  omega
end PL

/-! plain facts about rows, commands, scripts: counts of small values among the first places -/
namespace PL
open PySem PySem.W L2

/-! ### 43. commands and scripts as data -/
abbrev ct (c : Int × Int) : PyData := .tuple [.int c.1, .int c.2]
abbrev lc (cs : List (Int × Int)) : PyData := .list (cs.map ct)
theorem okd_lc (cs : List (Int × Int)) : okd (.list (cs.map ct)) = true := okd_datum (α := List (Int × Int)) (by decide) cs
theorem okd_ct (c : Int × Int) : okd (ct c) = true := okd_datum (α := Int × Int) (by decide) c
theorem eqv_ct (c d : Int × Int) : PyData.eqv (ct c) (ct d) = decide (c = d) := Datum.eqv c d
theorem eqv_lc_nil (cs : List (Int × Int)) : PyData.eqv (.list (cs.map ct)) (.list []) = decide (cs = []) := Datum.eqv cs []
theorem eqv_lc (cs ds : List (Int × Int)) : PyData.eqv (.list (cs.map ct)) (.list (ds.map ct)) = decide (cs = ds) := Datum.eqv cs ds
def Fit (n : Nat) (c : Int × Int) : Prop := 1 ≤ c.1 ∧ c.1 ≤ c.2 ∧ c.2 ≤ n
def stretch (row : List Int) (c : Int × Int) : List Int := row.take (c.1 - 1).toNat ++ sortI ((row.take c.2.toNat).drop (c.1 - 1).toNat) ++ row.drop c.2.toNat
def runs (row : List Int) (cs : List (Int × Int)) : List Int := cs.foldl stretch row
theorem cut_parts {c : Int × Int} (row : List Int) (h : 1 ≤ c.1 ∧ c.1 ≤ c.2) : row.take (c.1 - 1).toNat ++ (row.take c.2.toNat).drop (c.1 - 1).toNat ++ row.drop c.2.toNat = row := by
  have e1 : row.take (c.1 - 1).toNat = (row.take c.2.toNat).take (c.1 - 1).toNat := by rw [List.take_take, Nat.min_eq_left (by omega)]
  rw [e1, List.take_append_drop, List.take_append_drop]
theorem stretch_perm {row : List Int} {c : Int × Int} (h : 1 ≤ c.1 ∧ c.1 ≤ c.2) : (stretch row c).Perm row := by
  refine List.Perm.trans ?_ (List.Perm.of_eq (cut_parts row h))
  exact List.Perm.append_right _ (List.Perm.append_left _ (sortI_perm _))
theorem runs_perm {n : Nat} : ∀ {cs : List (Int × Int)} {row : List Int}, (∀ c ∈ cs, Fit n c) → (runs row cs).Perm row
  | [], _, _ => List.Perm.refl _
  | c :: cs, row, h => by
    have h1 := h c List.mem_cons_self
    exact (runs_perm (cs := cs) (row := stretch row c) fun x hx => h x (List.mem_cons_of_mem _ hx)).trans (stretch_perm ⟨h1.1, h1.2.1⟩)
theorem runs_nil (row : List Int) : runs row [] = row := rfl
theorem runs_cons (row : List Int) (c : Int × Int) (cs : List (Int × Int)) : runs row (c :: cs) = runs (stretch row c) cs := rfl
theorem runs_app (row : List Int) (a b : List (Int × Int)) : runs row (a ++ b) = runs (runs row a) b := List.foldl_append
theorem runs_one (row : List Int) (c : Int × Int) : runs row [c] = stretch row c := rfl
theorem runs_step {row : List Int} {cs : List (Int × Int)} {i : Nat} {c : Int × Int} (h : cs[i]? = some c) : stretch (runs row (cs.take i)) c = runs row (cs.take (i + 1)) := by
  rw [List.take_add_one, h, runs_app]
  rfl
theorem runs_len {n : Nat} {cs : List (Int × Int)} {row : List Int} (h : ∀ c ∈ cs, Fit n c) : (runs row cs).length = row.length := (runs_perm h).length_eq
theorem stretch_len {row : List Int} {c : Int × Int} (h : 1 ≤ c.1 ∧ c.1 ≤ c.2) : (stretch row c).length = row.length := (stretch_perm h).length_eq
theorem fit_take {n : Nat} {cs : List (Int × Int)} (h : ∀ c ∈ cs, Fit n c) (i : Nat) : ∀ c ∈ cs.take i, Fit n c := fun c hc => h c (List.mem_of_mem_take hc)
theorem fit_drop {n : Nat} {cs : List (Int × Int)} (h : ∀ c ∈ cs, Fit n c) (i : Nat) : ∀ c ∈ cs.drop i, Fit n c := fun c hc => h c (List.mem_of_mem_drop hc)
theorem fit_app {n : Nat} {as bs : List (Int × Int)} (h : ∀ c ∈ as, Fit n c) (h2 : ∀ c ∈ bs, Fit n c) : ∀ c ∈ as ++ bs, Fit n c := fun c hc => (List.mem_append.mp hc).elim (h c) (h2 c)
theorem fit_nil {n : Nat} : ∀ c ∈ ([] : List (Int × Int)), Fit n c := fun c hc => by cases hc
theorem fit_cons {n : Nat} {c : Int × Int} {cs : List (Int × Int)} (h : Fit n c) (h2 : ∀ c ∈ cs, Fit n c) : ∀ d ∈ c :: cs, Fit n d := fun d hd => (List.mem_cons.mp hd).elim (fun e => e ▸ h) (h2 d)
theorem fit_one {n : Nat} {c : Int × Int} (h : Fit n c) : ∀ d ∈ [c], Fit n d := fit_cons h fit_nil

/-! ### 44. the whole numbers from 1 on -/
def deck (wd : Nat) : List Int := (List.range wd).map fun i : Nat => (i : Int) + 1
theorem deck_mem {n : Nat} {v : Int} : v ∈ deck n ↔ 1 ≤ v ∧ v ≤ n := by
  simp only [deck, List.mem_map, List.mem_range]
  constructor
  · rintro ⟨i, h, rfl⟩
    omega
  · rintro ⟨h1, h2⟩
    exact ⟨(v - 1).toNat, by omega, by omega⟩
theorem deck_len (n : Nat) : (deck n).length = n := by simp [deck]
theorem deck_get {n i : Nat} (h : i < n) : (deck n)[i]? = some ((i : Int) + 1) := by
  unfold deck
  rw [List.getElem?_map, List.getElem?_range h]
  rfl
theorem deck_nodup (wd : Nat) : (deck wd).Nodup := by
  unfold deck
  rw [List.nodup_iff_pairwise_ne, List.pairwise_map]
  exact List.Pairwise.imp (fun h e => h (by omega)) List.nodup_range
theorem deck_sorted (n : Nat) : (deck n).Pairwise (· ≤ ·) := by
  unfold deck
  rw [List.pairwise_map]
  exact List.Pairwise.imp (fun h => by omega) List.pairwise_lt_range
/-- an arrangement of n -/
abbrev Arr (n : Nat) (p : List Int) : Prop := p.Perm (deck n)
theorem Arr.len {n : Nat} {p : List Int} (h : Arr n p) : p.length = n := by rw [h.length_eq, deck_len]
theorem Arr.mem {n : Nat} {p : List Int} (h : Arr n p) {v : Int} : v ∈ p ↔ 1 ≤ v ∧ v ≤ n := by rw [h.mem_iff, deck_mem]
theorem Arr.nodup {n : Nat} {p : List Int} (h : Arr n p) : p.Nodup := h.nodup_iff.mpr (deck_nodup n)
/-- numbers that are not great -/
def Small (p : List Int) : Prop := ∀ x ∈ p, x.natAbs < 2 ^ 120
theorem Small.perm {p q : List Int} (h : Small p) (e : q.Perm p) : Small q := fun x hx => h x (e.mem_iff.mp hx)
theorem deck_small {wd : Nat} (hw : wd ≤ 1000) {p : List Int} (h : p.Perm (deck wd)) : Small p := fun x hx => by
  have := (Arr.mem h).mp hx
  omega
/-- the falling row -/
def falls (n : Nat) : List Int := (deck n).reverse
theorem falls_perm (n : Nat) : (falls n).Perm (deck n) := List.reverse_perm _
theorem falls_len (n : Nat) : (falls n).length = n := by rw [(falls_perm n).length_eq, deck_len]
theorem down_falls (n : Nat) : rangeD (n : Int) (-1) ((n : Int) - 0).toNat = (falls n).map PyData.int := by
  rw [rangeD_map, show ((n : Int) - 0).toNat = n by omega]
  congr 1
  unfold falls deck
  refine List.ext_getElem (by simp) fun i h1 h2 => ?_
  simp only [List.length_map, List.length_range] at h1
  rw [List.getElem_map, List.getElem_range, List.getElem_reverse, List.getElem_map, List.getElem_range]
  simp only [List.length_map, List.length_range]
  omega
theorem up_deck (n : Nat) : rangeD 1 1 ((n : Int) + 1 - 1).toNat = (deck n).map PyData.int := by
  rw [rangeD_map, show ((n : Int) + 1 - 1).toNat = n by omega]
  congr 1
  unfold deck
  exact List.map_congr_left fun i _ => by omega
theorem perm_erase {α : Type} {xs : List α} {i : Nat} (h : i < xs.length) : ([xs[i]] ++ xs.eraseIdx i).Perm xs := by
  rw [List.eraseIdx_eq_take_drop_succ]
  have e : xs = xs.take i ++ (xs[i] :: xs.drop (i + 1)) := by
    rw [← List.drop_eq_getElem_cons h, List.take_append_drop]
  refine List.Perm.trans ?_ (List.Perm.of_eq e.symm)
  show (xs[i] :: (xs.take i ++ xs.drop (i + 1))).Perm _
  exact List.perm_middle.symm

/-! ### 45. how many are at most v among the first p -/
def cntv (l : List Int) (v : Int) : Nat := l.countP fun x => decide (x ≤ v)
def zc (row : List Int) (v : Int) (p : Nat) : Nat := cntv (row.take p) v
theorem cntv_nil (v : Int) : cntv [] v = 0 := rfl
theorem cntv_cons (x : Int) (l : List Int) (v : Int) : cntv (x :: l) v = cntv l v + (if x ≤ v then 1 else 0) := by
  unfold cntv
  rw [List.countP_cons]
  simp
theorem cntv_app (a b : List Int) (v : Int) : cntv (a ++ b) v = cntv a v + cntv b v := List.countP_append
theorem cntv_perm {a b : List Int} (h : a.Perm b) (v : Int) : cntv a v = cntv b v := h.countP_eq _
theorem cntv_le (l : List Int) (v : Int) : cntv l v ≤ l.length := List.countP_le_length
theorem cntv_mono (l : List Int) {v w : Int} (h : v ≤ w) : cntv l v ≤ cntv l w := by
  unfold cntv
  exact List.countP_mono_left fun x _ hx => decide_eq_true (Int.le_trans (of_decide_eq_true hx) h)
theorem zc_0 (row : List Int) (v : Int) : zc row v 0 = 0 := by unfold zc; rw [List.take_zero]; rfl
theorem zc_succ {row : List Int} {p : Nat} {x : Int} (v : Int) (h : row[p]? = some x) : zc row v (p + 1) = zc row v p + (if x ≤ v then 1 else 0) := by
  unfold zc
  rw [List.take_add_one, h, cntv_app]
  show _ + cntv [x] v = _
  rw [cntv_cons, cntv_nil]
  omega
theorem zc_all {row : List Int} {p : Nat} (v : Int) (h : row.length ≤ p) : zc row v p = cntv row v := by unfold zc; rw [List.take_of_length_le h]
theorem zc_one (row : List Int) (v : Int) (p : Nat) : zc row v p ≤ zc row v (p + 1) ∧ zc row v (p + 1) ≤ zc row v p + 1 := by
  by_cases h : p < row.length
  · rw [zc_succ v (List.getElem?_eq_getElem h)]
    split <;> omega
  · rw [zc_all v (show row.length ≤ p by omega), zc_all v (show row.length ≤ p + 1 by omega)]
    omega
/-- counts that grow by at most one -/
structure Zf (z : Nat → Nat) : Prop where
  z0 : z 0 = 0
  st : ∀ p, z p ≤ z (p + 1) ∧ z (p + 1) ≤ z p + 1
theorem Zf.to {z : Nat → Nat} (h : Zf z) {p q : Nat} (e : p ≤ q) : z p ≤ z q ∧ z q ≤ z p + (q - p) := by
  obtain ⟨k, rfl⟩ : ∃ k, q = p + k := ⟨q - p, by omega⟩
  clear e
  induction k with
  | zero => exact ⟨Nat.le_refl _, Nat.le_add_right _ _⟩
  | succ k ih =>
    have := h.st (p + k)
    rw [show p + (k + 1) = p + k + 1 by omega]
    omega
theorem Zf.le {z : Nat → Nat} (h : Zf z) (p : Nat) : z p ≤ p := by
  have := h.to (Nat.zero_le p)
  rw [h.z0] at this
  omega
theorem zc_zf (row : List Int) (v : Int) : Zf (zc row v) := ⟨zc_0 row v, zc_one row v⟩
theorem zc_ext {a b : List Int} (hl : a.length = b.length) (h : ∀ v p, p ≤ a.length → zc a v p = zc b v p) : a = b := by
  refine List.ext_getElem hl fun i h1 h2 => ?_
  have k : ∀ v, (a[i] ≤ v ↔ b[i] ≤ v) := fun v => by
    have e1 := zc_succ v (List.getElem?_eq_getElem h1)
    have e2 := zc_succ v (List.getElem?_eq_getElem h2)
    have q1 := h v i (by omega)
    have q2 := h v (i + 1) (by omega)
    constructor
    · intro z
      rw [if_pos z] at e1
      by_cases y : b[i] ≤ v
      · exact y
      · rw [if_neg y] at e2; omega
    · intro z
      rw [if_pos z] at e2
      by_cases y : a[i] ≤ v
      · exact y
      · rw [if_neg y] at e1; omega
  have := (k b[i]).mpr (Int.le_refl _)
  have := (k a[i]).mp (Int.le_refl _)
  omega
theorem take_sorted {s : List Int} (v : Int) (h : s.Pairwise (· ≤ ·)) : ∀ p, zc s v p = min p (cntv s v) := by
  induction s with
  | nil => intro p; unfold zc; rw [List.take_nil, cntv_nil]; omega
  | cons x s ih =>
    intro p
    obtain ⟨h1, h2⟩ := List.pairwise_cons.mp h
    cases p with
    | zero => rw [zc_0]; omega
    | succ p =>
      unfold zc at ih ⊢
      rw [List.take_succ_cons, cntv_cons, cntv_cons, ih h2]
      by_cases e : x ≤ v
      · rw [if_pos e]; omega
      · rw [if_neg e]
        have z : cntv s v = 0 := by
          unfold cntv
          rw [List.countP_eq_zero]
          intro y hy
          have := h1 y hy
          simp
          omega
        omega
theorem take_falling {s : List Int} (v : Int) (h : s.Pairwise (· ≥ ·)) : ∀ p, p ≤ s.length → zc s v p = p - (s.length - cntv s v) := by
  induction s with
  | nil => intro p hp; unfold zc; rw [List.take_nil, cntv_nil]; simp at hp; omega
  | cons x s ih =>
    intro p hp
    obtain ⟨h1, h2⟩ := List.pairwise_cons.mp h
    cases p with
    | zero => rw [zc_0]; omega
    | succ p =>
      rw [List.length_cons] at hp ⊢
      have := cntv_le s v
      unfold zc at ih ⊢
      rw [List.take_succ_cons, cntv_cons, cntv_cons, ih h2 p (by omega)]
      by_cases e : x ≤ v
      · rw [if_pos e]
        have z : cntv s v = s.length := by
          unfold cntv
          rw [List.countP_eq_length]
          intro y hy
          have := h1 y hy
          simp
          omega
        omega
      · rw [if_neg e]; omega

/-! ### 46. commands on counts -/
/-- what sorting the places a+1 .. b does to counts -/
def cz (a b : Nat) (z : Nat → Nat) : Nat → Nat := fun p => if p ≤ a ∨ b ≤ p then z p else min (z b) (z a + (p - a))
/-- what sorting them falling does -/
def lz (a b : Nat) (z : Nat → Nat) : Nat → Nat := fun p => if p ≤ a ∨ b ≤ p then z p else max (z a) (z b - (b - p))
def lo (c : Int × Int) : Nat := (c.1 - 1).toNat
def hi (c : Int × Int) : Nat := c.2.toNat
theorem Fit.le {n : Nat} {c : Int × Int} (h : Fit n c) : lo c < hi c ∧ hi c ≤ n := by
  obtain ⟨h1, h2, h3⟩ := h
  unfold lo hi
  omega
theorem cz_in {a b p : Nat} {z : Nat → Nat} (h : Zf z) (h1 : a ≤ p) (h2 : p ≤ b) : cz a b z p = min (z b) (z a + (p - a)) := by
  unfold cz
  split
  · rename_i e
    rcases e with e | e
    · have e : p = a := by omega
      subst e
      have := h.to h2
      omega
    · have e : p = b := by omega
      subst e
      have := h.to h1
      omega
  · rfl
theorem cz_out {a b p : Nat} {z : Nat → Nat} (h1 : p ≤ a ∨ b ≤ p) : cz a b z p = z p := if_pos h1
theorem lz_out {a b p : Nat} {z : Nat → Nat} (h1 : p ≤ a ∨ b ≤ p) : lz a b z p = z p := if_pos h1
theorem lz_in {a b p : Nat} {z : Nat → Nat} (h : Zf z) (h1 : a ≤ p) (h2 : p ≤ b) : lz a b z p = max (z a) (z b - (b - p)) := by
  unfold lz
  split
  · rename_i e
    rcases e with e | e
    · have e : p = a := by omega
      subst e
      have := h.to h2
      omega
    · have e : p = b := by omega
      subst e
      have := h.to h1
      omega
  · rfl
theorem cz_zf {a b : Nat} {z : Nat → Nat} (hab : a ≤ b) (h : Zf z) : Zf (cz a b z) := by
  refine ⟨by rw [cz_out (.inl (Nat.zero_le _))]; exact h.z0, fun p => ?_⟩
  by_cases h1 : p < a
  · rw [cz_out (.inl (by omega)), cz_out (.inl (by omega))]; exact h.st p
  · by_cases h2 : b ≤ p
    · rw [cz_out (.inr (by omega)), cz_out (.inr (by omega))]; exact h.st p
    · rw [cz_in h (by omega) (by omega), cz_in h (by omega) (by omega)]; omega
theorem lz_zf {a b : Nat} {z : Nat → Nat} (hab : a ≤ b) (h : Zf z) : Zf (lz a b z) := by
  refine ⟨by rw [lz_out (.inl (Nat.zero_le _))]; exact h.z0, fun p => ?_⟩
  by_cases h1 : p < a
  · rw [lz_out (.inl (by omega)), lz_out (.inl (by omega))]; exact h.st p
  · by_cases h2 : b ≤ p
    · rw [lz_out (.inr (by omega)), lz_out (.inr (by omega))]; exact h.st p
    · rw [lz_in h (by omega) (by omega), lz_in h (by omega) (by omega)]; omega
theorem cz_mono {a b : Nat} {z w : Nat → Nat} (h : ∀ p, z p ≤ w p) (p : Nat) : cz a b z p ≤ cz a b w p := by
  unfold cz
  split
  · exact h p
  · have := h a
    have := h b
    omega
theorem cz_ge {a b : Nat} {z : Nat → Nat} (h : Zf z) (p : Nat) : z p ≤ cz a b z p := by
  unfold cz
  split
  · exact Nat.le_refl _
  · have := h.to (show a ≤ p by omega)
    have := h.to (show p ≤ b by omega)
    omega
theorem cz_idem {a b : Nat} {z : Nat → Nat} (hab : a ≤ b) (h : Zf z) (p : Nat) : cz a b (cz a b z) p = cz a b z p := by
  by_cases h1 : p ≤ a ∨ b ≤ p
  · rw [cz_out h1]
  · rw [cz_in (cz_zf hab h) (by omega) (by omega), cz_out (.inl (Nat.le_refl a)), cz_out (p := b) (.inr (Nat.le_refl b)), cz_in h (by omega) (by omega)]
theorem lz_mono {a b : Nat} {z w : Nat → Nat} (h : ∀ p, z p ≤ w p) (p : Nat) : lz a b z p ≤ lz a b w p := by
  unfold lz
  split
  · exact h p
  · have := h a
    have := h b
    omega
theorem lz_le {a b : Nat} {z : Nat → Nat} (h : Zf z) (p : Nat) : lz a b z p ≤ z p := by
  unfold lz
  split
  · exact Nat.le_refl _
  · have := h.to (show a ≤ p by omega)
    have := h.to (show p ≤ b by omega)
    omega
/-- sorting and sorting falling belong together -/
theorem cz_lz {a b : Nat} {z w : Nat → Nat} (hab : a ≤ b) (hz : Zf z) (hw : Zf w) : (∀ p, w p ≤ cz a b z p) ↔ (∀ p, lz a b w p ≤ z p) := by
  constructor
  · intro h p
    by_cases h1 : p ≤ a ∨ b ≤ p
    · rw [lz_out h1]
      have := h p
      rwa [cz_out h1] at this
    · rw [lz_in hw (by omega) (by omega)]
      have ha := h a
      rw [cz_out (.inl (Nat.le_refl a))] at ha
      have hb := h b
      rw [cz_out (.inr (Nat.le_refl b))] at hb
      have := hz.to (show a ≤ p by omega)
      have := hz.to (show p ≤ b by omega)
      omega
  · intro h p
    by_cases h1 : p ≤ a ∨ b ≤ p
    · rw [cz_out h1]
      have := h p
      rwa [lz_out h1] at this
    · rw [cz_in hz (by omega) (by omega)]
      have ha := h a
      rw [lz_out (.inl (Nat.le_refl a))] at ha
      have hb := h b
      rw [lz_out (.inr (Nat.le_refl b))] at hb
      have := hw.to (show a ≤ p by omega)
      have := hw.to (show p ≤ b by omega)
      omega
/-- a row with its places a+1 .. b put in order otherwise -/
theorem zc_mid {row s : List Int} {a b : Nat} (hab : a ≤ b) (hb : b ≤ row.length) (hs : s.Perm ((row.take b).drop a)) (v : Int) (p : Nat) :
    zc (row.take a ++ s ++ row.drop b) v p = if p ≤ a ∨ b ≤ p then zc row v p else zc row v a + zc s v (p - a) := by
  have ls : s.length = b - a := by rw [hs.length_eq, List.length_drop, List.length_take]; omega
  have la : (row.take a).length = a := by rw [List.length_take]; omega
  have e0 : row.take a ++ (row.take b).drop a = row.take b := by
    have : row.take a = (row.take b).take a := by rw [List.take_take, Nat.min_eq_left hab]
    rw [this, List.take_append_drop]
  unfold zc
  split
  · rename_i h
    rcases h with h | h
    · rw [List.append_assoc, List.take_append_of_le_length (by omega), List.take_take, Nat.min_eq_left h]
    · have lab : (row.take a ++ s).length = b := by rw [List.length_append, la, ls]; omega
      rw [List.take_append, lab, cntv_app, List.take_of_length_le (by omega), cntv_app, cntv_perm hs, ← cntv_app, e0]
      have e1 : row.take p = row.take b ++ (row.drop b).take (p - b) := by
        have : p = b + (p - b) := by omega
        rw [this, List.take_add, show b + (p - b) - b = p - b by omega]
      rw [e1, cntv_app]
  · rename_i h
    rw [List.take_append_of_le_length (by rw [List.length_append, la, ls]; omega), List.take_append, la, cntv_app, List.take_of_length_le (by omega)]
theorem mid_cnt {row : List Int} {a b : Nat} (hab : a ≤ b) (v : Int) : cntv ((row.take b).drop a) v = zc row v b - zc row v a := by
  have e0 : row.take a ++ (row.take b).drop a = row.take b := by
    have : row.take a = (row.take b).take a := by rw [List.take_take, Nat.min_eq_left hab]
    rw [this, List.take_append_drop]
  have e1 := congrArg (fun l => cntv l v) e0
  simp only [cntv_app] at e1
  unfold zc
  omega
theorem zc_stretch {row : List Int} {c : Int × Int} {n : Nat} (h : Fit n c) (hl : row.length = n) (v : Int) (p : Nat) : zc (stretch row c) v p = cz (lo c) (hi c) (zc row v) p := by
  have hh := h.le
  have := zc_mid (row := row) (a := lo c) (b := hi c) (s := sortI ((row.take (hi c)).drop (lo c))) (by omega) (by omega) (sortI_perm _) v p
  unfold stretch
  refine this.trans ?_
  unfold cz
  split
  · rfl
  · rename_i e
    rw [take_sorted v (sortI_sorted _), cntv_perm (sortI_perm _), mid_cnt (by omega)]
    have := (zc_zf row v).to (show lo c ≤ hi c by omega)
    omega
/-- the stretch sorted falling -/
def lift1 (row : List Int) (c : Int × Int) : List Int := row.take (c.1 - 1).toNat ++ (sortI ((row.take c.2.toNat).drop (c.1 - 1).toNat)).reverse ++ row.drop c.2.toNat
def lifts (row : List Int) (cs : List (Int × Int)) : List Int := cs.reverse.foldl lift1 row
theorem lift1_perm {row : List Int} {c : Int × Int} (h : 1 ≤ c.1 ∧ c.1 ≤ c.2) : (lift1 row c).Perm row := by
  refine List.Perm.trans ?_ (List.Perm.of_eq (cut_parts row h))
  exact List.Perm.append_right _ (List.Perm.append_left _ ((List.reverse_perm _).trans (sortI_perm _)))
theorem lift1_len {row : List Int} {c : Int × Int} (h : 1 ≤ c.1 ∧ c.1 ≤ c.2) : (lift1 row c).length = row.length := (lift1_perm h).length_eq
theorem zc_lift1 {row : List Int} {c : Int × Int} {n : Nat} (h : Fit n c) (hl : row.length = n) (v : Int) (p : Nat) : zc (lift1 row c) v p = lz (lo c) (hi c) (zc row v) p := by
  have hh := h.le
  have := zc_mid (row := row) (a := lo c) (b := hi c) (s := (sortI ((row.take (hi c)).drop (lo c))).reverse) (by omega) (by omega) ((List.reverse_perm _).trans (sortI_perm _)) v p
  unfold lift1
  refine this.trans ?_
  unfold lz
  split
  · rfl
  · rename_i e
    have ls : ((sortI ((row.take (hi c)).drop (lo c))).reverse).length = hi c - lo c := by rw [List.length_reverse, (sortI_perm _).length_eq, List.length_drop, List.length_take]; omega
    have sd : ((sortI ((row.take (hi c)).drop (lo c))).reverse).Pairwise (· ≥ ·) := List.pairwise_reverse.mpr ((sortI_sorted _).imp fun h => h)
    rw [take_falling v sd _ (by omega), ls, cntv_perm ((List.reverse_perm _).trans (sortI_perm _)), mid_cnt (by omega)]
    have := (zc_zf row v).to (show lo c ≤ hi c by omega)
    omega
end PL

namespace PL
open PySem PySem.W L2

/-! ### 47. scripts on counts -/
def czs (cs : List (Int × Int)) (z : Nat → Nat) : Nat → Nat := cs.foldl (fun z c => cz (lo c) (hi c) z) z
def lzs (cs : List (Int × Int)) (z : Nat → Nat) : Nat → Nat := cs.reverse.foldl (fun z c => lz (lo c) (hi c) z) z
theorem czs_cons (c : Int × Int) (cs : List (Int × Int)) (z : Nat → Nat) : czs (c :: cs) z = czs cs (cz (lo c) (hi c) z) := rfl
theorem czs_app (a b : List (Int × Int)) (z : Nat → Nat) : czs (a ++ b) z = czs b (czs a z) := List.foldl_append
theorem lzs_cons (c : Int × Int) (cs : List (Int × Int)) (z : Nat → Nat) : lzs (c :: cs) z = lz (lo c) (hi c) (lzs cs z) := by
  unfold lzs
  rw [List.reverse_cons, List.foldl_append]
  rfl
theorem lifts_cons (c : Int × Int) (cs : List (Int × Int)) (row : List Int) : lifts row (c :: cs) = lift1 (lifts row cs) c := by
  unfold lifts
  rw [List.reverse_cons, List.foldl_append]
  rfl
theorem lifts_nil (row : List Int) : lifts row [] = row := rfl
section
variable {n : Nat} {cs : List (Int × Int)}
theorem czs_zf : ∀ {cs : List (Int × Int)} {z : Nat → Nat}, (∀ c ∈ cs, Fit n c) → Zf z → Zf (czs cs z)
  | [], _, _, h => h
  | c :: cs, z, h, hz => by
    rw [czs_cons]
    exact czs_zf (fun x hx => h x (List.mem_cons_of_mem _ hx)) (cz_zf (Nat.le_of_lt (h c List.mem_cons_self).le.1) hz)
theorem lzs_zf : ∀ {cs : List (Int × Int)} {z : Nat → Nat}, (∀ c ∈ cs, Fit n c) → Zf z → Zf (lzs cs z)
  | [], _, _, h => h
  | c :: cs, z, h, hz => by
    rw [lzs_cons]
    exact lz_zf (Nat.le_of_lt (h c List.mem_cons_self).le.1) (lzs_zf (fun x hx => h x (List.mem_cons_of_mem _ hx)) hz)
theorem zc_runs : ∀ {cs : List (Int × Int)} {row : List Int}, (∀ c ∈ cs, Fit n c) → row.length = n → ∀ v, zc (runs row cs) v = czs cs (zc row v)
  | [], _, _, _, _ => rfl
  | c :: cs, row, h, hl, v => by
    have hc := h c List.mem_cons_self
    rw [runs_cons, czs_cons, zc_runs (cs := cs) (row := stretch row c) (fun x hx => h x (List.mem_cons_of_mem _ hx)) (by rw [stretch_len ⟨hc.1, hc.2.1⟩]; exact hl) v]
    congr 1
    funext p
    exact zc_stretch hc hl v p
theorem lifts_perm : ∀ {cs : List (Int × Int)} {row : List Int}, (∀ c ∈ cs, Fit n c) → (lifts row cs).Perm row
  | [], _, _ => List.Perm.refl _
  | c :: cs, row, h => by
    have hc := h c List.mem_cons_self
    rw [lifts_cons]
    exact (lift1_perm ⟨hc.1, hc.2.1⟩).trans (lifts_perm fun x hx => h x (List.mem_cons_of_mem _ hx))
theorem lifts_len {row : List Int} (h : ∀ c ∈ cs, Fit n c) : (lifts row cs).length = row.length := (lifts_perm h).length_eq
theorem zc_lifts : ∀ {cs : List (Int × Int)} {row : List Int}, (∀ c ∈ cs, Fit n c) → row.length = n → ∀ v, zc (lifts row cs) v = lzs cs (zc row v)
  | [], _, _, _, _ => rfl
  | c :: cs, row, h, hl, v => by
    have hc := h c List.mem_cons_self
    have h' : ∀ x ∈ cs, Fit n x := fun x hx => h x (List.mem_cons_of_mem _ hx)
    rw [lifts_cons, lzs_cons, ← zc_lifts h' hl v]
    funext p
    exact zc_lift1 hc ((lifts_len h').trans hl) v p
theorem czs_mono : ∀ {cs : List (Int × Int)} {z w : Nat → Nat}, (∀ p, z p ≤ w p) → ∀ p, czs cs z p ≤ czs cs w p
  | [], _, _, h, p => h p
  | c :: cs, z, w, h, p => by
    rw [czs_cons, czs_cons]
    exact czs_mono (fun q => cz_mono h q) p
theorem czs_ge : ∀ {cs : List (Int × Int)} {z : Nat → Nat}, (∀ c ∈ cs, Fit n c) → Zf z → ∀ p, z p ≤ czs cs z p
  | [], _, _, _, _ => Nat.le_refl _
  | c :: cs, z, h, hz, p => by
    rw [czs_cons]
    have z1 := cz_zf (Nat.le_of_lt (h c List.mem_cons_self).le.1) hz
    exact Nat.le_trans (cz_ge hz p) (czs_ge (fun x hx => h x (List.mem_cons_of_mem _ hx)) z1 p)
theorem czs_congr : ∀ {cs : List (Int × Int)} {z w : Nat → Nat}, (∀ c ∈ cs, Fit n c) → (∀ p, p ≤ n → z p = w p) → ∀ p, p ≤ n → czs cs z p = czs cs w p
  | [], _, _, _, e, p, hp => e p hp
  | c :: cs, z, w, h, e, p, hp => by
    rw [czs_cons, czs_cons]
    have hc := (h c List.mem_cons_self).le
    refine czs_congr (fun x hx => h x (List.mem_cons_of_mem _ hx)) (fun q hq => ?_) p hp
    unfold cz
    rw [e q hq, e _ hc.2, e (lo c) (by omega)]
/-- forward and backward -/
theorem czs_lzs : ∀ {cs : List (Int × Int)} {z w : Nat → Nat}, (∀ c ∈ cs, Fit n c) → Zf z → Zf w → ((∀ p, w p ≤ czs cs z p) ↔ (∀ p, lzs cs w p ≤ z p))
  | [], _, _, _, _, _ => Iff.rfl
  | c :: cs, z, w, h, hz, hw => by
    have hc := Nat.le_of_lt (h c List.mem_cons_self).le.1
    have h' : ∀ x ∈ cs, Fit n x := fun x hx => h x (List.mem_cons_of_mem _ hx)
    rw [czs_cons, lzs_cons, czs_lzs h' (cz_zf hc hz) hw]
    exact cz_lz hc hz (lzs_zf h' hw)

/-! a least sum -/
def Mp' (n : Nat) (z y : Nat → Nat) (Y : Nat → Nat → Nat) : Prop := ∀ p, p ≤ n → (∀ t, t ≤ n → y p ≤ z t + Y t p) ∧ ∃ t, t ≤ n ∧ y p = z t + Y t p
def et (t p : Nat) : Nat := p - t
theorem et_zf (t : Nat) : Zf (et t) := ⟨by unfold et; omega, fun p => by unfold et; omega⟩
theorem mp_start {z : Nat → Nat} (hz : Zf z) : Mp' n z z et := fun p hp => by
  refine ⟨fun t _ => ?_, p, hp, by unfold et; omega⟩
  unfold et
  by_cases h : t ≤ p
  · exact (hz.to h).2
  · have := (hz.to (show p ≤ t by omega)).1
    omega
theorem mp_step {z y : Nat → Nat} {Y : Nat → Nat → Nat} {a b : Nat} (hab : a ≤ b) (hb : b ≤ n) (hy : Zf y) (hY : ∀ t, Zf (Y t)) (m : Mp' n z y Y) : Mp' n z (cz a b y) fun t => cz a b (Y t) := fun p hp => by
  by_cases h : p ≤ a ∨ b ≤ p
  · have := m p hp
    simp only [cz_out h]
    exact this
  · have h1 : a ≤ p := by omega
    have h2 : p ≤ b := by omega
    obtain ⟨ma, ta, hta, ea⟩ := m a (by omega)
    obtain ⟨mb, tb, htb, eb⟩ := m b hb
    have up : ∀ t, t ≤ n → cz a b y p ≤ z t + cz a b (Y t) p := fun t ht => by
      rw [cz_in hy h1 h2, cz_in (hY t) h1 h2]
      have := ma t ht
      have := mb t ht
      omega
    refine ⟨up, ?_⟩
    by_cases q : y b ≤ y a + (p - a)
    · refine ⟨tb, htb, ?_⟩
      show _ = z tb + cz a b (Y tb) p
      have := up tb htb
      rw [cz_in hy h1 h2, cz_in (hY tb) h1 h2] at *
      omega
    · refine ⟨ta, hta, ?_⟩
      show _ = z ta + cz a b (Y ta) p
      have := up ta hta
      rw [cz_in hy h1 h2, cz_in (hY ta) h1 h2] at *
      omega
theorem mp_all {z : Nat → Nat} : ∀ {cs : List (Int × Int)} {y : Nat → Nat} {Y : Nat → Nat → Nat}, (∀ c ∈ cs, Fit n c) → Zf y → (∀ t, Zf (Y t)) → Mp' n z y Y → Mp' n z (czs cs y) fun t => czs cs (Y t)
  | [], _, _, _, _, _, m => m
  | c :: cs, y, Y, h, hy, hY, m => by
    have hc := (h c List.mem_cons_self).le
    simp only [czs_cons]
    exact mp_all (fun x hx => h x (List.mem_cons_of_mem _ hx)) (cz_zf (by omega) hy) (fun t => cz_zf (by omega) (hY t)) (mp_step (by omega) hc.2 hy hY m)
theorem czs_mp {z : Nat → Nat} (h : ∀ c ∈ cs, Fit n c) (hz : Zf z) : Mp' n z (czs cs z) fun t => czs cs (et t) := mp_all h hz et_zf (mp_start hz)

/-! the falling row -/
theorem cntv_deck (n v : Nat) : cntv (deck n) v = min v n := by
  induction n with
  | zero => show cntv [] _ = _; rw [cntv_nil]; omega
  | succ n ih =>
    have : deck (n + 1) = deck n ++ [(n : Int) + 1] := by unfold deck; rw [List.range_succ, List.map_append]; rfl
    rw [this, cntv_app, ih, cntv_cons, cntv_nil]
    split <;> omega
theorem cntv_deck_neg {n : Nat} {v : Int} (h : v ≤ 0) : cntv (deck n) v = 0 := by
  have := cntv_mono (deck n) h
  have e := cntv_deck n 0
  have e2 : ((0 : Nat) : Int) = 0 := rfl
  rw [e2] at e
  omega
theorem cntv_arr {p : List Int} (h : Arr n p) (v : Nat) : cntv p v = min v n := by rw [cntv_perm h, cntv_deck]
theorem falls_sorted (n : Nat) : (falls n).Pairwise (· ≥ ·) := List.pairwise_reverse.mpr ((deck_sorted n).imp fun h => h)
theorem zc_falls {t p : Nat} (ht : t ≤ n) (hp : p ≤ n) : zc (falls n) ((n - t : Nat) : Int) p = et t p := by
  rw [take_falling _ (falls_sorted n) p (by rw [falls_len]; exact hp), falls_len, cntv_perm (falls_perm n), cntv_deck]
  unfold et
  omega
theorem zc_deck {v p : Nat} (hv : v ≤ n) : zc (deck n) (v : Int) p = min p v := by
  rw [take_sorted _ (deck_sorted n), cntv_deck]
  omega
/-- the table of an effect -/
theorem zc_eff {t p : Nat} (h : ∀ c ∈ cs, Fit n c) (ht : t ≤ n) (hp : p ≤ n) : zc (runs (falls n) cs) ((n - t : Nat) : Int) p = czs cs (et t) p := by
  rw [zc_runs h (falls_len n)]
  exact czs_congr h (fun q hq => zc_falls ht hq) p hp
/-- a row after a script, by the script's effect -/
theorem zc_res {row : List Int} (h : ∀ c ∈ cs, Fit n c) (hl : row.length = n) (v : Int) : Mp' n (zc row v) (zc (runs row cs) v) fun t => zc (runs (falls n) cs) ((n - t : Nat) : Int) := fun p hp => by
  have m := czs_mp h (zc_zf row v) p hp
  rw [zc_runs h hl]
  refine ⟨fun t ht => ?_, ?_⟩
  · show _ ≤ _ + zc (runs (falls n) cs) ((n - t : Nat) : Int) p
    rw [zc_eff h ht hp]
    exact m.1 t ht
  · obtain ⟨t, ht, e⟩ := m.2
    refine ⟨t, ht, ?_⟩
    show _ = _ + zc (runs (falls n) cs) ((n - t : Nat) : Int) p
    rw [zc_eff h ht hp]
    exact e
theorem mp_unique {z y y' : Nat → Nat} {Y : Nat → Nat → Nat} (m : Mp' n z y Y) (m' : Mp' n z y' Y) {p : Nat} (hp : p ≤ n) : y p = y' p := by
  obtain ⟨a, t, ht, e⟩ := m p hp
  obtain ⟨a', t', ht', e'⟩ := m' p hp
  have := a t' ht'
  have := a' t ht
  omega
/-- two scripts of one effect make the same of every row -/
theorem runs_same {a b : List (Int × Int)} {row : List Int} (ha : ∀ c ∈ a, Fit n c) (hb : ∀ c ∈ b, Fit n c) (hl : row.length = n) (e : runs (falls n) a = runs (falls n) b) : runs row a = runs row b := by
  refine zc_ext (by rw [runs_len ha, runs_len hb]) fun v p hp => ?_
  rw [runs_len ha, hl] at hp
  have m := zc_res ha hl v
  rw [e] at m
  exact mp_unique m (zc_res hb hl v) hp

/-! ### 48. at most -/
def below (f s : List Int) : Prop := ∀ v p, zc s v p ≤ zc f v p
theorem below_refl (f : List Int) : below f f := fun _ _ => Nat.le_refl _
theorem below_trans {f g s : List Int} (h : below f g) (k : below g s) : below f s := fun v p => Nat.le_trans (k v p) (h v p)
theorem below_antisymm {f s : List Int} (hl : f.length = s.length) (h : below f s) (k : below s f) : f = s := zc_ext hl fun v p _ => Nat.le_antisymm (k v p) (h v p)
theorem below_runs {f s : List Int} (h : ∀ c ∈ cs, Fit n c) (lf : f.length = n) (ls : s.length = n) (b : below f s) : below (runs f cs) (runs s cs) := fun v p => by
  rw [zc_runs h lf, zc_runs h ls]
  exact czs_mono (b v) p
theorem runs_below {f : List Int} (h : ∀ c ∈ cs, Fit n c) (lf : f.length = n) : below (runs f cs) f := fun v p => by
  rw [zc_runs h lf]
  exact czs_ge h (zc_zf f v) p
theorem below_lifts {f s : List Int} (h : ∀ c ∈ cs, Fit n c) (lf : f.length = n) (ls : s.length = n) : below (runs f cs) s ↔ below f (lifts s cs) := by
  unfold below
  refine forall_congr' fun v => ?_
  rw [zc_runs h lf, zc_lifts h ls]
  exact czs_lzs h (zc_zf f v) (zc_zf s v)
theorem below_eff {a b : List (Int × Int)} {row : List Int} (ha : ∀ c ∈ a, Fit n c) (hb : ∀ c ∈ b, Fit n c) (hl : row.length = n) (e : below (runs (falls n) a) (runs (falls n) b)) : below (runs row a) (runs row b) := fun v p => by
  have go : ∀ p, p ≤ n → zc (runs row b) v p ≤ zc (runs row a) v p := fun p hp => by
    obtain ⟨_, t, ht, et⟩ := zc_res ha hl v p hp
    obtain ⟨k, _⟩ := zc_res hb hl v p hp
    have := k t ht
    dsimp only at et this
    have := e ((n - t : Nat) : Int) p
    omega
  by_cases hp : p ≤ n
  · exact go p hp
  · have := go n (Nat.le_refl n)
    rw [zc_all v (show (runs row a).length ≤ p by rw [runs_len ha]; omega), zc_all v (show (runs row b).length ≤ p by rw [runs_len hb]; omega)]
    rwa [zc_all v (show (runs row a).length ≤ n by rw [runs_len ha]; omega), zc_all v (show (runs row b).length ≤ n by rw [runs_len hb]; omega)] at this
theorem zc_low {p : List Int} (h : Arr n p) {v : Int} (hv : v ≤ 0) (q : Nat) : zc p v q = 0 := by
  have e : cntv p v = 0 := by rw [cntv_perm h, cntv_deck_neg hv]
  by_cases hq : q ≤ p.length
  · have := ((zc_zf p v).to hq).1
    rw [zc_all v (Nat.le_refl p.length)] at this
    omega
  · rw [zc_all v (by omega)]; exact e
theorem zc_high {p : List Int} (h : Arr n p) {v : Int} (hv : n ≤ v) (q : Nat) : zc p v q = min q n := by
  unfold zc
  unfold cntv
  rw [List.countP_eq_length.mpr fun x hx => ?_, List.length_take, h.len]
  have := (h.mem.mp (List.mem_of_mem_take hx)).2
  exact decide_eq_true (by omega)
theorem below_arr {f s : List Int} (hf : Arr n f) (hs : Arr n s) (k : ∀ v p : Nat, v ≤ n → p ≤ n → zc s v p ≤ zc f v p) : below f s := fun v p => by
  by_cases h1 : v ≤ 0
  · rw [zc_low hf h1, zc_low hs h1]; exact Nat.le_refl _
  · by_cases h2 : (n : Int) ≤ v
    · rw [zc_high hf h2, zc_high hs h2]; exact Nat.le_refl _
    · obtain ⟨w, rfl⟩ : ∃ w : Nat, v = w := ⟨v.toNat, by omega⟩
      by_cases hp : p ≤ n
      · exact k w p (by omega) hp
      · rw [zc_all (row := f) _ (by rw [hf.len]; omega), zc_all (row := s) _ (by rw [hs.len]; omega), cntv_arr hf, cntv_arr hs]
        exact Nat.le_refl _
theorem below_falls {f : List Int} (hf : Arr n f) : below f (falls n) := below_arr hf (falls_perm n) fun v p hv hp => by
  have := zc_falls (n := n) (t := n - v) (by omega) hp
  rw [show n - (n - v) = v by omega] at this
  rw [this]
  unfold et
  have h1 := (zc_zf f (v : Int)).to hp
  rw [zc_all _ (show f.length ≤ n by rw [hf.len]; exact Nat.le_refl _), cntv_arr hf] at h1
  omega
theorem deck_below {f : List Int} (hf : Arr n f) : below (deck n) f := below_arr (List.Perm.refl _) hf fun v p hv hp => by
  rw [zc_deck hv]
  have h1 := (zc_zf f (v : Int)).le p
  have h2 := (zc_zf f (v : Int)).to hp
  rw [zc_all _ (show f.length ≤ n by rw [hf.len]; exact Nat.le_refl _), cntv_arr hf] at h2
  omega
end
end PL

namespace PL
open PySem PySem.Spec PyProof.Rows L2

/-! ### 49. an owned thing given away; dict displays -/
/-- the thing in a slot, given away -/
def pMove (i : Nat) : PO := fun env Q => match env[i]? with
  | some (.un) => False
  | some r => Q r (env.set i .un)
  | none => False
section
variable {X : Cx} {E : Ent}
theorem l_move (i : Nat) {x : Str} {pos : Pos} (h : PE X (.Name x pos) (tVar i)) (hN : i < X.N.length) : PE X (.Name x pos) (liftO X.K E (pMove i)) := by
  refine ⟨fun pins s σ H Q I q => h.run pins s σ H Q I ?_⟩
  obtain ⟨ts, F, env, As, Q', S, _, p, k⟩ := q
  have hi : i < σ.length := by rw [I.len]; exact hN
  unfold pMove at p
  split at p
  · exact p.elim
  · rename_i r nu er
    obtain ⟨x', h1, h2⟩ := S.slot i r er
    obtain ⟨v, ev⟩ : ∃ v, x' = some v := by
      cases r with
      | un => exact absurd rfl nu
      | v d => obtain ⟨v, e, _⟩ := h2; exact ⟨v, e⟩
      | m c => obtain ⟨v, e, _⟩ := h2; exact ⟨v, e⟩
    subst ev
    obtain ⟨S2, R2⟩ := S.move er h1
    exact ⟨v, app_get hi h1, k v r _ F H _ _ S2 (Same.refl F) R2 p⟩
  · exact p.elim
def anyO (K : PySem.W.Frag) (fi : Nat → Option V) (p : PO) : TE := fun σ H Q => ∃ E : Ent, E.fix = fi ∧ liftO K E p σ H Q
theorem pe_anyO {e : Expr} {p : PO} {fi : Nat → Option V} (h : ∀ E' : Ent, E'.fix = fi → PE X e (liftO X.K E' p)) : PE X e (anyO X.K fi p) :=
  ⟨fun pins s σ H Q I ⟨E', hE, q⟩ => (h E' hE).run pins s σ H Q I q⟩
def dTrs (K : PySem.W.Frag) (fi : Nat → Option V) : List (Str × PO) → List (TE × TE)
  | [] => []
  | (k, p) :: r => (tC (.str k), anyO K fi p) :: dTrs K fi r
def dPos : List (Str × PO) → POs
  | [] => pONil
  | (_, p) :: r => pOCons p (dPos r)
def dZip : List (Str × PO) → List V → List (V × V)
  | (k, _) :: r, v :: vs => (.str k, v) :: dZip r vs
  | _, _ => []
theorem dTrs_run {K : PySem.W.Frag} {fi : Nat → Option V} : ∀ (l : List (Str × PO)) (E : Ent), E.fix = fi → ∀ {σ ts : L2.St} {F H : Hp} {env : PEnv} {As : Nat → List Addr} {Q : List (V × V) → Hp → Prop} {Q' : List Sl → PEnv → Prop},
    SR K E F H (σ ++ ts) env As → FixIn E σ → dPos l env Q' → (∀ vs rs ar F' H' env' As', SR K E F' H' (σ ++ ts) env' As' → Same F F' → AllOk K E F' H' As' vs rs ar → Q' rs env' → Q (dZip l vs) H') → tPairs (dTrs K fi l) σ H Q
  | [], E, hE, σ, ts, F, H, env, As, Q, Q', S, fx, p, k => k [] [] [] F H env As S (Same.refl F) ⟨.nil, List.nodup_nil, fun a ha => absurd ha (by simp), fun i a ha => absurd ha (by simp)⟩ p
  | (key, po) :: r, E, hE, σ, ts, F, H, env, As, Q, Q', S, fx, p, k => by
    refine (show tC (.str key) σ H _ from ?_)
    refine ⟨E, hE, ts, F, env, As, _, S, fx, p, fun v rr ar F1 H1 env1 As1 S1 f1 R q => ?_⟩
    refine dTrs_run r (reE E F1 H1 As1) hE S1.re fx q fun vs rs br F2 H2 env2 As2 S2 f2 A q2 => ?_
    have hd : ∀ a ∈ ar, H2 a = H1 a ∧ (F1 a = none → F2 a = none) := fun a ha => S2.held (R.1.live a ha) (R.1.ntp a ha) fun i => R.2.2.2 i a ha
    have ap : ∀ a, ((∃ i, a ∈ As1 i) ∨ H1 a = none) → a ∉ ar := fun a h ha => by
      rcases h with ⟨i, h⟩ | h
      · exact R.2.2.2 i a ha h
      · exact R.1.live a ha h
    refine k (v :: vs) (rr :: rs) (ar ++ br) F2 H2 env2 As2 (S1.unre S2) (f1.trans f2) ⟨.cons (R.1.to f2 fun a ha => (hd a ha).1) A.1, ?_, fun a ha => ?_, fun i a ha z => ?_⟩ q2
    · refine List.nodup_append.mpr ⟨R.2.1, A.2.1, fun a ha b hb z => ?_⟩
      subst z
      exact ap a (A.2.2.1 a hb).2 ha
    · rcases List.mem_append.mp ha with ha | ha
      · exact ⟨(hd a ha).2 (R.2.2.1 a ha).1, (R.2.2.1 a ha).2⟩
      · exact ⟨(A.2.2.1 a ha).1, S1.own' (A.2.2.1 a ha).2⟩
    · rcases List.mem_append.mp ha with ha | ha
      · exact ap a (S2.own i a z).2 ha
      · exact A.2.2.2 i a ha z
/-- {'k': v, ..}: texts as keys, each once -/
def pDisp (l : List (Str × PO)) : PO := fun env Q => dPos l env fun rs env1 => match slMs rs with
  | some cs => cs.length = l.length ∧ Q (.m (.dk ((l.map fun p => (Sum.inr p.1 : Key)).zip cs))) env1
  | none => False
theorem mpkv_zip {K : PySem.W.Frag} {F H : Hp} : ∀ {ks : List Key} {vs : List V} {cs : List MO} {as : List Addr}, MpAll K F H vs cs as → ks.length = cs.length → MpKV K F H (ks.zip vs) (ks.zip cs) as
  | [], _, _, _, h, e => by
    cases h with
    | nil => exact .nil
    | cons _ _ => cases e
  | k :: ks, _, _, _, h, e => by
    cases h with
    | nil => cases e
    | cons h1 h2 => exact .cons h1 (mpkv_zip h2 (by simpa using e))
theorem mergeK_fresh : ∀ (more kvs : List (Key × V)), ((kvs ++ more).map (·.1)).Nodup → mergeK kvs more = kvs ++ more
  | [], kvs, _ => by rw [List.append_nil]; rfl
  | p :: r, kvs, h => by
    show mergeK (putK kvs p.1 p.2) r = _
    have hn : valV kvs p.1 = none := by
      cases e : valV kvs p.1 with
      | none => rfl
      | some v =>
        have hs := valV_any p.1 kvs
        rw [e, Option.isSome_some, List.any_eq_true] at hs
        obtain ⟨q, hq, e2⟩ := hs
        have e2 := of_decide_eq_true e2
        rw [List.map_append, List.map_cons] at h
        exact absurd e2 ((List.nodup_append.mp h).2.2 q.1 (List.mem_map.mpr ⟨q, hq, rfl⟩) p.1 List.mem_cons_self)
    rw [putK_new p.2 hn, mergeK_fresh r (kvs ++ [p]) (by rw [List.append_assoc]; exact h), List.append_assoc]
    rfl
theorem dZip_kvs : ∀ (l : List (Str × PO)) (vs : List V), vs.length = l.length → dZip l vs = ((l.map fun p => (Sum.inr p.1 : Key)).zip vs).map fun kv => (kV kv.1, kv.2)
  | [], [], _ => rfl
  | [], _ :: _, e => by cases e
  | _ :: _, [], e => by cases e
  | (k, p) :: l, v :: vs, e => by
    show (V.str k, v) :: dZip l vs = _
    rw [dZip_kvs l vs (by simpa using e)]
    rfl
theorem slMs_len : ∀ {rs : List Sl} {cs : List MO}, slMs rs = some cs → cs.length = rs.length
  | [], _, e => by cases e; rfl
  | r :: rs, cs, e => by
    unfold slMs at e
    cases e1 : slM r with
    | none => rw [e1] at e; cases e
    | some c =>
      cases e2 : slMs rs with
      | none => rw [e1, e2] at e; cases e
      | some cs' =>
        rw [e1, e2] at e
        cases e
        rw [List.length_cons, List.length_cons, slMs_len e2]
theorem l_disp {l : List (Str × PO)} {keys : List (Option Expr)} {values : List Expr} {pos : Pos} (h : PPs X pos keys values (dTrs X.K E.fix l)) (hall : keys.all (·.isSome) = true) (hl : keys.length = values.length) (h0 : keys ≠ [])
    (h15 : keys.length ≤ 15) (hl2 : l.length ≤ 15) (nd : (l.map (·.1)).Nodup) : PE X (.Dict keys values pos) (liftO X.K E (pDisp l)) := by
  refine pe_w (pe_disp h hall hl h0 h15) fun σ H Q ⟨ts, F, env, As, Q', S, fx, p, k⟩ => fun a ha => ?_
  have g := Gr.made (o := HO.dK []) S.sub ha
  have S0 := S.gr g
  have na : ∀ i, a ∉ As i := fun i z => S.live i a z ha
  have Fa : F a = none := S.sub.free ha
  have own : E.B a ∨ E.H0 a = none := (S.free ha).symm
  refine dTrs_run l (reE E F _ As) rfl S0.re fx p fun vs rs ar F2 H2 env2 As2 S2 f2 A q => ?_
  split at q
  · rename_i cs ec
    have hd := S2.held (show upd H a (HO.dK []) a ≠ none by rw [upd_same]; exact fun z => by cases z) (ntp_of (o := HO.dK []) upd_same fun _ z => nomatch z) na
    have ea : H2 a = some (.dK []) := by rw [hd.1, upd_same]
    have lv : vs.length = l.length := by rw [RsAll.lengths A.1, ← slMs_len ec]; exact q.1
    have kl : (l.map fun p => (Sum.inr p.1 : Key)).length = vs.length := by rw [List.length_map, lv]
    refine ⟨ea, (l.map fun p => (Sum.inr p.1 : Key)).zip vs, dZip_kvs l vs lv, by rw [List.length_zip, List.length_map, lv, Nat.min_self]; exact hl2, ?_⟩
    have fresh : mergeK [] ((l.map fun p => (Sum.inr p.1 : Key)).zip vs) = (l.map fun p => (Sum.inr p.1 : Key)).zip vs := by
      refine mergeK_fresh _ [] ?_
      rw [List.nil_append, List.map_fst_zip (by omega)]
      have := nd
      rw [List.nodup_iff_pairwise_ne, List.pairwise_map] at this ⊢
      exact this.imp fun h e => h (Sum.inr.inj e)
    rw [fresh]
    have nar : a ∉ ar := fun z => by
      rcases (A.2.2.1 a z).2 with ⟨i, y⟩ | y
      · exact na i y
      · have y : upd H a (HO.dK []) a = none := y
        rw [upd_same] at y; cases y
    have na2 : ∀ i, a ∉ As2 i := fun i z => by
      rcases (S2.own i a z).2 with ⟨j, y⟩ | y
      · exact na j y
      · have y : upd H a (HO.dK []) a = none := y
        rw [upd_same] at y; cases y
    have S3 := (S0.unre S2).poke (o := HO.dK ((l.map fun p => (Sum.inr p.1 : Key)).zip vs)) (hd.2 Fa) own na2
    refine k (.ref a) (.m (.dk ((l.map fun p => (Sum.inr p.1 : Key)).zip cs))) (a :: ar) F2 _ env2 As2 S3 f2 ⟨⟨_, rfl, .dk upd_same ((mpkv_zip (RsAll.mp A.1 ec) (by rw [List.length_map, ← q.1])).to (Same.refl F2) fun b hb => upd_ne fun z => nar (by rw [← z]; exact hb))⟩, List.nodup_cons.mpr ⟨nar, A.2.1⟩, fun b hb => ?_, fun i b hb z => ?_⟩ q.2
    · rcases List.mem_cons.mp hb with e | hb
      · rw [e]
        exact ⟨hd.2 Fa, own⟩
      · exact ⟨(A.2.2.1 b hb).1, S0.own' (A.2.2.1 b hb).2⟩
    · rcases List.mem_cons.mp hb with e | hb
      · rw [e] at z
        exact na2 i z
      · exact A.2.2.2 i b hb z
  · exact q.elim
end
end PL

namespace PL
open PySem PySem.W L2

/-! ### 50. more data facts -/
/-- a list of numbers, owned or still -/
def Ls (r : Sl) (p : List Int) : Prop := r = .m (.ol (p.map .int)) ∨ r = .v (.list (p.map .int))
theorem any_int (l : List Int) (v : Int) : ((l.map PyData.int).any fun z => PyData.eqv z (.int v)) = decide (v ∈ l) := by
  rw [List.any_map, Bool.eq_iff_iff, List.any_eq_true, decide_eq_true_eq]
  constructor
  · rintro ⟨x, hx, e⟩
    have e : PyData.eqv (.int x) (.int v) = true := e
    rw [eqv_int] at e
    have := of_decide_eq_true e
    subst this
    exact hx
  · intro h
    exact ⟨v, h, by show PyData.eqv (.int v) (.int v) = true; rw [eqv_ii]⟩
theorem any_li (l : List (List Int)) (r : List Int) : ((l.map li).any fun z => PyData.eqv z (li r)) = decide (r ∈ l) := by
  rw [List.any_map, Bool.eq_iff_iff, List.any_eq_true, decide_eq_true_eq]
  constructor
  · rintro ⟨x, hx, e⟩
    have e : PyData.eqv (li x) (li r) = true := e
    rw [eqv_li] at e
    have := of_decide_eq_true e
    subst this
    exact hx
  · intro h
    exact ⟨r, h, by show PyData.eqv (li r) (li r) = true; rw [eqv_li]; exact decide_eq_true rfl⟩
theorem mem_erase' {α : Type} [DecidableEq α] {l : List α} {x y : α} (h : y ∈ l) (ne : y ≠ x) : y ∈ l.erase x := (List.mem_erase_of_ne ne).mpr h
theorem perm_of_nodup {α : Type} [DecidableEq α] : ∀ {a b : List α}, a.Nodup → (∀ x ∈ a, x ∈ b) → a.length = b.length → a.Perm b
  | [], b, _, _, hl => by
    have : b = [] := List.eq_nil_of_length_eq_zero hl.symm
    subst this
    exact List.Perm.refl _
  | x :: a, b, nd, hs, hl => by
    obtain ⟨h1, h2⟩ := List.nodup_cons.mp nd
    have hx := hs x List.mem_cons_self
    have hp := List.perm_cons_erase hx
    refine List.Perm.trans (List.Perm.cons x (perm_of_nodup h2 (fun y hy => mem_erase' (hs y (List.mem_cons_of_mem _ hy)) fun e => h1 (by rw [← e]; exact hy)) ?_)) hp.symm
    rw [List.length_erase_of_mem hx, ← hl]
    simp
theorem arr_of {n : Nat} {r : List Int} (nd : r.Nodup) (hs : ∀ x ∈ r, 1 ≤ x ∧ x ≤ n) (hl : r.length = n) : Arr n r :=
  perm_of_nodup nd (fun x hx => deck_mem.mpr (hs x hx)) (by rw [deck_len]; exact hl)
theorem below_of_nat {n : Nat} {f s : List Int} (hf : Arr n f) (hs : Arr n s) (k : ∀ v p : Nat, 1 ≤ v → v ≤ n → p ≤ n → zc s v p ≤ zc f v p) : below f s := below_arr hf hs fun v p hv hp => by
  by_cases h : v = 0
  · subst h
    rw [zc_low hf (v := ((0 : Nat) : Int)) (Int.le_refl _), zc_low hs (v := ((0 : Nat) : Int)) (Int.le_refl _)]
    exact Nat.le_refl _
  · exact k v p (by omega) hv hp
/-- rows made place by place -/
def allA (n : Nat) : Nat → List (List Int)
  | 0 => [[]]
  | k + 1 => (allA n k).flatMap fun cells => ((deck n).filter fun v => !decide (v ∈ cells)).map fun v => cells ++ [v]
theorem allA_mem {n : Nat} : ∀ {k : Nat} {r : List Int}, r ∈ allA n k ↔ r.length = k ∧ r.Nodup ∧ ∀ x ∈ r, 1 ≤ x ∧ x ≤ n
  | 0, r => by
    simp only [allA, List.mem_singleton]
    constructor
    · rintro rfl
      exact ⟨rfl, List.nodup_nil, fun x hx => by cases hx⟩
    · rintro ⟨h, _⟩
      exact List.eq_nil_of_length_eq_zero h
  | k + 1, r => by
    simp only [allA, List.mem_flatMap, List.mem_map, List.mem_filter]
    constructor
    · rintro ⟨cells, hc, v, ⟨hv, nv⟩, rfl⟩
      obtain ⟨h1, h2, h3⟩ := allA_mem.mp hc
      have nv : v ∉ cells := by simpa using nv
      refine ⟨by simp [h1], ?_, fun x hx => ?_⟩
      · rw [List.nodup_append]
        refine ⟨h2, by simp, fun a ha b hb => ?_⟩
        rw [List.mem_singleton.mp hb]
        exact fun e => nv (e ▸ ha)
      · rcases List.mem_append.mp hx with hx | hx
        · exact h3 x hx
        · rw [List.mem_singleton.mp hx]
          exact deck_mem.mp hv
    · rintro ⟨h1, h2, h3⟩
      have ne : r ≠ [] := fun e => by rw [e] at h1; cases h1
      have er : r.dropLast ++ [r.getLast ne] = r := List.dropLast_concat_getLast ne
      have h2' := h2
      rw [← er, List.nodup_append] at h2'
      refine ⟨r.dropLast, allA_mem.mpr ⟨by rw [List.length_dropLast]; omega, h2'.1, fun x hx => h3 x (List.dropLast_subset r hx)⟩, r.getLast ne, ⟨deck_mem.mpr (h3 _ (List.getLast_mem ne)), ?_⟩, er⟩
      have : r.getLast ne ∉ r.dropLast := fun hx => h2'.2.2 _ hx _ (List.mem_singleton.mpr rfl) rfl
      simpa using this
theorem allA_arr {n : Nat} {r : List Int} : r ∈ allA n n ↔ Arr n r := by
  rw [allA_mem]
  constructor
  · rintro ⟨h1, h2, h3⟩
    exact arr_of h2 h3 h1
  · intro h
    exact ⟨h.len, h.nodup, fun x hx => h.mem.mp hx⟩
theorem flatMap_le {α β : Type} {f : α → List β} {m : Nat} (l : List α) (h : ∀ x ∈ l, (f x).length ≤ m) : (l.flatMap f).length ≤ l.length * m := by
  induction l with
  | nil => simp
  | cons x l ih =>
    rw [List.flatMap_cons, List.length_append, List.length_cons, Nat.add_mul]
    have := ih fun y hy => h y (List.mem_cons_of_mem _ hy)
    have := h x List.mem_cons_self
    omega
theorem allA_len (n : Nat) : ∀ k, (allA n k).length ≤ n ^ k
  | 0 => Nat.le_refl _
  | k + 1 => by
    rw [Nat.pow_succ]
    refine Nat.le_trans (flatMap_le _ (m := n) fun x _ => ?_) (Nat.mul_le_mul_right n (allA_len n k))
    rw [List.length_map]
    exact Nat.le_trans (List.length_filter_le ..) (by rw [deck_len]; exact Nat.le_refl _)
theorem allA_small {n : Nat} (hn : n ≤ 7) {k : Nat} (hk : k ≤ n) : (allA n k).length ≤ 823543 := by
  refine Nat.le_trans (allA_len n k) ?_
  have h1 : n ^ k ≤ 7 ^ k := Nat.pow_le_pow_left hn k
  have h2 : 7 ^ k ≤ 7 ^ 7 := Nat.pow_le_pow_right (by decide) (by omega)
  have h3 : 7 ^ 7 = 823543 := by decide
  omega
theorem le_line' {n : Nat} (h : n ≤ 10000000) : n ≤ sizeLine := Nat.le_trans h (by decide)
theorem flatMap_step {α β : Type} {f : α → List β} {l : List α} {i : Nat} {x : α} (h : l[i]? = some x) : (l.take i).flatMap f ++ f x = (l.take (i + 1)).flatMap f := by
  rw [List.take_add_one, h, List.flatMap_append]
  simp
theorem flatMap_take_le {α β : Type} (f : α → List β) (l : List α) (i : Nat) : ((l.take i).flatMap f).length ≤ (l.flatMap f).length := by
  have : l.flatMap f = (l.take i).flatMap f ++ (l.drop i).flatMap f := by rw [← List.flatMap_append, List.take_append_drop]
  rw [this, List.length_append]
  omega
end PL

namespace PL
open PySem PySem.W L2

/-! ### 51. comprehensions that touch their own names alone -/
theorem wipeP_get {env : PEnv} {i : Nat} : ∀ {vs : List Nat}, i ∉ vs → (wipeP env vs)[i]? = env[i]?
  | [], _ => rfl
  | v :: vs, h => by
    unfold wipeP
    have hv : v ≠ i := fun e => h (by rw [e]; exact List.mem_cons_self)
    rw [List.getElem?_set_ne hv]
    exact wipeP_get fun z => h (List.mem_cons_of_mem _ z)
theorem backP_wipe {env e : PEnv} {vs : List Nat} (h : wipeP e vs = wipeP env vs) : backP env e vs = env := by
  have hl : e.length = env.length := by
    have := congrArg List.length h
    rwa [wipeP_length, wipeP_length] at this
  rw [backP_eq]
  refine List.ext_getElem (by rw [List.length_mapIdx]; exact hl) fun i h1 h2 => ?_
  rw [List.getElem_mapIdx]
  split
  · rw [List.getD_eq_getElem?_getD, List.getElem?_eq_getElem h2]
    rfl
  · rename_i hn
    have a := wipeP_get (env := e) hn
    have b := wipeP_get (env := env) hn
    rw [h, b, List.getElem?_eq_getElem h2] at a
    rw [List.length_mapIdx] at h1
    rw [List.getElem?_eq_getElem h1] at a
    exact (Option.some.inj a).symm
theorem compK_w {α : Type} {t : Tg} {tt : PTt} {te : PX} {vs : List Nat} {env : PEnv} {Q : List PyData → PEnv → Prop} (xs : List α) (enc : α → PyData) (keep : α → Bool) (out : α → PyData) (hl : xs.length ≤ sizeLine)
    (hs : ∀ x ∈ xs, ∀ (A : PEnv → Prop) (B : PyData → PEnv → Prop), (keep x = false → ∀ e', wipeP e' vs = wipeP env vs → stillAt e' vs = true → A e') → (keep x = true → ∀ e', wipeP e' vs = wipeP env vs → stillAt e' vs = true → B (out x) e') →
      tgP t (enc x) (wipeP env vs) fun e1 => tt e1 fun b e2 => sel b (te e2 fun y e3 => B y e3) (A e2))
    (he : ∀ e, backP env e vs = env → Q ((xs.filter keep).map out) e) : compK t tt te vs (xs.map enc) [] env Q :=
  compK_pure xs enc keep out (fun e => wipeP e vs = wipeP env vs) rfl hl (fun x hx e h A B hA hB => by rw [h]; exact hs x hx A B hA hB) fun e h => he e (backP_wipe h)
/-- every item, and nothing asked -/
theorem compK_m {α : Type} {t : Tg} {te : PX} {vs : List Nat} {env : PEnv} {Q : List PyData → PEnv → Prop} (xs : List α) (enc : α → PyData) (out : α → PyData) (hl : xs.length ≤ sizeLine)
    (hs : ∀ x ∈ xs, ∀ (B : PyData → PEnv → Prop), (∀ e', wipeP e' vs = wipeP env vs → stillAt e' vs = true → B (out x) e') → tgP t (enc x) (wipeP env vs) fun e1 => te e1 fun y e3 => B y e3)
    (he : ∀ e, backP env e vs = env → Q (xs.map out) e) : compK t pYes te vs (xs.map enc) [] env Q := by
  refine compK_w xs enc (fun _ => true) out hl (fun x hx A B _ hB => ?_) (fun e h => by rw [List.filter_eq_self.mpr fun _ _ => rfl]; exact he e h)
  have z := hs x hx B (hB rfl)
  unfold tgP at z ⊢
  split at z
  · exact sel_t rfl z
  · exact z.elim
/-- tests that give a truth value whose meaning is known -/
theorem all_iff {α : Type} {l : List α} {f : α → Bool} {p : α → Prop} (h : ∀ x ∈ l, (f x = true ↔ p x)) : ((l.map f).all id = true) ↔ ∀ x ∈ l, p x := by
  rw [List.all_map, List.all_eq_true]
  exact ⟨fun k x hx => (h x hx).mp (k x hx), fun k x hx => (h x hx).mpr (k x hx)⟩
/-- a comprehension whose items come with a fact each -/
theorem compK_r {α : Type} {t : Tg} {te : PX} {vs : List Nat} {env : PEnv} {Q : List PyData → PEnv → Prop} (xs : List α) (enc : α → PyData) (R : α → PyData → Prop) (hl : xs.length ≤ sizeLine)
    (hs : ∀ x ∈ xs, ∀ (B : PyData → PEnv → Prop), (∀ y e', R x y → wipeP e' vs = wipeP env vs → stillAt e' vs = true → B y e') → tgP t (enc x) (wipeP env vs) fun e1 => te e1 fun y e3 => B y e3)
    (he : ∀ ys : List PyData, ys.length = xs.length → (∀ (i : Nat) x, xs[i]? = some x → ∃ y, ys[i]? = some y ∧ R x y) → ∀ e, backP env e vs = env → Q ys e) : compK t pYes te vs (xs.map enc) [] env Q := by
  have z : ∀ (l : List α) (acc : List PyData) (e : PEnv), wipeP e vs = wipeP env vs → (∀ x ∈ l, x ∈ xs) → acc.length + l.length ≤ sizeLine → (∀ ys : List PyData, ys.length = l.length → (∀ (i : Nat) x, l[i]? = some x → ∃ y, ys[i]? = some y ∧ R x y) → ∀ e, backP env e vs = env → Q (acc ++ ys) e) →
      compK t pYes te vs (l.map enc) acc e Q := by
    intro l
    induction l with
    | nil =>
      intro acc e h hm hl hq
      show Q acc e
      have := hq [] rfl (fun i x hx => by simp at hx) e (backP_wipe h)
      rwa [List.append_nil] at this
    | cons x r ih =>
      intro acc e h hm hl hq
      rw [List.length_cons] at hl
      have key := hs x (hm x List.mem_cons_self) (fun y e3 => (acc.length < sizeLine ∧ stillAt e3 vs = true) ∧ compK t pYes te vs (r.map enc) (acc ++ [y]) e3 Q) fun y e' hr hw hst =>
        ⟨⟨by omega, hst⟩, ih (acc ++ [y]) e' hw (fun z hz => hm z (List.mem_cons_of_mem _ hz)) (by rw [List.length_append, List.length_singleton]; omega) fun ys hy hys => by
          rw [List.append_assoc]
          refine hq (y :: ys) (by simp [hy]) fun i w hw => ?_
          cases i with
          | zero => cases hw; exact ⟨y, rfl, hr⟩
          | succ i => exact hys i w hw⟩
      show tgP t (enc x) (wipeP e vs) _
      rw [h]
      unfold tgP at key ⊢
      split at key
      · exact sel_t rfl key
      · exact key.elim
  exact z xs [] env rfl (fun _ h => h) (by simpa using hl) fun ys h1 h2 => by simpa using he ys h1 h2
/-- truth values with a fact each -/
theorem compK_b {α : Type} {t : Tg} {te : PX} {vs : List Nat} {env : PEnv} {Q : List PyData → PEnv → Prop} (xs : List α) (enc : α → PyData) (p : α → Prop) (hl : xs.length ≤ sizeLine)
    (hs : ∀ x ∈ xs, ∀ (B : PyData → PEnv → Prop), (∀ b e', (b = true ↔ p x) → wipeP e' vs = wipeP env vs → stillAt e' vs = true → B (.bool b) e') → tgP t (enc x) (wipeP env vs) fun e1 => te e1 fun y e3 => B y e3)
    (he : ∀ bs : List Bool, bs.length = xs.length → (bs.all id = true ↔ ∀ x ∈ xs, p x) → (bs.any id = true ↔ ∃ x ∈ xs, p x) → ∀ e, backP env e vs = env → Q (bs.map .bool) e) : compK t pYes te vs (xs.map enc) [] env Q := by
  refine compK_r xs enc (fun x y => ∃ b : Bool, y = .bool b ∧ (b = true ↔ p x)) hl (fun x hx B hB => hs x hx B fun b e' hb h1 h2 => hB _ e' ⟨b, rfl, hb⟩ h1 h2) fun ys hlen hys => ?_
  have : ∃ bs : List Bool, ys = bs.map .bool ∧ ∀ (i : Nat) x, xs[i]? = some x → ∃ b, bs[i]? = some b ∧ (b = true ↔ p x) := by
    clear hs he hl
    induction xs generalizing ys with
    | nil =>
      have : ys = [] := List.eq_nil_of_length_eq_zero hlen
      subst this
      exact ⟨[], rfl, fun i x h => by simp at h⟩
    | cons x r ih =>
      cases ys with
      | nil => cases hlen
      | cons y ys =>
        obtain ⟨y', e1, b, e2, hb⟩ := hys 0 x rfl
        cases e1
        obtain ⟨bs, e3, h3⟩ := ih ys (by simpa using hlen) fun i w hw => hys (i + 1) w hw
        refine ⟨b :: bs, by rw [List.map_cons, ← e3, e2], fun i w hw => ?_⟩
        cases i with
        | zero => cases hw; exact ⟨b, rfl, hb⟩
        | succ i => exact h3 i w hw
  obtain ⟨bs, rfl, hb⟩ := this
  rw [List.length_map] at hlen
  have m1 : ∀ x ∈ xs, ∃ b ∈ bs, (b = true ↔ p x) := fun x hx => by
    obtain ⟨i, hi⟩ := List.mem_iff_getElem?.mp hx
    obtain ⟨b, h1, h2⟩ := hb i x hi
    exact ⟨b, List.mem_of_getElem? h1, h2⟩
  have m2 : ∀ b ∈ bs, ∃ x ∈ xs, (b = true ↔ p x) := fun b hbm => by
    obtain ⟨i, hi⟩ := List.mem_iff_getElem?.mp hbm
    have hl2 := (List.getElem?_eq_some_iff.mp hi).1
    obtain ⟨b', h1, h2⟩ := hb i _ (List.getElem?_eq_getElem (show i < xs.length by omega))
    rw [hi] at h1
    cases h1
    exact ⟨_, List.getElem_mem _, h2⟩
  refine he bs hlen ⟨fun h x hx => ?_, fun h => List.all_eq_true.mpr fun b hbm => ?_⟩ ⟨fun h => ?_, fun ⟨x, hx, hp⟩ => ?_⟩
  · obtain ⟨i, hi⟩ := List.mem_iff_getElem?.mp hx
    obtain ⟨b, h1, h2⟩ := hb i x hi
    exact h2.mp (List.all_eq_true.mp h b (List.mem_of_getElem? h1))
  · obtain ⟨x, hx, h2⟩ := m2 b hbm
    exact h2.mpr (h x hx)
  · obtain ⟨b, hbm, ht⟩ := List.any_eq_true.mp h
    obtain ⟨x, hx, h2⟩ := m2 b hbm
    exact ⟨x, hx, h2.mp ht⟩
  · obtain ⟨i, hi⟩ := List.mem_iff_getElem?.mp hx
    obtain ⟨b, h1, h2⟩ := hb i x hi
    exact List.any_eq_true.mpr ⟨b, List.mem_of_getElem? h1, h2.mpr hp⟩
end PL

namespace PL
open PySem PySem.Spec PyProof.Rows L2

/-! ### 52. enumerate with a start -/
def IteK (K : PySem.W.Frag) (k0 : Int) (a : Addr) : It :=
  ⟨fun i H => ∃ (xs : List V) (x : V), SqL K H a xs ∧ xs[i]? = some x, fun i H v H' => ∃ T x, v = .ref T ∧ H T = none ∧ H' = upd H T (.tup [.int (k0 + (i : Nat)), x]) ∧ ∀ xs, SqL K H a xs → xs[i]? = some x, fun i H => ∃ xs : List V, SqL K H a xs ∧ xs.length ≤ i⟩
theorem turn_enumK {P : Program} {w : World} {K : PySem.W.Frag} {elts : List Expr} {kk : Nat} {tpos : Pos} (k0 : Int) (a e it : Addr) :
    Turn P w K (.Tuple elts kk tpos) (IteK K k0 a) [e, it] e (fun i h => (∃ old, IsEnum h e it (k0 + ((i : Nat) : Int)) old) ∧ h.IsListIter it a i ∧ e ≠ it) where
  mem := by simp
  obj := fun i h st b hb => by
    obtain ⟨⟨old, he⟩, ⟨o, ho, hc, hd⟩, _⟩ := st
    have e' : b = e ∨ b = it := by simpa using hb
    rcases e' with z | z
    · rw [z]; exact ⟨_, he, fun v q => nomatch q⟩
    · rw [z]; exact ⟨o, ho, fun v q => by rw [hd] at q; cases q⟩
  keep := fun i h h' st k => let ⟨⟨old, he⟩, hi, hne⟩ := st; ⟨⟨old, k e (by simp) _ he⟩, hi.at fun o q => k it (by simp) o q, hne⟩
  item := by
    intro X hP hw hK hc i pins s σ H E I hf st hg
    subst hP hw hK
    obtain ⟨⟨old, he⟩, hit, hne⟩ := st
    obtain ⟨xs, x, hq, hx⟩ := hg
    obtain ⟨its, rv, p, hz⟩ := I.list hq
    obtain ⟨u, hu, ru⟩ := rv.get hx
    have hel : e < s.heap.objs.size := Heap.lt_size he
    have hil : it < s.heap.objs.size := by obtain ⟨_, q, _⟩ := hit; exact Heap.lt_size q
    have hal : a ≠ it := fun z => by
      obtain ⟨o1, q1, q2, _⟩ := hit
      obtain ⟨o2, q3, q4, _⟩ := p.isList
      rw [z, q1] at q3
      cases q3
      rw [q2] at q4
      exact absurd q4 (by decide)
    have hea : e ≠ a := fun z => by
      obtain ⟨o2, q3, q4, _⟩ := p.isList
      rw [← z] at q3
      have := he.symm.trans q3
      cases this
      have q5 : Value.type "enumerate" = Value.type "list" := q4
      exact absurd q5 (by decide)
    refine wpAny_pyNext_enum_itemC (A := X.A) (Draws.list (prog := X.prog) (w := X.w) (A := X.A.in1) (show X.A.in1.handled = none from I.ok.hd hc) it a hal its.toArray) he ⟨hit, p.isList⟩ (by simpa using (List.getElem?_eq_some_iff.mp hu).1) hne (by simp only [List.mem_cons, List.not_mem_nil, or_false, not_or]; exact ⟨hne, hea⟩) fun x' h' tk hP ho hst' hT hsz hk => ?_
    have hx' : x' = u := by
      have hP : its.toArray[i]? = some x' := hP
      rw [List.getElem?_toArray, hu] at hP
      exact (Option.some.inj hP).symm
    subst hx'
    have hit' := hst'.1
    refine ⟨_, rfl, wpAny_letOwnedTupleGo_enum (s := { s with heap := h', toks := tk + 1 }) ho fun h'' he' sb => ?_⟩
    have hT2 : h''.get? s.heap.objs.size = some { cls := .type "tuple", data := .seq #[.int (k0 + (i : Nat)) tk, x'] } := (sb.2 _ (Nat.ne_of_gt hel)).trans hT
    have new : ObjOk X.prog X.w (upd H s.heap.objs.size (.tup [.int (k0 + (i : Nat)), x])) h'' s.heap.objs.size (.tup [.int (k0 + (i : Nat)), x]) :=
      ⟨by show 2 ≤ sizeLine; decide, [.int (k0 + (i : Nat)) tk, x'], .cons ⟨_, rfl⟩ (.cons ru .nil), ⟨_, hT2, rfl, _, rfl⟩⟩
    have I1 : Inv X pins σ (upd H s.heap.objs.size (.tup [.int (k0 + (i : Nat)), x])) { s with heap := h'', toks := tk + 1 } :=
      I.turnedNew (ch := [e, it]) (fun b ob hb q => (sb.2 b (fun z => hb (by simp [z]))).trans (hk b ob (fun z => hb (by simp [z])) (fun z => hb (by simp [z])) q)) hf (Nat.le_refl _) new
    refine ⟨.ref s.heap.objs.size, _, I1, rfl, ⟨_, x, rfl, I.hok.fresh (Nat.le_refl _), rfl, fun ys hy => by rw [I.list_inj hy hq]; exact hx⟩, ⟨⟨x', ?_⟩, hit'.at fun o q => (sb.2 it (Ne.symm hne)).trans q, hne⟩, fun b hb => ?_⟩
    · have e1 : k0 + ((i + 1 : Nat) : Int) = k0 + (i : Int) + 1 := by omega
      rw [e1]; exact he'
    · have hb' : b < s.heap.objs.size := by
        have e' : b = e ∨ b = it := by simpa using hb
        rcases e' with z | z
        · rw [z]; exact hel
        · rw [z]; exact hil
      rw [upd_ne (Nat.ne_of_lt hb')]
      exact (hf b hb).1
  done := by
    intro X hP hw hK hc i pins s σ H E I hf st hg
    subst hP hw hK
    obtain ⟨⟨old, he⟩, hit, hne⟩ := st
    obtain ⟨xs, hq, hx⟩ := hg
    obtain ⟨its, rv, p, hz⟩ := I.list hq
    obtain ⟨f0, f1, f2, f3, f4, f5⟩ := hf it (by simp)
    have hl := rv.length
    have D : Draws X.prog X.w X.A.in1 it [it, a] i (fun _ _ => True) (fun j h => j = i ∧ h.IsListIter it a i ∧ h.IsList a its.toArray) :=
      { live := fun _ _ st => let ⟨_, ⟨o, ho, _⟩, _⟩ := st; ⟨o, ho⟩
        frame := fun _ _ _ st hk => ⟨st.1, st.2.1.at fun o e => hk it (by simp) o e, st.2.2.at fun o e => hk a (by simp) o e⟩
        item := fun j s Q E hi st hQ => absurd st.1 (Nat.ne_of_lt hi)
        done := fun s Q E st hE => wpAny_nextOf_list_end (show X.A.in1.handled = none from I.ok.hd hc) st.2.1 st.2.2 (by simp; omega) hE }
    exact wpAny_pyNext_enum_endD (A := X.A) D he ⟨rfl, hit, p.isList⟩ fun h' eb => ⟨rfl, I.turned (t' := s.toks) (fun b o hb q => eb b o hb q) f0 f1 f3 f4 f5⟩
  self := fun A i s Q E st h => let ⟨⟨_, he⟩, _⟩ := st; wpAny_pyIter_enum he h
def iEnumK (K : PySem.W.Frag) (ta : TA) : TI := fun σ H R => ta σ H fun vs H1 => ∃ a xs k0, vs = [.ref a, .int k0] ∧ SqL K H1 a xs ∧ (-(2 ^ 63) ≤ k0 ∧ k0 < 2 ^ 63) ∧ R (IteK K k0 a) H1
theorem pi_enumK {X : Cx} {e e2 : Expr} {ta : TA} {p pos tpos : Pos} {elts : List Expr} {kk : Nat} (hg : Gl X "enumerate") (hm : X.mg "enumerate" = none) (ha : PA X [e, e2] ta)
    (hs : starEach [e, e2] X.env = (false, eval e X.env) :: starEach [e2] X.env := by rfl) (hpl : (backTo pos (starEach [e2] X.env)).any (·.1) = false := by rfl) :
    PI X (.Tuple elts kk tpos) (.Call (.Name "enumerate" p) [e, e2] [] pos) (iEnumK X.K ta) := by
  refine ⟨fun pins s σ H R I h => ?_⟩
  refine Call_ (ld_blt I hg hm boot_enumerate (PyProof.Rows.callWith_type1 (thn (ha.run pos pins s σ H _ I h) fun us s1 ⟨vs, H1, I1, r1, q1⟩ => ?_) hs hpl))
  obtain ⟨a, xs, k0, ex, hq, hk0, q⟩ := q1
  subst ex
  cases r1 with
  | cons r rr =>
    cases rr with
    | cons r' rr =>
      cases rr
      cases r
      obtain ⟨tk, rfl⟩ := r'
      obtain ⟨its, rv, p', hz⟩ := I1.list hq
      refine enum_begins (begins_list a _) p'.isList hk0.1 hk0.2 fun h' he hit hsz hk => wpAny_pyIter_enum he ?_
      have I2 : Inv X pins σ H1 { s1 with heap := h' } := I1.kept (t' := s1.toks) hk
      have he0 : IsEnum h' (s1.heap.objs.size + 1) s1.heap.objs.size (k0 + ((0 : Nat) : Int)) .none := by
        have e0 : k0 + ((0 : Nat) : Int) = k0 := by omega
        rw [e0]; exact he
      refine ⟨s1.heap.objs.size + 1, [s1.heap.objs.size + 1, s1.heap.objs.size], _, _, H1, rfl, I2, turn_enumK k0 a (s1.heap.objs.size + 1) s1.heap.objs.size, ⟨⟨.none, he0⟩, ⟨_, hit, rfl, rfl⟩, Nat.succ_ne_self _⟩, fun b hb => ?_, q⟩
      have e' : b = s1.heap.objs.size + 1 ∨ b = s1.heap.objs.size := by simpa using hb
      have hle : s1.heap.objs.size ≤ b := by
        rcases e' with z | z
        · rw [z]; exact Nat.le_add_right _ _
        · rw [z]; exact Nat.le_refl _
      exact I1.fpOk hle (I1.hok.fresh hle)
/-- enumerate(xs, k) -/
def itEnumK (pa : PAs) : PIt := fun env Q => pa env fun gs env1 => match gs with
  | [.d (.list ds), .d (.int k)] => (0 ≤ k ∧ k < 2 ^ 62) ∧ Q (enumD k.toNat ds) env1
  | _ => False
theorem feeds_enumK {K : PySem.W.Frag} {F : Hp} {a : Addr} {vs : List V} {ds : List PyData} {k : Nat} (h : F a = some (.lst vs)) (r : FpAll F vs ds) : Feeds K F (IteK K (k : Int) a) (enumD k ds) := fun i H Fc f s => by
  have hH := s _ _ (f _ _ h)
  refine ⟨fun d e => ?_, fun e => ⟨vs, SqL.of hH, by rw [r.length]; rw [enumD_length] at e; exact e⟩⟩
  obtain ⟨x, e1, rfl⟩ := enumD_get e
  obtain ⟨v, h1, h2⟩ := r.get e1
  refine ⟨⟨vs, v, SqL.of hH, h1⟩, fun z H' y => ?_⟩
  obtain ⟨T, w, rfl, hT, rfl, y⟩ := y
  have := y vs (SqL.of hH)
  rw [h1] at this
  cases this
  have g := Gr.laid (o := HO.tup [.int ((k : Int) + (i : Nat)), v]) s hT
  refine ⟨_, g, .tup upd_same (.cons ?_ (.cons ((h2.to f).to g.ff) .nil))⟩
  rw [show (k : Int) + (i : Nat) = ((k + i : Nat) : Int) by omega]
  exact .int _
theorem li_enumK {X : Cx} {E : Ent} {tg e a b : Expr} {pas : PAs} (h0 : ∀ ta, PA X [a, b] ta → PI X tg e (iEnumK X.K ta)) (ha : PA X [a, b] (liftA X.K E pas)) : PI X tg e (liftI X.K E (itEnumK pas)) :=
  pi_w (h0 _ ha) fun σ H R ⟨ts, F, env, As, Q', S, fx, p, k⟩ => ⟨ts, F, env, As, _, S, fx, p, fun vs gs F1 H1 env1 As1 S1 f1 P q => by
    split at q
    · rename_i ds k0
      obtain ⟨v, u, rfl, hv, hu⟩ := paired_two P
      obtain ⟨a, us, rfl, ha, ra⟩ := hv.lst_inv
      obtain ⟨⟨q1, q2⟩, q⟩ := q
      refine ⟨a, us, k0, by rw [hu.int_inv], SqL.of (S1.sub _ _ ha), ⟨by omega, by omega⟩, k _ _ F1 H1 env1 As1 S1 f1 ?_ q⟩
      have := feeds_enumK (K := X.K) (k := k0.toNat) ha ra
      rwa [show ((k0.toNat : Nat) : Int) = k0 by omega] at this
    · exact q.elim⟩
theorem enumD_atK {α : Type} {f : α → PyData} {xs : List α} {k i : Nat} {d : PyData} (h : (enumD k (xs.map f))[i]? = some d) : ∃ v, xs[i]? = some v ∧ d = .tuple [.int (k + i : Nat), f v] := by
  obtain ⟨x, h1, rfl⟩ := enumD_get h
  obtain ⟨v, h2, rfl⟩ := map_get h1
  exact ⟨v, h2, rfl⟩
end PL

namespace PL
open PySem PySem.Spec PyProof.Rows L2

/-! ### 53. isinstance of a still value and a built-in type -/
def tyD : PyData → String
  | .none => "NoneType"
  | .bool _ => "bool"
  | .int _ => "int"
  | .str _ => "str"
  | .list _ => "list"
  | .tuple _ => "tuple"
  | .dict _ => "dict"
/-- what isinstance says of a type's name -/
def isTy (T t : String) : Bool := t == T || (t == "bool" && T == "int")
inductive Tk | bool | int | str | list | tuple
def Tk.s : Tk → String
  | .bool => "bool"
  | .int => "int"
  | .str => "str"
  | .list => "list"
  | .tuple => "tuple"
/-- the same, without a text -/
def isK : Tk → PyData → Bool
  | .bool, .bool _ => true
  | .int, .int _ => true
  | .int, .bool _ => true
  | .str, .str _ => true
  | .list, .list _ => true
  | .tuple, .tuple _ => true
  | _, _ => false
theorem isK_eq (T : Tk) (d : PyData) : isTy T.s (tyD d) = isK T d := by
  cases T <;> cases d <;> simp [isTy, tyD, Tk.s, isK]
def pIsi (T : Tk) (pa : PX) : PO := fun env Q => pa env fun d env1 => Q (.v (.bool (isK T d))) env1
theorem Fp.ty {K : PySem.W.Frag} {F H : Hp} (s : Same F H) {v : V} {d : PyData} (h : Fp F v d) : TyX K H v (.type (tyD d)) := by
  cases h with
  | non => exact .base .non
  | bl b => exact .base (.bl b)
  | int i => exact .base (.int i)
  | str x => exact .base (.str x)
  | lst e _ => exact .base (.lst (s _ _ e))
  | tup e _ => exact .base (.tup (s _ _ e))
/-- the five types that are asked for -/
def KitT (T : String) : Prop := ∀ t ∈ ["NoneType", "bool", "int", "str", "list", "tuple", "dict"], kitB t T = some (isTy T t)
theorem kt_bool : KitT "bool" := by intro t ht; simp only [List.mem_cons, List.not_mem_nil, or_false] at ht; rcases ht with rfl | rfl | rfl | rfl | rfl | rfl | rfl <;> decide +kernel
theorem kt_int : KitT "int" := by intro t ht; simp only [List.mem_cons, List.not_mem_nil, or_false] at ht; rcases ht with rfl | rfl | rfl | rfl | rfl | rfl | rfl <;> decide +kernel
theorem kt_str : KitT "str" := by intro t ht; simp only [List.mem_cons, List.not_mem_nil, or_false] at ht; rcases ht with rfl | rfl | rfl | rfl | rfl | rfl | rfl <;> decide +kernel
theorem kt_list : KitT "list" := by intro t ht; simp only [List.mem_cons, List.not_mem_nil, or_false] at ht; rcases ht with rfl | rfl | rfl | rfl | rfl | rfl | rfl <;> decide +kernel
theorem kt_tuple : KitT "tuple" := by intro t ht; simp only [List.mem_cons, List.not_mem_nil, or_false] at ht; rcases ht with rfl | rfl | rfl | rfl | rfl | rfl | rfl <;> decide +kernel
theorem tyD_mem (d : PyData) : tyD d ∈ ["NoneType", "bool", "int", "str", "list", "tuple", "dict"] := by cases d <;> simp [tyD]
section
variable {X : Cx} {E : Ent} {pa : PX} {p p2 pos : Pos} {e : Expr}
theorem l_isi {T : Tk} {x : Str} (hT : KitT T.s) (hg : Gl X "isinstance") (hm : X.mg "isinstance" = none) (hg2 : Gl X x) (hm2 : X.mg x = none) (hv : bootBuiltins x = some (.type T.s)) (ha : PE X e (liftE X.K E pa)) (hn : x ≠ "__name__" := by decide) (hd : (x == ("__debug__" : Str)) = false := by decide)
    (he : starEach (e :: [.Name x p2]) X.env = (false, eval e X.env) :: starEach [.Name x p2] X.env := by rfl) (hpl : (backTo pos (starEach [.Name x p2] X.env)).any (·.1) = false := by rfl) (hs : starEach (.Name x p2 :: []) X.env = (false, eval (.Name x p2) X.env) :: starEach [] X.env := by rfl) :
    PE X (.Call (.Name "isinstance" p) [e, .Name x p2] [] pos) (liftO X.K E (pIsi T pa)) := by
  refine pe_w (pe_callB (call_isi (X := X)) hg hm (by decide +kernel) (pa_cons ha (pa_cons (pe_bltn (v := .ty T.s) hg2 hm2 hv rfl hn hd) pa_nil hs) he) (by decide) (by decide) he hpl) fun σ H Q ⟨ts, F, env, As, Q', S, fx, p, k⟩ => ?_
  refine ⟨ts, F, env, As, _, S, fx, p, fun v d F1 H1 env1 As1 S1 f1 h q => ?_⟩
  exact ⟨v, .ty T.s, _, _, _, rfl, .ty T.s, h.ty S1.sub, kit_ty ((hT _ (tyD_mem d)).trans (congrArg some (isK_eq T d))), k _ _ [] F1 H1 env1 As1 S1 f1 (RsOk.v (.bl _)) q⟩
end
/-- a def that calls itself, never called -/
theorem fng_no {P : Program} {w : World} {K : PySem.W.Frag} {mg : Str → Option Value} {base : Heap} {CX : CXT} {k n : Nat} {f : Addr} {fd : FuncData} {ps : List Str} {fx : List Nat} (hl : ps.length = n) : FnG P w K mg base CX k f fd ps (liftSp K n fx fun _ _ => False) :=
  ⟨fun vs H Q E h => by rw [h.1, hl], fun A outer s H args us vs Q E _ _ _ _ _ h => by obtain ⟨_, F, a, As, Q', _, _, z, _⟩ := h; exact z.elim⟩
end PL

namespace PL
open PySem PySem.Spec PyProof.Rows L2

/-! ### 54. all arrangements, value by value -/
/-- a value put into each place of a row -/
def putB (v : Int) (l : List Int) : List (List Int) := (List.range (l.length + 1)).map fun s => l.take s ++ [v] ++ l.drop s
/-- all arrangements, value by value -/
def rowsB : Nat → List (List Int)
  | 0 => [[]]
  | n + 1 => (rowsB n).flatMap (putB ((n : Int) + 1))
theorem deck_succ (n : Nat) : deck (n + 1) = deck n ++ [(n : Int) + 1] := by simp [deck, List.range_succ]
theorem putB_perm {v : Int} {l r : List Int} (h : r ∈ putB v l) : r.Perm (l ++ [v]) := by
  obtain ⟨s, _, rfl⟩ := List.mem_map.mp h
  have e : l.take s ++ (l.drop s ++ [v]) = l ++ [v] := by rw [← List.append_assoc, List.take_append_drop]
  rw [List.append_assoc]
  exact (List.Perm.append_left _ List.perm_append_comm).trans (List.Perm.of_eq e)
theorem rowsB_mem : ∀ {n : Nat} {r : List Int}, r ∈ rowsB n ↔ Arr n r := by
  intro n
  induction n with
  | zero =>
    intro r
    show r ∈ [[]] ↔ r.Perm (deck 0)
    rw [List.mem_singleton, show deck 0 = [] from rfl, List.perm_nil]
  | succ n ih =>
    intro r
    show r ∈ (rowsB n).flatMap _ ↔ r.Perm (deck (n + 1))
    rw [List.mem_flatMap, deck_succ]
    constructor
    · rintro ⟨l, hl, hr⟩
      exact (putB_perm hr).trans ((ih.mp hl).append_right _)
    · intro h
      have hm : (n : Int) + 1 ∈ r := h.mem_iff.mpr (List.mem_append_right _ (List.mem_singleton_self _))
      obtain ⟨a, b, rfl⟩ := List.append_of_mem hm
      have h2 : (a ++ b).Perm (deck n) := by
        have h3 : ((n + 1 : Int) :: (a ++ b)).Perm ((n + 1 : Int) :: deck n) := (List.perm_middle.symm.trans h).trans (List.perm_append_singleton _ _)
        exact h3.cons_inv
      refine ⟨a ++ b, ih.mpr h2, List.mem_map.mpr ⟨a.length, List.mem_range.mpr (by rw [List.length_append]; omega), ?_⟩⟩
      rw [List.take_left, List.drop_left, List.append_assoc]
      rfl
theorem rowsB_len : ∀ n, n ≤ 8 → (rowsB n).length ≤ 40320 ∧ (n ≤ 7 → (rowsB n).length ≤ 5040) := by
  have st : ∀ n m, (rowsB n).length ≤ m → (rowsB (n + 1)).length ≤ m * (n + 1) := by
    intro n m h
    refine Nat.le_trans (flatMap_le (m := n + 1) (rowsB n) fun l hl => ?_) (Nat.mul_le_mul_right _ h)
    unfold putB
    rw [List.length_map, List.length_range, (rowsB_mem.mp hl).len]
    exact Nat.le_refl _
  have h0 : (rowsB 0).length ≤ 1 := Nat.le_refl _
  have h1 : (rowsB 1).length ≤ 1 := st 0 _ h0
  have h2 : (rowsB 2).length ≤ 2 := st 1 _ h1
  have h3 : (rowsB 3).length ≤ 6 := st 2 _ h2
  have h4 : (rowsB 4).length ≤ 24 := st 3 _ h3
  have h5 : (rowsB 5).length ≤ 120 := st 4 _ h4
  have h6 : (rowsB 6).length ≤ 720 := st 5 _ h5
  have h7 : (rowsB 7).length ≤ 5040 := st 6 _ h6
  have h8 : (rowsB 8).length ≤ 40320 := st 7 _ h7
  intro n hn
  have : n = 0 ∨ n = 1 ∨ n = 2 ∨ n = 3 ∨ n = 4 ∨ n = 5 ∨ n = 6 ∨ n = 7 ∨ n = 8 := by omega
  rcases this with rfl | rfl | rfl | rfl | rfl | rfl | rfl | rfl | rfl <;> omega
theorem RD.cs {n : Nat} {cs : List (Int × Int)} {k B : Nat} (h : ∀ c ∈ cs, Fit n c) (hn : n ≤ 1000) (hl : cs.length * 3 ≤ B) : RD (.list (cs.map ct)) (k + 2) B := by
  have z := RDA.map (f := ct) (l := cs) (k := k + 1) (B := 2) fun c hc => by
    obtain ⟨h1, h2, h3⟩ := h c hc
    exact (RD.tup (.cons (B := 0) (RD.int (by omega)) (.cons (B := 0) (C := 0) (RD.int (by omega)) .nil))).mono (Nat.le_refl _) (by omega)
  exact (RD.list z).mono (Nat.le_refl _) hl
theorem fitb {n : Nat} {cs : List (Int × Int)} (h : (cs.all fun c => decide (1 ≤ c.1 ∧ c.1 ≤ c.2 ∧ c.2 ≤ n)) = true) : ∀ c ∈ cs, Fit n c := fun c hc => of_decide_eq_true (p := 1 ≤ c.1 ∧ c.1 ≤ c.2 ∧ c.2 ≤ n) (List.all_eq_true.mp h c hc)
end PL

/-! generators that are walked while others run: a run that wakes no sleeper leaves the sleepers as they are -/
namespace PL
open PySem PySem.Spec PyProof.Rows L2 GenW
open Sem (wp)

/-! ### the sleepers of a state -/
def gKill : GenState → GenState
  | .suspended _ l c p fs cl => .suspended (fun _ => .unsupported "") l c p fs cl
  | x => x
def gTame : GenState → Prop
  | .suspended _ _ _ _ fs _ => splitAtGen fs = none
  | _ => True
def gAsl : GenState → Bool
  | .suspended .. => true
  | _ => false
theorem no_runs_un {M : Model} {w : String} : ∀ {Γ : PySem.Ctx} {p : Pos} {t : Sem PySem.Fin} {fs : List Frame} {s : Shared} {e : End} {s' : Shared}, Runs M Γ p t fs s e s' → t = .unsupported w → False := by
  intro Γ p t fs s e s' h
  induction h <;> intro z <;> first | (cases z; done) | (simp_all; done) | skip
/-- x: where the sleepers of og are dead; y: where they sleep -/
structure Rv (og : Array GenState) (x y : Shared) : Prop where
  heap : y.heap = x.heap
  os : y.os = x.os
  toks : y.toks = x.toks
  drawn : y.drawn = x.drawn
  size : y.gens.size = x.gens.size
  le : og.size ≤ x.gens.size
  asl : ∀ (i : Nat) (gs : GenState), og[i]? = some gs → gAsl gs = true → x.gens[i]? = some (gKill gs) ∧ y.gens[i]? = some gs
  oth : ∀ (i : Nat), (∀ gs : GenState, og[i]? = some gs → gAsl gs = false) → y.gens[i]? = x.gens[i]? ∧ ∀ gs, x.gens[i]? = some gs → gTame gs
theorem gKill_seen (gs : GenState) : (gKill gs).seen = gs.seen := by cases gs <;> rfl
theorem gKill_bare (gs : GenState) : (gKill gs).bare = gs.bare := by cases gs <;> rfl
theorem gKill_not {gs : GenState} (h : gAsl gs = false) : gKill gs = gs := by cases gs <;> first | rfl | cases h
theorem gTame_not {gs : GenState} (h : gAsl gs = false) : gTame gs := by cases gs <;> first | trivial | cases h
def killS (s : Shared) : Shared := { s with gens := s.gens.map gKill }
theorem rv_start (s : Shared) : Rv s.gens (killS s) s where
  heap := rfl
  os := rfl
  toks := rfl
  drawn := rfl
  size := by simp [killS]
  le := by simp [killS]
  asl := fun i gs e _ => ⟨by simp [killS, e], e⟩
  oth := fun i h => by
    have e : (killS s).gens[i]? = s.gens[i]?.map gKill := by simp [killS]
    cases q : s.gens[i]? with
    | none => rw [q] at e; exact ⟨by rw [e]; rfl, fun gs z => by rw [e] at z; cases z⟩
    | some gs =>
      rw [q] at e
      have := h gs q
      refine ⟨by rw [e]; show some gs = some (gKill gs); rw [gKill_not this], fun g2 z => ?_⟩
      rw [e] at z
      have z2 : gKill gs = g2 := Option.some.inj z
      rw [← z2, gKill_not this]
      exact gTame_not this
theorem setGen_other {s : Shared} {g i : Nat} {x : GenState} (h : i ≠ g) : (s.setGen g x).gens[i]? = s.gens[i]? := by
  show (s.gens.setIfInBounds g x)[i]? = _
  rw [Array.getElem?_setIfInBounds_ne (Ne.symm h)]
theorem lt_of_some {α : Type} {a : Array α} {i : Nat} {x : α} (h : a[i]? = some x) : i < a.size := by
  rcases Nat.lt_or_ge i a.size with q | q
  · exact q
  · rw [Array.getElem?_eq_none q] at h; cases h
section
variable {og : Array GenState} {x y : Shared}
theorem Rv.hp (r : Rv og x y) (h : Heap) : Rv og { x with heap := h } { y with heap := h } := ⟨rfl, r.os, r.toks, r.drawn, r.size, r.le, r.asl, r.oth⟩
/-- a step at one that is no sleeper -/
theorem Rv.set (r : Rv og x y) {g : Nat} {gs : GenState} (ng : ∀ z, og[g]? = some z → gAsl z = false) (t : gTame gs) : Rv og (x.setGen g gs) (y.setGen g gs) where
  heap := r.heap
  os := r.os
  toks := r.toks
  drawn := r.drawn
  size := by rw [setGen_size, setGen_size]; exact r.size
  le := by rw [setGen_size]; exact r.le
  asl := fun i z e h => by
    have ne : i ≠ g := fun q => by
      subst q
      have := ng z e
      rw [h] at this; cases this
    rw [setGen_other ne, setGen_other ne]
    exact r.asl i z e h
  oth := fun i h => by
    by_cases e : i = g
    · subst e
      by_cases hl : i < x.gens.size
      · rw [setGen_at hl, setGen_at (by rw [r.size]; exact hl)]
        exact ⟨rfl, fun z q => by cases q; exact t⟩
      · have n1 : (x.setGen i gs).gens[i]? = none := Array.getElem?_eq_none (by rw [setGen_size]; omega)
        have n2 : (y.setGen i gs).gens[i]? = none := Array.getElem?_eq_none (by rw [setGen_size, r.size]; omega)
        rw [n1, n2]
        exact ⟨rfl, fun z q => by cases q⟩
    · rw [setGen_other e, setGen_other e]
      exact r.oth i h
theorem Rv.push (r : Rv og x y) (c : Code) : Rv og { x with gens := x.gens.push (.fresh c) } { y with gens := y.gens.push (.fresh c) } where
  heap := r.heap
  os := r.os
  toks := r.toks
  drawn := r.drawn
  size := by simp [r.size]
  le := by have := r.le; simp; omega
  asl := fun i z e h => by
    have hl := lt_of_some e
    have := r.le
    have := r.size
    obtain ⟨q1, q2⟩ := r.asl i z e h
    exact ⟨by rw [Array.getElem?_push_lt (by omega)]; rw [Array.getElem?_eq_getElem (by omega)] at q1; exact q1, by rw [Array.getElem?_push_lt (by omega)]; rw [Array.getElem?_eq_getElem (by omega)] at q2; exact q2⟩
  oth := fun i h => by
    have hs := r.size
    rcases Nat.lt_trichotomy i x.gens.size with q | q | q
    · obtain ⟨q1, q2⟩ := r.oth i h
      have e1 : (x.gens.push (.fresh c))[i]? = x.gens[i]? := by rw [Array.getElem?_push_lt q, Array.getElem?_eq_getElem q]
      have e2 : (y.gens.push (.fresh c))[i]? = y.gens[i]? := by rw [Array.getElem?_push_lt (by omega), Array.getElem?_eq_getElem (by omega)]
      exact ⟨by rw [e1, e2]; exact q1, fun gs z => q2 gs (by rw [← e1]; exact z)⟩
    · subst q
      have e1 : (x.gens.push (.fresh c))[x.gens.size]? = some (.fresh c) := Array.getElem?_push_size ..
      have e2 : (y.gens.push (.fresh c))[x.gens.size]? = some (.fresh c) := by rw [← hs]; exact Array.getElem?_push_size ..
      exact ⟨by rw [e1, e2], fun gs z => by rw [e1] at z; cases z; trivial⟩
    · have e1 : (x.gens.push (.fresh c))[i]? = none := Array.getElem?_eq_none (by simp; omega)
      have e2 : (y.gens.push (.fresh c))[i]? = none := Array.getElem?_eq_none (by simp; omega)
      exact ⟨by rw [e1, e2], fun gs z => by rw [e1] at z; cases z⟩
theorem Rv.at (r : Rv og x y) {g : Nat} {st : GenState} (h : x.gens[g]? = some st) : ∃ st', y.gens[g]? = some st' ∧ st'.seen = st.seen := by
  by_cases c : ∃ z, og[g]? = some z ∧ gAsl z = true
  · obtain ⟨z, e, k⟩ := c
    obtain ⟨q1, q2⟩ := r.asl g z e k
    rw [h] at q1
    refine ⟨z, q2, ?_⟩
    rw [Option.some.inj q1, gKill_seen]
  · obtain ⟨q1, _⟩ := r.oth g fun z e => by
      cases k : gAsl z with
      | true => exact absurd ⟨z, e, k⟩ c
      | false => rfl
    exact ⟨st, by rw [q1]; exact h, rfl⟩
/-- what can be woken is no sleeper of og -/
theorem Rv.alive (r : Rv og x y) {g : Nat} {st : GenState} (h : x.gens[g]? = some st) (n : ∀ l c p fs cl, st ≠ .suspended (fun _ => .unsupported "") l c p fs cl) :
    (∀ z, og[g]? = some z → gAsl z = false) ∧ y.gens[g]? = some st ∧ gTame st := by
  have ng : ∀ z, og[g]? = some z → gAsl z = false := fun z e => by
    cases k : gAsl z with
    | false => rfl
    | true =>
      obtain ⟨q1, _⟩ := r.asl g z e k
      rw [h] at q1
      cases z with
      | suspended k l c p fs cl => exact absurd (Option.some.inj q1) (n l c p fs cl)
      | fresh c => cases k
      | running => cases k
      | finished => cases k
  obtain ⟨q1, q2⟩ := r.oth g ng
  exact ⟨ng, by rw [q1]; exact h, q2 st h⟩
end
theorem split_app {as bs : List Frame} (h1 : splitAtGen as = none) (h2 : splitAtGen bs = none) : splitAtGen (as ++ bs) = none := by
  induction as with
  | nil => exact h2
  | cons a as ih =>
    cases a with
    | ret k h g l c p kp =>
      have z : (splitAtGen as).map _ = none := h1
      have z1 : splitAtGen as = none := by
        cases q : splitAtGen as with
        | none => rfl
        | some v => rw [q] at z; cases z
      show (splitAtGen (as ++ bs)).map _ = none
      rw [ih z1]; rfl
    | gen g k l c p => cases h1
theorem split_ret {k : Result → Sem PySem.Fin} {h : Option Value} {g : Bool} {l kp : List Value} {c : Code} {p : Pos} {fs : List Frame} (z : splitAtGen (.ret k h g l c p kp :: fs) = none) : splitAtGen fs = none := by
  have z' : (splitAtGen fs).map _ = none := z
  cases q : splitAtGen fs with
  | none => rfl
  | some v => rw [q] at z'; cases z'
def endTame : End → Prop
  | .ret _ => True
  | .susp _ _ _ _ _ _ fs => splitAtGen fs = none
theorem endTame.st {e : End} (h : endTame e) : gTame e.genState := by
  cases e with
  | ret r => trivial
  | susp v g l k c p fs => exact h
theorem runs_rv {M : Model} {og : Array GenState} {Γ : PySem.Ctx} {p : Pos} {t : Sem PySem.Fin} {fs : List Frame} {x x' : Shared} {e : End} (h : Runs M Γ p t fs x e x') :
    splitAtGen fs = none → ∀ y, Rv og x y → ∃ y', Rv og x' y' ∧ Runs M Γ p t fs y e y' ∧ endTame e := by
  induction h with
  | done => exact fun _ y r => ⟨y, r, .done, trivial⟩
  | raise => exact fun _ y r => ⟨y, r, .raise, trivial⟩
  | again hq _ ih => exact fun hs y r => let ⟨y', r', h', n⟩ := ih hs y r; ⟨y', r', .again hq h', n⟩
  | rule _ ih => exact fun hs y r => let ⟨y', r', h', n⟩ := ih hs y r; ⟨y', r', .rule h', n⟩
  | «at» _ ih => exact fun hs y r => let ⟨y', r', h', n⟩ := ih hs y r; ⟨y', r', .at h', n⟩
  | load ho _ ih => exact fun hs y r => let ⟨y', r', h', n⟩ := ih hs y r; ⟨y', r', .load (by rw [r.heap]; exact ho) h', n⟩
  | update ho _ ih =>
    intro hs y r
    obtain ⟨y', r', h', n⟩ := ih hs _ (r.hp _)
    refine ⟨y', r', .update (by rw [r.heap]; exact ho) ?_, n⟩
    rw [r.heap]
    exact h'
  | loadIfAlive _ ih =>
    intro hs y r
    obtain ⟨y', r', h', n⟩ := ih hs y r
    refine ⟨y', r', .loadIfAlive ?_, n⟩
    rw [r.heap]
    exact h'
  | point _ ih => exact fun hs y r => let ⟨y', r', h', n⟩ := ih hs y r; ⟨y', r', .point h', n⟩
  | alloc _ ih =>
    intro hs y r
    obtain ⟨y', r', h', n⟩ := ih hs _ (r.hp _)
    refine ⟨y', r', .alloc ?_, n⟩
    rw [r.heap]
    exact h'
  | fresh _ ih =>
    rename_i Γ p k s e s' hh
    intro hs y r
    obtain ⟨y', r', h', n⟩ := ih hs { y with toks := y.toks + 1 } ⟨r.heap, r.os, by show y.toks + 1 = _; rw [r.toks], r.drawn, r.size, r.le, r.asl, r.oth⟩
    refine ⟨y', r', .fresh ?_, n⟩
    rw [r.toks] at h' ⊢
    exact h'
  | ask _ ih => exact fun hs y r => let ⟨y', r', h', n⟩ := ih hs y r; ⟨y', r', .ask h', n⟩
  | choose hn _ ih =>
    rename_i n Γ p k s e s' src hh
    intro hs y r
    obtain ⟨y', r', h', n⟩ := ih hs { y with drawn := y.drawn.bump src } ⟨r.heap, r.os, r.toks, by show y.drawn.bump src = _; rw [r.drawn], r.size, r.le, r.asl, r.oth⟩
    refine ⟨y', r', .choose hn ?_, n⟩
    rw [r.drawn] at h' ⊢
    exact h'
  | os _ ih =>
    rename_i Γ p k s e s' q l hh
    intro hs y r
    obtain ⟨y', r', h', n⟩ := ih hs { y with os := (Os.step y.os q).1 } ⟨r.heap, by show (Os.step y.os q).1 = _; rw [r.os], r.toks, r.drawn, r.size, r.le, r.asl, r.oth⟩
    refine ⟨y', r', .os ?_, n⟩
    rw [r.os] at h' ⊢
    exact h'
  | handled _ ih => exact fun hs y r => let ⟨y', r', h', n⟩ := ih hs y r; ⟨y', r', .handled h', n⟩
  | genState hg _ ih =>
    intro hs y r
    obtain ⟨y', r', h', n⟩ := ih hs y r
    obtain ⟨st', q1, q2⟩ := r.at hg
    exact ⟨y', r', .genState q1 (by rw [q2]; exact h'), n⟩
  | stack _ ih => exact fun hs y r => let ⟨y', r', h', n⟩ := ih hs y r; ⟨y', r', .stack h', n⟩
  | thread _ ih => exact fun hs y r => let ⟨y', r', h', n⟩ := ih hs y r; ⟨y', r', .thread h', n⟩
  | newGen _ ih =>
    intro hs y r
    obtain ⟨y', r', h', n⟩ := ih hs _ (r.push _)
    refine ⟨y', r', .newGen ?_, n⟩
    rw [r.size]
    exact h'
  | call _ _ i1 i2 =>
    intro hs y r
    obtain ⟨y1, r1, h1, _⟩ := i1 rfl y r
    obtain ⟨y2, r2, h2, n⟩ := i2 hs y1 r1
    exact ⟨y2, r2, .call h1 h2, n⟩
  | callSusp _ ih =>
    intro hs y r
    obtain ⟨y1, r1, h1, n⟩ := ih rfl y r
    exact ⟨y1, r1, .callSusp h1, split_app n rfl⟩
  | yield => exact fun _ y r => ⟨y, r, .yield, rfl⟩
  | resumeFresh hg _ hq _ i1 i2 =>
    intro hs y r
    obtain ⟨ng, q, _⟩ := r.alive hg (fun _ _ _ _ _ z => by cases z)
    obtain ⟨y1, r1, h1, n1⟩ := i1 rfl _ (r.set ng trivial)
    obtain ⟨y2, r2, h2, n⟩ := i2 hs _ (r1.set ng n1.st)
    exact ⟨y2, r2, .resumeFresh q h1 hq h2, n⟩
  | resumeSuspended hg hr hq _ i1 i2 =>
    intro hs y r
    obtain ⟨ng, q, ta⟩ := r.alive hg (fun l c p fs cl z => by
      cases z
      exact no_runs_un hr rfl)
    obtain ⟨y1, r1, h1, n1⟩ := i1 ta _ (r.set ng trivial)
    obtain ⟨y2, r2, h2, n⟩ := i2 hs _ (r1.set ng n1.st)
    exact ⟨y2, r2, .resumeSuspended q h1 hq h2, n⟩
  | resumeJustStarted hg hv _ ih =>
    intro hs y r
    obtain ⟨ng, q, _⟩ := r.alive hg (fun _ _ _ _ _ z => by cases z)
    obtain ⟨y', r', h', n⟩ := ih hs y r
    exact ⟨y', r', .resumeJustStarted q hv h', n⟩
  | resumeThrowFresh hg _ ih =>
    intro hs y r
    obtain ⟨ng, q, _⟩ := r.alive hg (fun _ _ _ _ _ z => by cases z)
    obtain ⟨y', r', h', n⟩ := ih hs _ (r.set ng trivial)
    exact ⟨y', r', .resumeThrowFresh q h', n⟩
  | resumeRunning hg _ ih =>
    intro hs y r
    obtain ⟨ng, q, _⟩ := r.alive hg (fun _ _ _ _ _ z => by cases z)
    obtain ⟨y', r', h', n⟩ := ih hs y r
    exact ⟨y', r', .resumeRunning q h', n⟩
  | resumeFinished hg _ ih =>
    intro hs y r
    obtain ⟨ng, q, _⟩ := r.alive hg (fun _ _ _ _ _ z => by cases z)
    obtain ⟨y', r', h', n⟩ := ih hs y r
    exact ⟨y', r', .resumeFinished q h', n⟩
  | segRet _ _ i1 i2 =>
    intro hs y r
    obtain ⟨y1, r1, h1, _⟩ := i1 rfl y r
    obtain ⟨y2, r2, h2, n⟩ := i2 (split_ret hs) y1 r1
    exact ⟨y2, r2, .segRet h1 h2, n⟩
  | segGen _ _ i1 i2 => exact fun hs => nomatch hs
  | segSuspOut hn _ ih =>
    intro hs y r
    obtain ⟨y1, r1, h1, n⟩ := ih rfl y r
    exact ⟨y1, r1, .segSuspOut hn h1, split_app n hn⟩
  | segSuspGen hn _ _ _ _ _ =>
    intro hs
    rw [hs] at hn
    cases hn

theorem wp_rv {α : Type} {M : Model} {Γ : PySem.Ctx} {og : Array GenState} (t : Sem α) : ∀ {Q : α → Pos → Shared → Prop} {E : Value → Pos → Shared → Prop} {p : Pos} {x y : Shared}, wp M Γ t Q E p x → Rv og x y →
    wp M Γ t (fun a p' y' => ∃ x', Rv og x' y' ∧ Q a p' x') (fun e p' y' => ∃ x', Rv og x' y' ∧ E e p' x') p y := by
  induction t with
  | pure a => intro Q E p x y h r; exact ⟨x, r, h⟩
  | raise e => intro Q E p x y h r; exact ⟨x, r, h⟩
  | unsupported _ => intro Q E p x y h _; exact h
  | finish _ => intro Q E p x y h _; exact h
  | rule _ k ih => intro Q E p x y h r; exact ih () h r
  | «at» p' k ih => intro Q E p x y h r; exact ih () h r
  | load a _ k ih => intro Q E p x y h r; obtain ⟨o, ho, h⟩ := h; exact ⟨o, by rw [r.heap]; exact ho, ih o h r⟩
  | update a _ f k ih =>
    intro Q E p x y h r
    have z := ih () h.2 (r.hp _)
    refine ⟨by rw [r.heap]; exact h.1, ?_⟩
    rw [r.heap]
    exact z
  | loadIfAlive a k ih =>
    intro Q E p x y h r
    have z := ih _ h r
    rw [← r.heap] at z
    exact z
  | point _ k ih => intro Q E p x y h r; exact ih () h r
  | register _ _ => intro Q E p x y h _; exact h
  | alloc o k ih =>
    intro Q E p x y h r
    have z := ih _ h (r.hp _)
    rw [← r.heap] at z
    exact z
  | fresh k ih =>
    intro Q E p x y h r
    have z := ih _ h (y := { y with toks := y.toks + 1 }) ⟨r.heap, r.os, by show y.toks + 1 = _; rw [r.toks], r.drawn, r.size, r.le, r.asl, r.oth⟩
    rw [← r.toks] at z
    exact z
  | ask k ih => intro Q E p x y h r; exact ih _ h r
  | choose src m k ih =>
    intro Q E p x y h r
    have z := ih _ h.2 (y := { y with drawn := y.drawn.bump src }) ⟨r.heap, r.os, r.toks, by show y.drawn.bump src = _; rw [r.drawn], r.size, r.le, r.asl, r.oth⟩
    rw [← r.drawn] at z
    exact ⟨h.1, z⟩
  | os q _ k ih =>
    intro Q E p x y h r
    have z := ih _ h (y := { y with os := (Os.step y.os q).1 }) ⟨r.heap, by show (Os.step y.os q).1 = _; rw [r.os], r.toks, r.drawn, r.size, r.le, r.asl, r.oth⟩
    rw [← r.os] at z
    exact z
  | call c hd _ _ k ih =>
    intro Q E p x y h r
    obtain ⟨res, x1, hr, h⟩ := h
    obtain ⟨y1, r1, h1, _⟩ := runs_rv hr rfl y r
    exact ⟨res, y1, h1, ih res h r1⟩
  | handled own k ih => intro Q E p x y h r; exact ih _ h r
  | genState g k ih =>
    intro Q E p x y h r
    obtain ⟨st, hs, h⟩ := h
    obtain ⟨st', q1, q2⟩ := r.at hs
    exact ⟨st', q1, by rw [q2]; exact ih _ h r⟩
  | newGen c k ih =>
    intro Q E p x y h r
    have z := ih _ h (r.push c)
    rw [← r.size] at z
    exact z
  | resume g rs _ k ih =>
    intro Q E p x y h r
    obtain ⟨res, x1, hw, h⟩ := h
    have key : ∃ y1, Rv og x1 y1 ∧ Wakes M Γ p g rs y res y1 := by
      unfold Wakes at hw ⊢
      split at hw
      · exact hw.elim
      · rename_i c e
        obtain ⟨ng, q, _⟩ := r.alive e (fun _ _ _ _ _ z => by cases z)
        rw [q]
        split at hw
        · obtain ⟨e1, s1, hr, hq, hres, hs⟩ := hw
          obtain ⟨y1, r1, h1, n1⟩ := runs_rv hr rfl _ (r.set ng trivial)
          exact ⟨_, by rw [hs]; exact r1.set ng n1.st, e1, y1, h1, hq, hres, rfl⟩
        · exact ⟨y, by rw [hw.2]; exact r, hw.1, rfl⟩
        · exact ⟨_, by rw [hw.2]; exact r.set ng trivial, hw.1, rfl⟩
      · rename_i k0 l0 c0 p0 fs0 cl0 e
        obtain ⟨e1, s1, hr, hq, hres, hs⟩ := hw
        obtain ⟨ng, q, ta⟩ := r.alive e (fun l c p fs cl z => by
          cases z
          exact no_runs_un hr rfl)
        rw [q]
        obtain ⟨y1, r1, h1, n1⟩ := runs_rv hr ta _ (r.set ng trivial)
        exact ⟨_, by rw [hs]; exact r1.set ng n1.st, e1, y1, h1, hq, hres, rfl⟩
      · rename_i e
        obtain ⟨ng, q, _⟩ := r.alive e (fun _ _ _ _ _ z => by cases z)
        rw [q]
        exact ⟨y, by rw [hw.2]; exact r, hw.1, rfl⟩
      · rename_i e
        obtain ⟨ng, q, _⟩ := r.alive e (fun _ _ _ _ _ z => by cases z)
        rw [q]
        exact ⟨y, by rw [hw.2]; exact r, hw.1, rfl⟩
    obtain ⟨y1, r1, w1⟩ := key
    exact ⟨res, y1, w1, ih res h r1⟩
  | yield _ _ _ _ => intro Q E p x y h _; exact h
  | stack k ih => intro Q E p x y h r; exact ih _ h r
  | fork _ _ => intro Q E p x y h _; exact h
  | thread k ih => intro Q E p x y h r; exact ih _ h r
  | await _ _ _ _ _ => intro Q E p x y h _; exact h
theorem wpAny_rv {α : Type} {M : Model} {A : Around} {t : Sem α} {Q : α → Shared → Prop} {E : Value → Shared → Prop} {s : Shared} (h : wpAny M A t Q E (killS s)) :
    wpAny M A t (fun a y => ∃ x, Rv s.gens x y ∧ Q a x) (fun e y => ∃ x, Rv s.gens x y ∧ E e x) s := fun Γ p hΓ => wp_rv t (h Γ p hΓ) (rv_start s)
/-- the sleepers of s sleep on in s' -/
def Kg (s s' : Shared) : Prop := ∀ (i : Nat) (gs : GenState), s.gens[i]? = some gs → gAsl gs = true → s'.gens[i]? = some gs
theorem Kg.refl (s : Shared) : Kg s s := fun _ _ e _ => e
theorem Kg.trans {a b c : Shared} (h : Kg a b) (k : Kg b c) : Kg a c := fun i gs e z => k i gs (h i gs e z) z
theorem Kg.eq {s s' : Shared} (h : s'.gens = s.gens) : Kg s s' := fun i gs e _ => by rw [h]; exact e
theorem Rv.kg {s x y : Shared} (r : Rv s.gens x y) : Kg s y := fun i gs e z => (r.asl i gs e z).2
theorem Rv.bare {og : Array GenState} {x y : Shared} (r : Rv og x y) (h : AllBare x.gens) : AllBare y.gens := fun gs hm => by
  obtain ⟨i, hi, e⟩ := Array.mem_iff_getElem.mp hm
  have q : y.gens[i]? = some gs := by rw [Array.getElem?_eq_getElem hi, e]
  by_cases c : ∃ z, og[i]? = some z ∧ gAsl z = true
  · obtain ⟨z, e1, k⟩ := c
    obtain ⟨q1, q2⟩ := r.asl i z e1 k
    rw [q] at q2
    have e2 : gs = z := Option.some.inj q2
    have := h _ (Array.mem_of_getElem? q1)
    rw [e2, ← gKill_bare]
    exact this
  · obtain ⟨q1, _⟩ := r.oth i fun z e1 => by
      cases k : gAsl z with
      | true => exact absurd ⟨z, e1, k⟩ c
      | false => rfl
    rw [q] at q1
    exact h gs (Array.mem_of_getElem? q1.symm)
theorem kill_bare {s : Shared} (h : AllBare s.gens) : AllBare (killS s).gens := fun gs hm => by
  have hm' : gs ∈ s.gens.map gKill := hm
  obtain ⟨z, hz, e⟩ := Array.mem_map.mp hm'
  rw [← e, gKill_bare]
  exact h z hz
theorem inv_like {X : Cx} {pins : List (Addr × Obj)} {σ : L2.St} {H : Hp} {s s' : Shared} (I : Inv X pins σ H s) (hh : s'.heap = s.heap) (ho : s'.os = s.os) (hb : AllBare s'.gens) : Inv X pins σ H s' :=
  ⟨I.ok, ho.trans I.os, hb, by rw [hh]; exact I.base, by rw [hh]; exact I.loc, fun x c e => by rw [hh]; exact I.cell x c e, I.free, I.freeC, fun p hp => by rw [hh]; exact I.pin p hp, by rw [hh]; exact I.hok, I.len⟩
theorem inv_kill {X : Cx} {pins : List (Addr × Obj)} {σ : L2.St} {H : Hp} {s : Shared} (I : Inv X pins σ H s) : Inv X pins σ H (killS s) := inv_like I rfl rfl (kill_bare I.bare)
theorem inv_rv {X : Cx} {pins : List (Addr × Obj)} {σ : L2.St} {H : Hp} {og : Array GenState} {x y : Shared} (I : Inv X pins σ H x) (r : Rv og x y) : Inv X pins σ H y := inv_like I r.heap r.os (r.bare I.bare)
/-- exceptions do not come -/
def NoX (X : Cx) : Prop := ∀ e s, ¬ X.xe e s
section
variable {X : Cx}
theorem pss_kg {st : List Stmt} {t : TS} (n : NoX X) (h : PSs X st t) {pins : List (Addr × Obj)} {s : Shared} {σ : L2.St} {H : Hp} {D : Ends} (I : Inv X pins σ H s) (q : t D σ H) {E : Value → Shared → Prop} :
    wpAny (model X.prog X.w) X.A (execs st X.env) (fun f s' => SP X pins D f s' ∧ Kg s s') E s := by
  refine wpAny_mono (wpAny_rv (h.run pins (killS s) σ H D (inv_kill I) q)) (fun f y ⟨x, r, z⟩ => ⟨?_, r.kg⟩) fun e y ⟨x, r, z⟩ => absurd z (n e x)
  cases f with
  | next => obtain ⟨σ', H', J, q⟩ := z; exact ⟨σ', H', inv_rv J r, q⟩
  | brk => obtain ⟨σ', H', J, q⟩ := z; exact ⟨σ', H', inv_rv J r, q⟩
  | cont => obtain ⟨σ', H', J, q⟩ := z; exact ⟨σ', H', inv_rv J r, q⟩
  | ret u => obtain ⟨v, σ', H', J, r1, q⟩ := z; exact ⟨v, σ', H', inv_rv J r, r1, q⟩
theorem pe_kg {e : Expr} {t : TE} (n : NoX X) (h : PE X e t) {pins : List (Addr × Obj)} {s : Shared} {σ : L2.St} {H : Hp} {Q : VK} (I : Inv X pins σ H s) (q : t σ H Q) {E : Value → Shared → Prop} :
    wpAny (model X.prog X.w) X.A (eval e X.env) (fun u s' => EP X pins σ Q u s' ∧ Kg s s') E s := by
  refine wpAny_mono (wpAny_rv (h.run pins (killS s) σ H Q (inv_kill I) q)) (fun u y ⟨x, r, z⟩ => ⟨?_, r.kg⟩) fun e y ⟨x, r, z⟩ => absurd z (n e x)
  obtain ⟨v, H', J, r1, q⟩ := z
  exact ⟨v, H', inv_rv J r, r1, q⟩
end
end PL

/-! a generator's run, stretch by stretch -/
namespace PL
open PySem PySem.Spec PyProof.Rows L2 GenW
open Sem (wp)

section
variable {M : Model} {A : Around} {Po : End → Shared → Prop} {c : Code} {fs : List Frame} {s : Shared}
/-- one stretch: to the next halt -/
def Sg (M : Model) (A : Around) (Po : End → Shared → Prop) (c : Code) (t : Sem PySem.Fin) (fs : List Frame) (s : Shared) : Prop :=
  ∀ (Γ : PySem.Ctx) (p : Pos), Γ.code = c → Γ.Woken A → ∃ e s', Runs M Γ p t fs s e s' ∧ Po e s'
theorem sg_wrap {α : Type} {m : Sem α} {K : α → Sem PySem.Fin} {J : Value → Sem PySem.Fin} {gd : Bool → Bool} {lv : List Value → List Value}
    (h : wpAny M (A.over c fs) m (fun a s' => Sg M A Po c (K a) fs s') (fun x s' => Sg M A Po c (J x) fs s') s) : Sg M A Po c (m.wrap K J gd lv) fs s := by
  intro Γ p hc hΓ
  subst hc
  exact runs_wrap_of_wp K J gd lv m (h (Γ.over fs) p (hΓ.over fs)) (fun a p' s' h' => h' Γ p' rfl hΓ) fun x p' s' h' => h' Γ p' rfl hΓ
theorem sg_bindw {α β : Type} {m : Sem α} {f : α → Sem β} {K : β → Sem PySem.Fin} {J : Value → Sem PySem.Fin} {gd : Bool → Bool} {lv : List Value → List Value}
    (h : wpAny M (A.over c fs) m (fun a s' => Sg M A Po c ((f a).wrap K J gd lv) fs s') (fun x s' => Sg M A Po c (J x) fs s') s) : Sg M A Po c ((m >>= f).wrap K J gd lv) fs s := by
  rw [Sem.bind_eq_wrap', Sem.wrap_wrap]
  exact sg_wrap h
theorem sg_at {p' : Pos} {k : Unit → Sem PySem.Fin} (h : Sg M A Po c (k ()) fs s) : Sg M A Po c (.at p' k) fs s :=
  sg_wrap (m := standAt p') (K := k) (J := .raise) (gd := id) (lv := id) (wpAny_standAt h)
theorem sg_point {l : List Value} {k : Unit → Sem PySem.Fin} (h : Sg M A Po c (k ()) fs s) : Sg M A Po c (.point l k) fs s :=
  sg_wrap (m := point) (K := k) (J := .raise) (gd := id) (lv := fun _ => l) (wpAny_point h)
theorem sg_call {c' : Code} {h : Option Value} {g : Bool} {l : List Value} {k : Result → Sem PySem.Fin} (hc : ∀ p, Sg M A Po c' (M.den c') (.ret k h g l c p [] :: fs) s) : Sg M A Po c (.call c' h g l k) fs s := by
  intro Γ p hc' hΓ
  subst hc'
  obtain ⟨e, s', hr, he⟩ := hc p (Γ.goto c') p rfl (hΓ.goto c')
  exact ⟨e, s', runs_call_seg hr, he⟩
theorem sg_leaf {k : Result → Sem PySem.Fin} {h : Option Value} {g : Bool} {l kp : List Value} {c₁ : Code} {p₁ : Pos} (r : Result) (hk : Sg M A Po c₁ (k r) fs s) : Sg M A Po c (leafOf r) (.ret k h g l c₁ p₁ kp :: fs) s := by
  intro Γ p hc' hΓ
  obtain ⟨e, s', hr, he⟩ := hk (Γ.goto c₁) p₁ rfl (hΓ.goto c₁)
  exact ⟨e, s', Runs.pop r hr, he⟩
theorem sg_again {c' : Code} (hq : c'.quiet = true) (hc : Sg M A Po c' (M.den c') fs s) : Sg M A Po c (.pure (.again c')) fs s := by
  intro Γ p hc' hΓ
  obtain ⟨e, s', hr, he⟩ := hc (Γ.goto c') p rfl (hΓ.goto c')
  exact ⟨e, s', Runs.head (c₁ := c') (fun _ _ x => .again hq x) hr, he⟩
theorem sg_end (r : Result) (h : Po (.ret r) s) : Sg M A Po c (leafOf r) [] s := fun Γ p _ _ => ⟨.ret r, s, Runs.leaf r, h⟩
theorem sg_yield {v : Value} {g : Bool} {l : List Value} {k : Resume → Sem PySem.Fin} (hfs : splitAtGen fs = none) (h : ∀ p, Po (.susp v g l k c p fs) s) : Sg M A Po c (.yield v g l k) fs s := by
  intro Γ p hc' hΓ
  subst hc'
  exact ⟨_, s, Runs.yield' fs hfs, h p⟩
theorem Sg.imp {Po' : End → Shared → Prop} {t : Sem PySem.Fin} (h : Sg M A Po c t fs s) (k : ∀ e s', Po e s' → Po' e s') : Sg M A Po' c t fs s := fun Γ p hc hΓ =>
  let ⟨e, s', hr, he⟩ := h Γ p hc hΓ; ⟨e, s', hr, k e s' he⟩
/-- it may be woken so -/
def GoX (M : Model) (A : Around) (Po : End → Shared → Prop) (gs : GenState) (r : Resume) (s : Shared) : Prop := match gs with
  | .fresh c => r = .send .none ∧ Sg M A Po c (M.den c) [] s
  | .suspended k _ c _ fs _ => Sg M A Po c (k r) fs s
  | _ => False
theorem wpAny_resumeX {α : Type} {gs : GenState} {g : Nat} {r : Resume} {l : List Value} {k : GenResult → Sem α} {Q : α → Shared → Prop} {E : Value → Shared → Prop} (hg : s.gens[g]? = some gs) (hgo : GoX M A Po gs r (s.setGen g .running))
    (hP : ∀ e s₁, s.gens.size ≤ s₁.gens.size → Po e s₁ → e.quiet = true ∧ wpAny M A (k e.result) Q E (s₁.setGen g e.genState)) : wpAny M A (.resume g r l k) Q E s := by
  intro Γ p hΓ
  rw [Sem.wp_resume]
  cases gs with
  | fresh c =>
    obtain ⟨rfl, hs⟩ := hgo
    obtain ⟨e₁, s₁, hr, he⟩ := hs (Γ.wake c p) p rfl (hΓ.wake c p)
    have hz : s.gens.size ≤ s₁.gens.size := by
      have z := runs_gsz hr
      rw [setGen_size] at z
      exact z
    exact ⟨_, _, by unfold Wakes; rw [hg]; exact ⟨e₁, s₁, hr, (hP e₁ s₁ hz he).1, rfl, rfl⟩, (hP e₁ s₁ hz he).2 Γ p hΓ⟩
  | suspended k₀ l₀ c₀ p₀ fs₀ cl =>
    obtain ⟨e₁, s₁, hr, he⟩ := hgo (Γ.wake c₀ p) p₀ rfl (hΓ.wake c₀ p)
    have hz : s.gens.size ≤ s₁.gens.size := by
      have z := runs_gsz hr
      rw [setGen_size] at z
      exact z
    exact ⟨_, _, by unfold Wakes; rw [hg]; exact ⟨e₁, s₁, hr, (hP e₁ s₁ hz he).1, rfl, rfl⟩, (hP e₁ s₁ hz he).2 Γ p hΓ⟩
  | running => exact hgo.elim
  | finished => exact hgo.elim
end
/-- it hands out v -/
def SuspV (e : End) (v : Value) : Prop := ∃ g l k c p fs, e = .susp v g l k c p fs ∧ e.quiet = true
theorem SuspV.asl {e : End} {v : Value} (h : SuspV e v) : gAsl e.genState = true ∧ e.result = .yielded v ∧ e.genState.bare = true := by
  obtain ⟨g, l, k, c, p, fs, rfl, q⟩ := h
  exact ⟨rfl, rfl, End.bare_of_quiet q⟩
section
variable {P : Program} {w : World} {A : Around} {E : Value → Shared → Prop} {s : Shared}
theorem next_genX {a : Addr} {g : Nat} {gs : GenState} {Po : End → Shared → Prop} {Q : Option Value → Shared → Prop} (hh : A.handled = none) (hl : s.heap.NoLimit) (hroom : A.depth < recursionLimit) (hg : s.heap.IsGen a g) (hgs : s.gens[g]? = some gs)
    (hgo : GoX (model P w) A.in1 Po gs (.send .none) (s.setGen g .running))
    (hP : ∀ e s₁, s.gens.size ≤ s₁.gens.size → Po e s₁ → (∃ v, SuspV e v ∧ Q (some v) (s₁.setGen g e.genState)) ∨ (e = .ret (.ok (.ret .none)) ∧ ∀ h', (∀ b o, s₁.heap.get? b = some o → h'.get? b = some o) → Q none { s₁.setGen g .finished with heap := h' })) :
    wpAny (model P w) A (pyNext (.ref a)) Q E s := by
  unfold pyNext
  refine wpAny_bind (wpAny_attempt (wpAny_callSpecial?_slot (name := Str.ofString "__next__") hg.typeIs slot_gen_next
    (wpAny_call_entry slot_gen_next hg.typeIs entry_gen_next ?_ (args_gen_next _))))
  show wpAny _ A.in1 (Builtin.Generator.genWake (.ref a) (.send .none)) _ _ s
  unfold Builtin.Generator.genWake
  refine wpAny_bind (wpAny_holding (wpAny_genNumber hg (wpAny_bind (wpAny_genState hgs ?_))))
  have main : ∀ e s₁, s.gens.size ≤ s₁.gens.size → Po e s₁ → e.quiet = true ∧ True := fun e s₁ hz h => ⟨by
    rcases hP e s₁ hz h with ⟨v, ⟨g', l, k, c, p, fs, rfl, q⟩, _⟩ | ⟨rfl, _⟩
    · exact q
    · rfl, trivial⟩
  cases gs with
  | running => exact hgo.elim
  | finished => exact hgo.elim
  | _ =>
    refine wpAny_bind (wpAny_roomToWake hl hroom ?_)
    show wpAny _ A.in1 (.resume g (.send .none) [] _) _ _ s
    refine wpAny_resumeX hgs hgo fun e s₁ hz he => ⟨(main e s₁ hz he).1, ?_⟩
    rcases hP e s₁ hz he with ⟨v, sv, hq⟩ | ⟨rfl, hq⟩
    · rw [sv.asl.2.1]
      exact wpAny_pure ⟨v, rfl, wpAny_pure hq⟩
    · show wpAny _ A.in1 (newExc (.type "StopIteration") [] >>= _) _ _ _
      refine wpAny_bind ?_
      simp only [newExc, newTuple]
      refine wpAny_bind (wpAny_newObj_type ?_ (by size_fits))
      refine wpAny_bind (m := firstArgMember _ _) (wpAny_of_eq (a := Value.none) (by first | rfl | (simp only [firstArgMember]; rfl)) ?_)
      refine wpAny_newObj_type ?_ (by size_fits)
      simp only [raiseNew]
      refine wpAny_bind (wpAny_bind (wpAny_handled ?_))
      first | rw [show A.in1.handled = none from hh] | rw [hh]
      refine wpAny_throw ?_
      refine wpAny_bind (wpAny_isInstance (T := "StopIteration") (b := true) ⟨_, Heap.get?_push_size _ rfl, rfl⟩ isSubtype_stop ?_)
      exact wpAny_pure (hq _ fun b o hb => Heap.get?_push_of_some _ (Heap.get?_push_of_some _ hb))
end

/-! ### statements, as they are run within a stretch -/
section
variable {P : Program} {w : World} {A : Around} {Po : End → Shared → Prop} {c : Code} {fs : List Frame} {s : Shared} {env : Env} {K : Flow → Sem PySem.Fin} {J : Value → Sem PySem.Fin} {gd : Bool → Bool} {lv : List Value → List Value}
abbrev F0 : Value → Shared → Prop := fun _ _ => False
theorem sg_cons {M : Model} {st : Stmt} {rest : List Stmt}
    (h : Sg M A Po c ((exec st env).wrap (fun f => match f with | .next => (execs rest env).wrap K J gd lv | f => K f) J gd lv) fs s) : Sg M A Po c ((execs (st :: rest) env).wrap K J gd lv) fs s := by
  rw [execs_cons_wrap]
  exact h
theorem sg_yieldS {e : Expr} {yp pos : Pos} (hfs : splitAtGen fs = none) (hgd : gd false = false) (hfg : fs.any Frame.guarded = false)
    (h : wpAny (model P w) (A.over c fs) (eval e env) (fun v s' => ∀ e', SuspV e' v → (∀ Po' s2, Sg (model P w) A Po' c (K .next) fs s2 → GoX (model P w) A Po' e'.genState (.send .none) s2) → Po e' s') F0 s)
    (hco : env.scope.isCoroutine = false := by rfl) (hi : interactive env = false := by rfl) : Sg (model P w) A Po c ((exec (.Expr (.Yield (some e) yp) pos) env).wrap K J gd lv) fs s := by
  rw [exec_Expr env _ pos hi rfl]
  show Sg (model P w) A Po c (.at pos fun _ => ((eval e env >>= fun v => (standAt yp >>= fun _ => yieldOut env v)) >>= fun x => dropValue (.Yield (some e) yp) pos x).wrap K J gd lv) fs s
  have hy : ∀ v, yieldOut env v = yieldValue v := fun v => by simp only [yieldOut, hco, Bool.false_eq_true, if_false]
  simp only [hy]
  refine sg_at ?_
  rw [Sem.bind_eq_wrap', Sem.bind_eq_wrap', Sem.wrap_wrap, Sem.wrap_wrap]
  refine sg_wrap (wpAny_mono h (fun v s' h' => ?_) fun _ _ x => x.elim)
  refine sg_at (sg_yield hfs fun p => ?_)
  refine h' _ ⟨_, _, _, _, _, _, rfl, ?_⟩ fun Po' s2 z => ?_
  · simp [End.quiet, hgd, hfg]
  · exact z
/-- what stands behind a loop's body -/
def loopK (code : Code) : Flow → Sem PySem.Fin := fun f => match f with
  | .next | .cont => .pure (.again code)
  | .brk => .pure (.done .next)
  | .ret v => .pure (.done (.ret v))
def backIn (env : Env) (x : Value) : Sem Unit := do
  if (← field x 1) == Value.none then unsupported "frame.own-activation:exception-without-traceback"
  setFlight x env.frame
def backK (K : Flow → Sem PySem.Fin) (J : Value → Sem PySem.Fin) (gd : Bool → Bool) (lv : List Value → List Value) (env : Env) (r : Result) : Sem PySem.Fin :=
  ((match r with | .ok f => (.pure f : Sem Flow) | .error e => .raise e).onRaise (backIn env)).wrap K J gd lv
theorem sg_For {tg iter : Expr} {body : List Stmt} {pos : Pos}
    (h : wpAny (model P w) (A.over c fs) (eval iter env) (fun v s1 => wpAny (model P w) (A.over c fs) (pyIter v) (fun it s2 =>
      ∀ p, Sg (model P w) A Po (.forLoop tg it body [] env) ((model P w).den (.forLoop tg it body [] env)) (.ret (backK K J gd lv env) none (gd false) (lv []) c p [] :: fs) s2) F0 s1) F0 s)
    (hs : ∀ x, foldedSetIterable iter env x = pure x := by intro _; rfl) : Sg (model P w) A Po c ((exec (.For tg iter body [] pos) env).wrap K J gd lv) fs s := by
  rw [exec_For]
  refine sg_bindw (wpAny_standAt (sg_bindw (wpAny_mono h (fun v s1 h1 => ?_) fun _ _ z => z.elim)))
  refine sg_bindw (wpAny_of_eq (hs v) (sg_bindw (wpAny_standAt (sg_bindw (wpAny_holding (wpAny_mono h1 (fun it s2 h2 => ?_) fun _ _ z => z.elim))))))
  refine sg_call fun p => ?_
  exact h2 p
theorem sg_forLoop {tg : Expr} {it : Value} {body : List Stmt} {J' : Value → Sem PySem.Fin} (hJ : J' = fun e => ((do noteFrame e env; theTreesLotGoes e : Sem Unit).bind fun _ => .raise e))
    (h : wpAny (model P w) (A.over (.forLoop tg it body [] env) fs) (pyNext it) (fun r s1 => match r with
      | none => Sg (model P w) A Po (.block [] env) (.pure (.done .next)) fs s1
      | some v => wpAny (model P w) (A.over (.forLoop tg it body [] env) fs) (letOwnedTupleGo tg it v) (fun _ s2 => wpAny (model P w) (A.over (.forLoop tg it body [] env) fs) (assign tg env v) (fun _ s3 =>
          Sg (model P w) A Po (.forLoop tg it body [] env) ((execs body env).wrap (loopK (.forLoop tg it body [] env)) J' id id) fs s3) F0 s2) F0 s1) F0 s) :
    Sg (model P w) A Po (.forLoop tg it body [] env) ((model P w).den (.forLoop tg it body [] env)) fs s := by
  subst hJ
  show Sg _ A Po _ ((forTurn tg it body [] env).onRaise (fun x => do noteFrame x env; theTreesLotGoes x)) fs s
  rw [Sem.onRaise_eq_wrap]
  unfold forTurn
  refine sg_bindw (wpAny_standAt (sg_bindw (wpAny_onRaise (wpAny_mono h (fun r s1 h1 => ?_) fun _ _ z => z.elim))))
  cases r with
  | none => exact sg_again rfl h1
  | some v =>
    refine sg_bindw (wpAny_mono h1 (fun _ s2 h2 => ?_) fun _ _ z => z.elim)
    refine sg_bindw (wpAny_mono h2 (fun _ s3 h3 => ?_) fun _ _ z => z.elim)
    show Sg _ A Po _ ((execs body env >>= fun f => _).wrap _ _ _ _) fs s3
    rw [Sem.bind_eq_wrap', Sem.wrap_wrap]
    rw [Sem.wrap_congr (execs body env) _ _ (K' := loopK (.forLoop tg it body [] env)) (H' := fun e => ((do noteFrame e env; theTreesLotGoes e : Sem Unit).bind fun _ => .raise e)) (fun f => by cases f <;> rfl) (fun e => by rfl)]
    exact h3
end
end PL

/-! a generator def's body, read without a heap -/
namespace PL
open PySem PySem.Spec PyProof.Rows L2 GenW
open Sem (wp)

/-! ### heaps only grow -/
theorem runs_hsz {M : Model} {Γ : PySem.Ctx} {p : Pos} {t : Sem PySem.Fin} {fs : List Frame} {s s' : Shared} {e : End} (h : Runs M Γ p t fs s e s') : s.heap.objs.size ≤ s'.heap.objs.size := by
  induction h <;> (try simp only [Shared.setGen, Heap.size_update, Heap.size_push] at *) <;> omega
theorem wakes_hsz {M : Model} {Γ : PySem.Ctx} {p : Pos} {g : Nat} {r : Resume} {s s' : Shared} {res : GenResult} (h : Wakes M Γ p g r s res s') : s.heap.objs.size ≤ s'.heap.objs.size := by
  unfold Wakes at h
  split at h
  · exact h.elim
  · split at h
    · obtain ⟨e₁, s₁, hr, _, _, rfl⟩ := h
      have z := runs_hsz hr
      exact z
    · rw [h.2]; exact Nat.le_refl _
    · rw [h.2]; exact Nat.le_refl _
  · obtain ⟨e₁, s₁, hr, _, _, rfl⟩ := h
    have z := runs_hsz hr
    exact z
  · rw [h.2]; exact Nat.le_refl _
  · rw [h.2]; exact Nat.le_refl _
theorem wp_hsz {α : Type} (M : Model) (Γ : PySem.Ctx) (n : Nat) (t : Sem α) : ∀ (Q : α → Pos → Shared → Prop) (E : Value → Pos → Shared → Prop) (p : Pos) (s : Shared), n ≤ s.heap.objs.size → wp M Γ t Q E p s →
    wp M Γ t (fun a p' s' => n ≤ s'.heap.objs.size ∧ Q a p' s') E p s := by
  induction t with
  | pure a => intro Q E p s hn h; exact ⟨hn, h⟩
  | raise e => intro Q E p s hn h; exact h
  | unsupported _ => intro Q E p s _ h; exact h
  | finish _ => intro Q E p s _ h; exact h
  | rule _ k ih => intro Q E p s hn h; exact ih () Q E p s hn h
  | «at» p' k ih => intro Q E p s hn h; exact ih () Q E p' s hn h
  | load a _ k ih => intro Q E p s hn h; obtain ⟨o, ho, h⟩ := h; exact ⟨o, ho, ih o Q E p s hn h⟩
  | update a _ f k ih => intro Q E p s hn h; exact ⟨h.1, ih () Q E p _ (by show n ≤ (s.heap.update a f).objs.size; rw [Heap.size_update]; exact hn) h.2⟩
  | loadIfAlive a k ih => intro Q E p s hn h; exact ih _ Q E p s hn h
  | point _ k ih => intro Q E p s hn h; exact ih () Q E p s hn h
  | register _ _ => intro Q E p s _ h; exact h
  | alloc o k ih => intro Q E p s hn h; exact ih _ Q E p _ (by show n ≤ (s.heap.push o).objs.size; rw [Heap.size_push]; omega) h
  | fresh k ih => intro Q E p s hn h; exact ih _ Q E p { s with toks := s.toks + 1 } hn h
  | ask k ih => intro Q E p s hn h; exact ih _ Q E p s hn h
  | choose src m k ih => intro Q E p s hn h; exact ⟨h.1, ih _ Q E p { s with drawn := s.drawn.bump src } hn h.2⟩
  | os q _ k ih => intro Q E p s hn h; exact ih _ Q E p { s with os := (Os.step s.os q).1 } hn h
  | call c hd _ _ k ih => intro Q E p s hn h; obtain ⟨r, s', hr, h⟩ := h; exact ⟨r, s', hr, ih r Q E p s' (Nat.le_trans hn (runs_hsz hr)) h⟩
  | handled own k ih => intro Q E p s hn h; exact ih _ Q E p s hn h
  | genState g k ih => intro Q E p s hn h; obtain ⟨st, hs, h⟩ := h; exact ⟨st, hs, ih _ Q E p s hn h⟩
  | newGen c k ih => intro Q E p s hn h; exact ih _ Q E p { s with gens := s.gens.push (.fresh c) } hn h
  | resume g r _ k ih => intro Q E p s hn h; obtain ⟨res, s', hw, h⟩ := h; exact ⟨res, s', hw, ih res Q E p s' (Nat.le_trans hn (wakes_hsz hw)) h⟩
  | yield _ _ _ _ => intro Q E p s _ h; exact h
  | stack k ih => intro Q E p s hn h; exact ih _ Q E p s hn h
  | fork _ _ => intro Q E p s _ h; exact h
  | thread k ih => intro Q E p s hn h; exact ih _ Q E p s hn h
  | await _ _ _ _ _ => intro Q E p s _ h; exact h
theorem wpAny_hsz {α : Type} {M : Model} {A : Around} {s : Shared} {t : Sem α} {Q : α → Shared → Prop} {E : Value → Shared → Prop} {n : Nat} (hn : n ≤ s.heap.objs.size) (h : wpAny M A t Q E s) : wpAny M A t (fun a s' => n ≤ s'.heap.objs.size ∧ Q a s') E s :=
  fun Γ p hΓ => wp_hsz M Γ n t _ _ p s hn (h Γ p hΓ)

/-! ### an iterator that is new -/
def PJE (X : Cx) (pins : List (Addr × Obj)) (σ : L2.St) (tg : Expr) (R : It → Hp → Prop) (N : Nat) (itv : Value) (s2 : Shared) : Prop :=
  ∃ (it : Addr) (fp : List Addr) (tn : Nat → Heap → Prop) (J : It) (H' : Hp), itv = .ref it ∧ Inv X pins σ H' s2 ∧ Turn X.prog X.w X.K tg J fp it tn ∧ tn 0 s2.heap ∧ (∀ b ∈ fp, FpOk X pins H' b ∧ N ≤ b) ∧ R J H'
structure PJ (X : Cx) (tg iter : Expr) (wi : TI) : Prop where
  run : ∀ (pins : List (Addr × Obj)) (s : Shared) (σ : L2.St) (H : Hp) (R : It → Hp → Prop) (N : Nat), N ≤ s.heap.objs.size → Inv X pins σ H s → wi σ H R →
    wpAny (model X.prog X.w) X.A (eval iter X.env) (fun v s1 => wpAny (model X.prog X.w) X.A (pyIter v) (PJE X pins σ tg R N) X.xe s1) X.xe s
section
variable {X : Cx} {tg e l : Expr} {E : Ent}
theorem pj_w {t t' : TI} (h : PJ X tg e t) (w : ∀ σ H R, t' σ H R → t σ H R) : PJ X tg e t' := ⟨fun pins s σ H R N hN I q => h.run pins s σ H R N hN I (w _ _ _ q)⟩
theorem pj_list {tl : TE} (hl : PE X l tl) : PJ X tg l (iList X.K tl) := by
  refine ⟨fun pins s σ H R N hN I h => ?_⟩
  refine thn (wpAny_hsz hN (hl.run pins s σ H _ I h)) fun v s1 ⟨hN1, x, H1, I1, r1, q1⟩ => ?_
  obtain ⟨a, e, ⟨xs, hq⟩, q⟩ := q1
  subst e
  cases r1
  obtain ⟨its, rv, p, hz⟩ := I1.list hq
  refine wpAny_pyIter_list p.isList ?_
  refine ⟨s1.heap.objs.size, [s1.heap.objs.size], _, _, H1, rfl, I1.kept (t' := s1.toks) fun b o z => Heap.get?_push_of_some _ z, turn_list a _, ⟨_, Heap.get?_push_size _ rfl, rfl, rfl⟩, fun b hb => ?_, q⟩
  have eb : b = s1.heap.objs.size := by simpa using hb
  subst eb
  exact ⟨I1.fpOk (Nat.le_refl _) (I1.hok.fresh (Nat.le_refl _)), hN1⟩
theorem lj_list {pa : PX} (h : PE X e (liftE X.K E pa)) : PJ X tg e (liftI X.K E (itList pa)) := pj_w (pj_list h) fun σ H R ⟨ts, F, env, As, Q', S, fx, p, k⟩ => ⟨ts, F, env, As, _, S, fx, p, fun v d F1 H1 env1 As1 S1 f1 h q => by
    split at q
    · obtain ⟨a, vs, rfl, ha, ra⟩ := h.lst_inv
      exact ⟨a, rfl, ⟨vs, SqL.of (S1.sub _ _ ha)⟩, k _ _ F1 H1 env1 As1 S1 f1 (feeds_list ha ra) q⟩
    · exact q.elim⟩
end

/-! ### the heap cut at n; what is not tracked above n is held -/
def cutH (h : Heap) (n : Nat) : Heap := { h with objs := h.objs.extract 0 n }
theorem cut_at {h : Heap} {n b : Nat} : (cutH h n).objs[b]? = if b < n then h.objs[b]? else none := by
  show (h.objs.extract 0 n)[b]? = _
  by_cases hb : b < n
  · rw [if_pos hb]
    by_cases hs : b < h.objs.size
    · rw [Array.getElem?_eq_getElem (by simp; omega), Array.getElem?_eq_getElem hs]
      simp
    · rw [Array.getElem?_eq_none (by simp; omega), Array.getElem?_eq_none (by omega)]
  · have z : (h.objs.extract 0 n).size ≤ n := by
      rw [Array.size_extract]
      omega
    rw [if_neg hb, Array.getElem?_eq_none (by omega)]
theorem cut_lt {h : Heap} {n b : Nat} (hb : b < n) : (cutH h n).get? b = h.get? b := by
  unfold Heap.get?
  rw [cut_at, if_pos hb]
theorem cut_ge {h : Heap} {n b : Nat} (hb : ¬ b < n) : (cutH h n).get? b = none := by
  unfold Heap.get?
  rw [cut_at, if_neg hb]
theorem cut_some {h : Heap} {n b : Nat} {o : Obj} (e : (cutH h n).get? b = some o) : b < n ∧ h.get? b = some o := by
  by_cases hb : b < n
  · rw [cut_lt hb] at e; exact ⟨hb, e⟩
  · rw [cut_ge hb] at e; cases e
theorem cut_size {h : Heap} {n : Nat} : (cutH h n).objs.size ≤ n := by
  show (h.objs.extract 0 n).size ≤ n
  simp
  omega
theorem cut_size' {h : Heap} {n : Nat} (hn : n ≤ h.objs.size) : (cutH h n).objs.size = n := by
  show (h.objs.extract 0 n).size = n
  simp
  omega
def ghost (b : Addr) (o : Obj) : HO := .ext fun h => h.get? b = some o
def hatH (n : Nat) (pv : List Addr) (h : Heap) (H : Hp) : Hp := fun b => match H b with
  | some o => some o
  | none => if n ≤ b ∧ b ∉ pv then (h.get? b).map (ghost b) else none
section
variable {n : Nat} {pv : List Addr} {h : Heap} {H : Hp} {b : Addr}
theorem hat_some {o : HO} (e : H b = some o) : hatH n pv h H b = some o := by unfold hatH; rw [e]
theorem hat_sub : Same H (hatH n pv h H) := fun _ _ e => hat_some e
theorem hat_lt (hb : b < n) : hatH n pv h H b = H b := by
  unfold hatH
  split
  · rename_i e; rw [e]
  · rename_i e; rw [e, if_neg (fun z => Nat.not_lt.mpr z.1 hb)]
theorem hat_pv (hb : b ∈ pv) : hatH n pv h H b = H b := by
  unfold hatH
  split
  · rename_i e; rw [e]
  · rename_i e; rw [e, if_neg (fun z => z.2 hb)]
theorem hat_gh {o : Obj} (e : H b = none) (hn : n ≤ b) (hp : b ∉ pv) (ho : h.get? b = some o) : hatH n pv h H b = some (ghost b o) := by
  unfold hatH
  rw [e]
  show (if n ≤ b ∧ b ∉ pv then (h.get? b).map (ghost b) else none) = _
  rw [if_pos ⟨hn, hp⟩, ho]
  rfl
theorem hat_of {u : HO} (e : hatH n pv h H b = some u) : H b = some u ∨ (H b = none ∧ n ≤ b ∧ b ∉ pv ∧ ∃ o, h.get? b = some o ∧ u = ghost b o) := by
  unfold hatH at e
  split at e
  · rename_i o q; rw [q]; exact .inl e
  · rename_i q
    split at e
    · rename_i c
      obtain ⟨o, e1, e2⟩ := Option.map_eq_some_iff.mp e
      exact .inr ⟨q, c.1, c.2, o, e1, e2.symm⟩
    · cases e
theorem hat_none (e : hatH n pv h H b = none) : H b = none := by
  cases q : H b with
  | none => rfl
  | some o => rw [hat_some q] at e; cases e
theorem hat_ok {P : Program} {w : World} (ok : HOk P w H h) : HOk P w (hatH n pv h H) h := fun b u e => by
  rcases hat_of e with q | ⟨_, _, _, o, ho, rfl⟩
  · exact (ok b u q).stay (fun _ _ _ z => z) (fun _ z => hat_some z) fun _ _ z => hat_some z
  · exact ⟨ho, ⟨o, ho⟩, fun h1 h2 z k => k o z⟩
end
/-- the held things are let go -/
def unH (Hw Hg H' : Hp) : Hp := fun b => if (Hw b).isNone && (Hg b).isSome then none else H' b
section
variable {Hw Hg H' : Hp} {b : Addr}
theorem unH_gh (e1 : Hw b = none) {u : HO} (e2 : Hg b = some u) : unH Hw Hg H' b = none := by unfold unH; rw [e1, e2]; rfl
theorem unH_no (e : Hg b = none ∨ Hw b ≠ none) : unH Hw Hg H' b = H' b := by
  unfold unH
  rw [if_neg]
  intro z
  rw [Bool.and_eq_true] at z
  obtain ⟨z1, z2⟩ := z
  rcases e with e | e
  · rw [e] at z2; cases z2
  · cases q : Hw b with
    | none => exact e q
    | some o => rw [q] at z1; cases z1
theorem unH_none (e : H' b = none) : unH Hw Hg H' b = none := by
  unfold unH
  split
  · rfl
  · exact e
theorem unH_of {u : HO} (e : unH Hw Hg H' b = some u) : H' b = some u ∧ (Hg b = none ∨ Hw b ≠ none) := by
  unfold unH at e
  split at e
  · cases e
  · rename_i c
    refine ⟨e, ?_⟩
    cases q : Hg b with
    | none => exact .inl rfl
    | some o =>
      refine .inr fun z => c ?_
      rw [z, q]; rfl
end
end PL

namespace PL
open PySem PySem.Spec PyProof.Rows L2 GenW

/-! ### a generator's frame, woken in a state of its consumer -/
structure GC where
  P : Program
  w : World
  K : PySem.W.Frag
  mg : Str → Option Value
  base : Heap
  N : List Str
  qual : Str
  scope : Scope
  f : Addr
  cd : Value
  A : Around
  outer : List Env
  n : Nat
abbrev GC.env (G : GC) : Env := envOfC G.qual G.scope G.n G.f G.cd
abbrev GC.cx (G : GC) (s0 : Shared) (H0 : Hp) : Cx where
  prog := G.P
  w := G.w
  K := G.K
  mg := G.mg
  base := G.base
  A := G.A.deeper G.env
  N := G.N
  s_0 := s0
  H_0 := H0
  env := G.env
  outer := G.outer
  stack := G.env :: G.outer
  ex := []
  fn := fun _ => true
  calm := true
  pn := []
  xe := fun _ _ => False
structure GOk (G : GC) : Prop where
  kind : G.scope.kind = .function
  hd : G.A.handled = none
  fr : G.A.frames = some G.outer
  nc : ∀ x, G.env.kindOf x ≠ some .cell ∧ G.env.kindOf x ≠ some .free
  cl : G.env.cells = []
  outn : ∀ b ∈ frs G.outer, b < G.n
  bsz : G.base.objs.size ≤ G.n
/-- the state in which it is woken: the heap of the consumer, what is still there -/
structure Wk (G : GC) (pv : List Addr) (s : Shared) (H F : Hp) : Prop where
  e0 : Env0 G.P G.w G.K G.mg G.base G.A G.outer s H
  pvH : ∀ b ∈ pv, H b = none
  pvn : ∀ b ∈ pv, G.n ≤ b
  ff : Same F H
  sz : G.n ≤ s.heap.objs.size
abbrev cutS (G : GC) (s : Shared) : Shared := { s with heap := cutH s.heap G.n }
abbrev GC.hat (G : GC) (pv : List Addr) (s : Shared) (H : Hp) : Hp := hatH G.n pv s.heap H
abbrev GC.ent (G : GC) (pv : List Addr) (s : Shared) (H F : Hp) : Ent := ⟨F, G.hat pv s H, fun _ => False, fun _ => none⟩
/-- within a stretch -/
structure GI (G : GC) (pv : List Addr) (sw : Shared) (Hw Fw : Hp) (ip : List (Addr × Obj)) (σ : L2.St) (F H : Hp) (env : PEnv) (As : Nat → List Addr) (s : Shared) : Prop where
  wk : Wk G pv sw Hw Fw
  inv : Inv (G.cx (cutS G sw) (G.hat pv sw Hw)) ip σ H s
  sr : SR G.K (G.ent pv sw Hw Fw) F H σ env As
  ipo : ∀ p ∈ ip, G.n ≤ p.1 ∧ (p.1 ∈ pv ∨ sw.heap.objs.size ≤ p.1)
  lp : G.n ∈ pv
  gz : sw.heap.objs.size ≤ s.heap.objs.size
theorem hat_same {G : GC} {pv : List Addr} {sw : Shared} {Hw Fw F H : Hp} {σ : L2.St} {env : PEnv} {As : Nat → List Addr} (S : SR G.K (G.ent pv sw Hw Fw) F H σ env As) : Same (G.hat pv sw Hw) H := fun b o e => S.keep b o e id
/-- the frame woken: all as it was when it fell asleep -/
theorem GI.born {G : GC} (ok : GOk G) {pv : List Addr} {s : Shared} {H F : Hp} (wk : Wk G pv s H F) (lp : G.n ∈ pv) {ip : List (Addr × Obj)} {σ : L2.St} {env : PEnv} (hl : σ.length = G.N.length) (el : σ.length = env.length)
    (loc : ∃ m, s.heap.Ns G.n m ∧ ∀ (i : Nat) (x : Str) (v : V), G.N[i]? = some x → σ[i]? = some (some v) → Vis G.scope x → ∃ u, RelV v u ∧ Look G.env s.heap m x u)
    (hip : ∀ p ∈ ip, s.heap.get? p.1 = some p.2 ∧ p.1 ∈ pv ∧ p.1 ≠ G.n ∧ ∀ v, p.2.data ≠ .cell v)
    (slot : ∀ (i : Nat) (z : Sl), env[i]? = some z → ∃ x, σ[i]? = some x ∧ SlOk G.K F H x z []) : GI G pv s H F ip σ F (G.hat pv s H) env (fun _ => []) s where
  wk := wk
  lp := lp
  gz := Nat.le_refl _
  ipo := fun p hp => ⟨wk.pvn _ (hip p hp).2.1, .inl (hip p hp).2.1⟩
  inv := by
    have e0 := wk.e0
    refine ⟨⟨e0.mod, ok.kind, rfl, rfl, cut_size, fun x y c h _ => ?_, fun x h => ?_, fun x c _ h => ?_, fun _ => ok.hd, Around.frames_deeper ok.fr, .inr ⟨rfl, rfl⟩, fun b z => absurd z (by simp), fun b o e => ?_, ?_, fun b _ _ => by simp, fun b z => absurd z (by simp), ?_, fun b hb => ?_⟩,
      rfl, e0.bare, ⟨fun b o e _ _ _ => (cut_some e).2, fun b o e _ _ _ => ⟨o.slots, (cut_some e).2⟩, fun b o e z _ => z, fun b o e _ => ⟨o, (cut_some e).2⟩, fun b xs e => e, fun b o u e => e, fun b ps e => ⟨#[], by rw [Array.append_empty]; exact e⟩⟩,
      loc, fun x c h => ?_, ?_, fun x c h => ?_, fun p hp => ?_, hat_ok e0.hok, hl⟩
    · exact absurd (show G.env.cells.lookup x = some c from h) (by rw [ok.cl]; simp)
    · exact absurd h (fun z => z.elim (ok.nc x).1 (ok.nc x).2)
    · exact absurd (show G.env.cells.lookup x = some c from h) (by rw [ok.cl]; simp)
    · have hb : b < G.n := Nat.lt_of_lt_of_le (Heap.lt_size e) ok.bsz
      refine ⟨(cut_lt hb).trans (e0.bs b o e).1, ?_⟩
      show hatH _ _ _ _ b = none
      rw [hat_lt hb]
      exact (e0.bs b o e).2
    · show G.base.objs.size ≤ (cutH s.heap G.n).objs.size
      rw [cut_size' wk.sz]
      exact ok.bsz
    · have all : ∀ (l : List Env), (∀ b ∈ frs l, b < G.n) → s.heap.FunFrames G.base l → (cutH s.heap G.n).FunFrames G.base l := by
        intro l
        induction l with
        | nil => exact fun _ z => z
        | cons e l ih =>
          intro h z
          obtain ⟨z1, ⟨L, o, z2, z3, z4, z5⟩, z6⟩ := z
          have hL : L < G.n := h L (by
            unfold frs
            rw [List.filterMap_cons, z2]
            exact List.mem_cons_self)
          refine ⟨z1, ⟨L, o, z2, z3, (cut_lt hL).trans z4, z5⟩, ih (fun b hb => h b ?_) z6⟩
          unfold frs at hb ⊢
          rw [List.filterMap_cons, z2]
          exact List.mem_cons_of_mem _ hb
      exact all _ ok.outn e0.funs
    · show hatH _ _ _ _ b = none
      rw [hat_lt (ok.outn b hb)]
      exact e0.frf b hb
    · exact absurd (show G.env.cells.lookup x = some c from h) (by rw [ok.cl]; simp)
    · show hatH _ _ _ _ G.n = none
      rw [hat_pv lp]
      exact wk.pvH _ lp
    · exact absurd (show G.env.cells.lookup x = some c from h) (by rw [ok.cl]; simp)
    · obtain ⟨h1, h2, h3, h4⟩ := hip p (by simpa using hp)
      refine ⟨h1, ?_, h3, fun z => ?_, h4⟩
      · show hatH _ _ _ _ p.1 = none
        rw [hat_pv h2]
        exact wk.pvH _ h2
      · exact absurd (ok.outn _ z) (Nat.not_lt.mpr (wk.pvn _ h2))
  sr := by
    refine ⟨wk.ff.trans hat_sub, Same.refl F, fun a h => .inl h, fun b o e _ => e, el, fun i z e => ?_, fun _ _ => rfl, fun _ a h => absurd h (by simp), fun _ => List.nodup_nil, fun _ _ _ _ h => absurd h (by simp), fun i v e => by cases e⟩
    obtain ⟨x, h1, h2⟩ := slot i z e
    exact ⟨x, h1, h2.to (Same.refl F) fun a ha => absurd ha (by simp)⟩
/-- what a stretch has done, seen from the consumer -/
structure GEff (G : GC) (pv : List Addr) (s : Shared) (H F : Hp) (s' : Shared) (H' F' : Hp) : Prop where
  os : s'.os = s.os
  bare : AllBare s'.gens
  un : Un (frs G.outer) pv H H' s.heap s'.heap
  hok : HOk G.P G.w H' s'.heap
  gr : Gr F H F' H'
/-- the frame's own objects, behind a stretch -/
structure PvOk (G : GC) (pv : List Addr) (s : Shared) (pv' : List Addr) (s' : Shared) (H' : Hp) : Prop where
  lp : G.n ∈ pv'
  old : ∀ b ∈ pv', G.n ≤ b ∧ (b ∈ pv ∨ s.heap.objs.size ≤ b)
  there : ∀ b ∈ pv', ∃ o, s'.heap.get? b = some o ∧ ∀ v, o.data ≠ .cell v
  none : ∀ b ∈ pv', H' b = none
theorem hok_some {P : Program} {w : World} {H : Hp} {h : Heap} (ok : HOk P w H h) {b : Addr} {u : HO} (e : H b = some u) : ∃ o, h.get? b = some o := by
  have z := ok b u e
  cases u with
  | lst xs => obtain ⟨_, _, _, _, q⟩ := z; exact ⟨_, q⟩
  | tup xs => obtain ⟨_, _, _, o, q, _⟩ := z; exact ⟨o, q⟩
  | dK kvs => obtain ⟨_, _, _, _, o, _, _, q, _⟩ := z; exact ⟨o, q⟩
  | dT kvs => obtain ⟨_, _, _, _, o, _, _, q, _⟩ := z; exact ⟨o, q⟩
  | set S n => obtain ⟨o, _, _, _, q, _⟩ := z; exact ⟨o, q⟩
  | ins C dx fs => obtain ⟨_, _, _, q, _⟩ := z; exact ⟨_, q⟩
  | own y => exact z
  | xd fs => obtain ⟨_, ⟨o, _, _, q, _⟩, _⟩ := z; exact ⟨o, q⟩
  | rng lo hi => obtain ⟨_, _, _, q⟩ := z; exact ⟨_, q⟩
  | frz o u => exact ⟨o, z.1⟩
  | tbl ps => exact ⟨_, z⟩
  | met f y => exact ⟨_, z⟩
  | ext φ => exact z.2.1
theorem GI.eff {G : GC} (ok : GOk G) {pv : List Addr} {sw : Shared} {Hw Fw : Hp} {ip : List (Addr × Obj)} {σ : L2.St} {F H : Hp} {env : PEnv} {As : Nat → List Addr} {s : Shared} (I : GI G pv sw Hw Fw ip σ F H env As s) :
    GEff G pv sw Hw Fw s (unH Hw (G.hat pv sw Hw) H) F := by
  have hs := hat_same I.sr
  have okH := I.inv.hok
  have keepF : ∀ b, F b ≠ none → G.hat pv sw Hw b = none ∨ Hw b ≠ none := fun b hb => by
    rcases I.sr.grow b hb with z | z | z | ⟨xs, z⟩
    · refine .inr ?_
      cases q : Fw b with
      | none => exact absurd q z
      | some o => rw [I.wk.ff b o q]; exact fun y => by cases y
    · exact .inl z
    · exact z.elim
    · rcases hat_of z with q | ⟨_, _, _, o, _, q⟩
      · exact .inr (by rw [q]; exact fun y => by cases y)
      · cases q
  have fh : Same F (unH Hw (G.hat pv sw Hw) H) := fun b o e => by
    rw [unH_no (keepF b (some_ne e))]
    exact I.sr.sub b o e
  have hh : Same Hw (unH Hw (G.hat pv sw Hw) H) := fun b o e => by
    rw [unH_no (.inr (some_ne e))]
    exact hs b o (hat_some e)
  refine ⟨I.inv.os, I.inv.bare, ?_, fun b u e => ?_, ⟨I.sr.f0, fh, hh, fun b hb => ?_⟩⟩
  · have low : ∀ {b : Addr} {o : Obj}, sw.heap.get? b = some o → Hw b = none → b ∉ pv → ¬ b < G.n → H b = some (ghost b o) ∧ G.hat pv sw Hw b = some (ghost b o) := fun {b o} e z np nl => by
      have q := hat_gh z (Nat.not_lt.mp nl) np e
      exact ⟨hs _ _ q, q⟩
    have lowg : ∀ {b : Addr} {o : Obj}, H b = some (ghost b o) → s.heap.get? b = some o := fun {b o} e => (okH b _ e).1
    have b0 : ∀ {b : Addr} {o : Obj}, b < G.n → sw.heap.get? b = some o → (cutS G sw).heap.get? b = some o := fun {b o} hb e => (cut_lt hb).trans e
    have h0 : ∀ {b : Addr}, b < G.n → Hw b = none → (G.cx (cutS G sw) (G.hat pv sw Hw)).H_0 b = none := fun {b} hb z => (hat_lt hb).trans z
    refine ⟨fun b o e z nf np => ?_, fun b o e z nf np => ?_, fun b o e z np => ?_, fun b o e np => ?_, fun b xs e => hh b _ e, fun b o u e => hh b _ e, fun b ps e => ⟨#[], by rw [hh b _ e]; simp⟩⟩
    · by_cases hb : b < G.n
      · exact I.inv.base.keep b o (b0 hb e) (h0 hb z) nf (by simp)
      · exact lowg (low e z np hb).1
    · exact I.inv.base.slot b o (b0 (ok.outn b nf) e) (h0 (ok.outn b nf) z) nf (by simp)
    · by_cases hb : b < G.n
      · exact unH_none (I.inv.base.free b o (b0 hb e) (h0 hb z) (by simp))
      · exact unH_gh z (low e z np hb).2
    · by_cases hb : b < G.n
      · exact I.inv.base.there b o (b0 hb e) (by simp)
      · cases q : Hw b with
        | none => exact ⟨o, lowg (low e q np hb).1⟩
        | some u => exact hok_some okH (hs _ _ (hat_some q))
  · obtain ⟨q, c⟩ := unH_of e
    have nog : ∀ d o, H d = some o → (∀ o', o ≠ ghost d o') → unH Hw (G.hat pv sw Hw) H d = some o := fun d o z ng => by
      cases y : G.hat pv sw Hw d with
      | none => rw [unH_no (.inl y)]; exact z
      | some o2 =>
        rcases hat_of y with x | ⟨_, _, _, o3, _, x⟩
        · rw [unH_no (.inr (some_ne x))]; exact z
        · subst x
          rw [hs _ _ y] at z
          exact absurd (Option.some.inj z).symm (ng o3)
    exact (okH b u q).stay (fun _ _ _ z => z) (fun d z => nog d _ z fun _ y => by cases y) fun d xs z => nog d _ z fun _ y => by cases y
  · rcases I.sr.grow b hb with z | z | z | ⟨xs, z⟩
    · exact .inl z
    · exact .inr (.inl (hat_none z))
    · exact z.elim
    · rcases hat_of z with q | ⟨_, _, _, o, _, q⟩
      · exact .inr (.inr ⟨xs, q⟩)
      · cases q
/-- all that a frame holds becomes still -/
def stillS : Sl → Sl
  | .m c => match c.d? with
    | some d => .v d
    | none => .un
  | s => s
theorem SR.stills {K : PySem.W.Frag} {E : Ent} {F H : Hp} {σ : L2.St} {env : PEnv} {As : Nat → List Addr} (S : SR K E F H σ env As) : ∃ F', SR K E F' H σ (env.map stillS) (fun _ => []) ∧ Same F F' := by
  have f := frz_sub (F := F) S.sub ((List.range env.length).flatMap As)
  have ma : ∀ {i : Nat} {a : Addr}, a ∈ As i → a ∈ (List.range env.length).flatMap As := fun {i a} h => by
    refine List.mem_flatMap.mpr ⟨i, List.mem_range.mpr ?_, h⟩
    rcases Nat.lt_or_ge i env.length with q | q
    · exact q
    · rw [S.out i q] at h; cases h
  refine ⟨_, ⟨frz_le S.sub _, S.f0.trans f, fun a z => ?_, S.keep, by rw [List.length_map]; exact S.len, fun i z e => ?_, fun _ _ => rfl, fun _ a h => absurd h (by simp), fun _ => List.nodup_nil, fun _ _ _ _ h => absurd h (by simp), S.fix⟩, f⟩
  · by_cases q : a ∈ (List.range env.length).flatMap As
    · obtain ⟨i, _, h⟩ := List.mem_flatMap.mp q
      exact .inr ((S.own i a h).2.elim (fun z => .inr (.inl z)) .inl)
    · rw [frz_not q] at z
      exact S.grow a z
  · rw [List.getElem?_map] at e
    obtain ⟨z0, e0, e1⟩ := Option.map_eq_some_iff.mp e
    obtain ⟨x, h1, h2⟩ := S.slot i z0 e0
    refine ⟨x, h1, ?_⟩
    subst e1
    cases z0 with
    | un => exact rfl
    | v d => obtain ⟨v, q1, q2, _⟩ := h2; exact ⟨v, q1, q2.to f, rfl⟩
    | m c =>
      obtain ⟨v, q1, q2⟩ := h2
      cases ed : c.d? with
      | some d =>
        have e2 : stillS (.m c) = .v d := by unfold stillS; simp only [ed]
        rw [e2]
        exact ⟨v, q1, Mp.still f q2 ed fun a ha => frz_of (ma ha), rfl⟩
      | none =>
        have e2 : stillS (.m c) = .un := by unfold stillS; simp only [ed]
        rw [e2]
        exact (rfl : ([] : List Addr) = [])
end PL

namespace PL
open PySem PySem.Spec PyProof.Rows L2 GenW

/-- at the next halt: the first of ds is handed out; or the end, when nothing is left -/
def GPo (G : GC) : List PyData → List Addr → Shared → Hp → Hp → End → Shared → Prop
  | [], pv, s, H, F => fun e s' => e = .ret (.ok (.ret .none)) ∧ ∃ H' F', GEff G pv s H F s' H' F'
  | d :: ds, pv, s, H, F => fun e s' => ∃ v x H' F' pv', SuspV e v ∧ GEff G pv s H F s' H' F' ∧ RelV x v ∧ Fp F' x d ∧ PvOk G pv s pv' s' H' ∧
      ∀ s2 H2 F2, Wk G pv' s2 H2 F2 → (∀ b ∈ pv', s2.heap.get? b = s'.heap.get? b) → Same F' F2 → GoX (model G.P G.w) G.A (GPo G ds pv' s2 H2 F2) e.genState (.send .none) s2
/-- it sleeps (or has not begun), ds are to come -/
def GAt (G : GC) (ds : List PyData) (gs : GenState) (pv : List Addr) (sl : Shared) (Fl : Hp) : Prop :=
  ∀ s2 H2 F2, Wk G pv s2 H2 F2 → (∀ b ∈ pv, s2.heap.get? b = sl.heap.get? b) → Same Fl F2 → GoX (model G.P G.w) G.A (GPo G ds pv s2 H2 F2) gs (.send .none) s2

/-! ### statements of a generator def -/
structure GEn where
  nx : List PyData → PEnv → Prop
  bk : List PyData → PEnv → Prop := fun _ _ => False
  ct : List PyData → PEnv → Prop := fun _ _ => False
def GFl (D : GEn) (f : Flow) (ds : List PyData) (env : PEnv) : Prop := match f with
  | .next => D.nx ds env
  | .brk => D.bk ds env
  | .cont => D.ct ds env
  | .ret _ => False
abbrev GStR := GEn → List PyData → PEnv → Prop
structure GFr (G : GC) (c : Code) (fs : List Frame) (gd : Bool → Bool) : Prop where
  over : G.A.over c fs = G.A.deeper G.env
  split : splitAtGen fs = none
  guard : fs.any Frame.guarded = false
  gd : gd false = false
structure GKn (G : GC) (ip : List (Addr × Obj)) (c : Code) (fs : List Frame) (K : Flow → Sem PySem.Fin) (D : GEn) (Fb : Hp) : Prop where
  ok : ∀ (f : Flow) (ds : List PyData) (pv : List Addr) (sw : Shared) (Hw Fw : Hp) (σ : L2.St) (F H : Hp) (env : PEnv) (As : Nat → List Addr) (s : Shared), GI G pv sw Hw Fw ip σ F H env As s → Same Fb F → GFl D f ds env →
    Sg (model G.P G.w) G.A (GPo G ds pv sw Hw Fw) c (K f) fs s
structure GS1 (G : GC) (st : Stmt) (p : GStR) : Prop where
  run : ∀ (ip : List (Addr × Obj)) (c : Code) (fs : List Frame) (K : Flow → Sem PySem.Fin) (J : Value → Sem PySem.Fin) (gd : Bool → Bool) (lv : List Value → List Value) (D : GEn) (ds : List PyData) (pv : List Addr) (sw : Shared) (Hw Fw : Hp) (σ : L2.St) (F H : Hp) (env : PEnv) (As : Nat → List Addr) (s : Shared) (Fb : Hp),
    GFr G c fs gd → GKn G ip c fs K D Fb → GI G pv sw Hw Fw ip σ F H env As s → Same Fb F → p D ds env → Sg (model G.P G.w) G.A (GPo G ds pv sw Hw Fw) c ((exec st G.env).wrap K J gd lv) fs s
structure GSn (G : GC) (sts : List Stmt) (p : GStR) : Prop where
  run : ∀ (ip : List (Addr × Obj)) (c : Code) (fs : List Frame) (K : Flow → Sem PySem.Fin) (J : Value → Sem PySem.Fin) (gd : Bool → Bool) (lv : List Value → List Value) (D : GEn) (ds : List PyData) (pv : List Addr) (sw : Shared) (Hw Fw : Hp) (σ : L2.St) (F H : Hp) (env : PEnv) (As : Nat → List Addr) (s : Shared) (Fb : Hp),
    GFr G c fs gd → GKn G ip c fs K D Fb → GI G pv sw Hw Fw ip σ F H env As s → Same Fb F → p D ds env → Sg (model G.P G.w) G.A (GPo G ds pv sw Hw Fw) c ((execs sts G.env).wrap K J gd lv) fs s
def entN (F H : Hp) : Ent := ⟨F, H, fun _ => False, fun _ => none⟩
def gNext : GStR := fun D ds env => D.nx ds env
def gSeq (p q : GStR) : GStR := fun D ds env => p { D with nx := q D } ds env
def gPlain (p : PSt) : GStR := fun D ds env => p { nx := D.nx ds, rt := fun _ _ => False, bk := D.bk ds, ct := D.ct ds } env
def gYield (p : PX) : GStR := fun D ds env => p env fun d env' => match ds with
  | [] => False
  | d0 :: rest => d0 = d ∧ D.nx rest (env'.map stillS)
section
variable {G : GC} {st : Stmt} {rest : List Stmt}
theorem gs_nil : GSn G [] gNext := ⟨fun ip c fs K J gd lv D ds pv sw Hw Fw σ F H env As s Fb fr k I fb h => k.ok .next ds pv sw Hw Fw σ F H env As s I fb h⟩
theorem gs_cons {p q : GStR} (a : GS1 G st p) (b : GSn G rest q) : GSn G (st :: rest) (gSeq p q) := by
  refine ⟨fun ip c fs K J gd lv D ds pv sw Hw Fw σ F H env As s Fb fr k I fb h => sg_cons ?_⟩
  refine a.run ip c fs _ J gd lv { D with nx := q D } ds pv sw Hw Fw σ F H env As s Fb fr ⟨fun f ds' pv' sw' Hw' Fw' σ' F' H' env' As' s' I' fb' h' => ?_⟩ I fb h
  cases f with
  | next => exact b.run ip c fs K J gd lv D ds' pv' sw' Hw' Fw' σ' F' H' env' As' s' Fb fr k I' fb' h'
  | brk => exact k.ok .brk ds' pv' sw' Hw' Fw' σ' F' H' env' As' s' I' fb' h'
  | cont => exact k.ok .cont ds' pv' sw' Hw' Fw' σ' F' H' env' As' s' I' fb' h'
  | ret u => exact h'.elim
theorem gs_one {p : GStR} (a : GS1 G st p) : GSn G [st] p := by
  refine ⟨fun ip c fs K J gd lv D ds pv sw Hw Fw σ F H env As s Fb fr k I fb h => sg_cons ?_⟩
  refine a.run ip c fs _ J gd lv D ds pv sw Hw Fw σ F H env As s Fb fr ⟨fun f ds' pv' sw' Hw' Fw' σ' F' H' env' As' s' I' fb' h' => ?_⟩ I fb h
  cases f with
  | next => exact k.ok .next ds' pv' sw' Hw' Fw' σ' F' H' env' As' s' I' fb' h'
  | brk => exact k.ok .brk ds' pv' sw' Hw' Fw' σ' F' H' env' As' s' I' fb' h'
  | cont => exact k.ok .cont ds' pv' sw' Hw' Fw' σ' F' H' env' As' s' I' fb' h'
  | ret u => exact h'.elim
theorem gs_plain {p : PSt} (h : ∀ (s0 : Shared) (H0 : Hp) (E : Ent), (∀ i, E.fix i = none) → PS (G.cx s0 H0) st (liftS G.K E p)) : GS1 G st (gPlain p) := by
  refine ⟨fun ip c fs K J gd lv D ds pv sw Hw Fw σ F H env As s Fb fr k I fb hp => sg_wrap ?_⟩
  rw [fr.over]
  let dl : (List PyData → PEnv → Prop) → L2.St → Hp → Prop := fun z σ' H' => ∃ F' env' As', SR G.K (G.ent pv sw Hw Fw) F' H' σ' env' As' ∧ Same F F' ∧ z ds env'
  refine wpAny_mono (wpAny_hsz I.gz ((h _ _ (G.ent pv sw Hw Fw) fun _ => rfl).run ip s σ H { nx := dl D.nx, bk := dl D.bk, ct := dl D.ct, rt := fun _ _ => False } I.inv ⟨F, env, As, _, I.sr, (fun i w e => by cases e), hp, ?_, ?_, ?_, ?_⟩)) (fun f s' ⟨gz, hs⟩ => ?_) fun _ _ z => z.elim
  · exact fun σ' F' H' env' As' _ S' f q => ⟨F', env', As', S', f, q⟩
  · exact fun σ' F' H' env' As' _ S' f q => ⟨F', env', As', S', f, q⟩
  · exact fun σ' F' H' env' As' _ S' f q => ⟨F', env', As', S', f, q⟩
  · exact fun _ _ _ _ _ _ _ _ _ _ _ _ q => q
  · cases f with
    | next => obtain ⟨σ', H', I', F', env', As', S', f', q⟩ := hs; exact k.ok .next ds pv sw Hw Fw σ' F' H' env' As' s' ⟨I.wk, I', S', I.ipo, I.lp, gz⟩ (fb.trans f') q
    | brk => obtain ⟨σ', H', I', F', env', As', S', f', q⟩ := hs; exact k.ok .brk ds pv sw Hw Fw σ' F' H' env' As' s' ⟨I.wk, I', S', I.ipo, I.lp, gz⟩ (fb.trans f') q
    | cont => obtain ⟨σ', H', I', F', env', As', S', f', q⟩ := hs; exact k.ok .cont ds pv sw Hw Fw σ' F' H' env' As' s' ⟨I.wk, I', S', I.ipo, I.lp, gz⟩ (fb.trans f') q
    | ret u => obtain ⟨_, _, _, _, _, q⟩ := hs; exact q.elim
/-- what stands when the frame falls asleep -/
theorem GI.sleep (ok : GOk G) {pv : List Addr} {sw : Shared} {Hw Fw : Hp} {ip : List (Addr × Obj)} {σ : L2.St} {F H : Hp} {env : PEnv} {s : Shared} (I : GI G pv sw Hw Fw ip σ F H env (fun _ => []) s) :
    PvOk G pv sw (G.n :: ip.map Prod.fst) s (unH Hw (G.hat pv sw Hw) H) ∧
    ∀ s2 H2 F2, Wk G (G.n :: ip.map Prod.fst) s2 H2 F2 → (∀ b ∈ G.n :: ip.map Prod.fst, s2.heap.get? b = s.heap.get? b) → Same F F2 →
      GI G (G.n :: ip.map Prod.fst) s2 H2 F2 ip σ F2 (G.hat (G.n :: ip.map Prod.fst) s2 H2) env (fun _ => []) s2 := by
  have pins : ∀ p ∈ ip, s.heap.get? p.1 = some p.2 ∧ H p.1 = none ∧ p.1 ≠ G.n ∧ p.1 ∉ frs G.outer ∧ ∀ v, p.2.data ≠ .cell v := fun p hp => I.inv.pin p (by simpa using hp)
  refine ⟨⟨List.mem_cons_self, fun b hb => ?_, fun b hb => ?_, fun b hb => unH_none ?_⟩, fun s2 H2 F2 wk hk hF => ?_⟩
  · rcases List.mem_cons.mp hb with z | z
    · rw [z]; exact ⟨Nat.le_refl _, .inl I.lp⟩
    · obtain ⟨p, hp, e⟩ := List.mem_map.mp z
      rw [← e]
      exact I.ipo p hp
  · rcases List.mem_cons.mp hb with z | z
    · rw [z]
      obtain ⟨m, ⟨o, es, ep, h1, h2, _⟩, _⟩ := I.inv.loc
      exact ⟨o, h1, fun v q => by rw [h2] at q; cases q⟩
    · obtain ⟨p, hp, e⟩ := List.mem_map.mp z
      rw [← e]
      exact ⟨p.2, (pins p hp).1, (pins p hp).2.2.2.2⟩
  · rcases List.mem_cons.mp hb with z | z
    · rw [z]; exact I.inv.free
    · obtain ⟨p, hp, e⟩ := List.mem_map.mp z
      rw [← e]
      exact (pins p hp).2.1
  · refine GI.born ok wk List.mem_cons_self I.inv.len I.sr.len ?_ (fun p hp => ?_) fun i z e => ?_
    · obtain ⟨m, ⟨o, es, ep, h1, h2⟩, h3⟩ := I.inv.loc
      refine ⟨m, ⟨o, es, ep, (hk _ List.mem_cons_self).trans h1, h2⟩, fun i x v e1 e2 e3 => ?_⟩
      obtain ⟨u, r, l⟩ := h3 i x v e1 e2 e3
      refine ⟨u, r, ?_⟩
      rcases l with l | ⟨l, _⟩
      · exact .inl l
      · exact absurd l fun z => z.elim (ok.nc x).1 (ok.nc x).2
    · obtain ⟨h1, _, h3, _, h5⟩ := pins p hp
      have hm : p.1 ∈ G.n :: ip.map Prod.fst := List.mem_cons_of_mem _ (List.mem_map.mpr ⟨p, hp, rfl⟩)
      exact ⟨(hk _ hm).trans h1, hm, h3, h5⟩
    · obtain ⟨x, h1, h2⟩ := I.sr.slot i z e
      exact ⟨x, h1, h2.to hF fun a ha => absurd ha (by simp)⟩
theorem gs_yield (ok : GOk G) {e : Expr} {yp pos : Pos} {p : PX} (he : ∀ (s0 : Shared) (H0 : Hp) (E : Ent), (∀ i, E.fix i = none) → PE (G.cx s0 H0) e (liftE G.K E p)) (hco : G.env.scope.isCoroutine = false := by rfl) (hi : interactive G.env = false := by rfl) :
    GS1 G (.Expr (.Yield (some e) yp) pos) (gYield p) := by
  refine ⟨fun ip c fs K J gd lv D ds pv sw Hw Fw σ F H env As s Fb fr k I fb hp => sg_yieldS fr.split fr.gd fr.guard ?_ hco hi⟩
  rw [fr.over]
  refine wpAny_mono (wpAny_hsz I.gz ((he _ _ (G.ent pv sw Hw Fw) fun _ => rfl).run ip s σ H (fun x H' => ∃ d0 rest F' env' As', ds = d0 :: rest ∧ SR G.K (G.ent pv sw Hw Fw) F' H' σ env' As' ∧ Same F F' ∧ Fp F' x d0 ∧ D.nx rest (env'.map stillS)) I.inv
    ⟨[], F, env, As, _, by rw [List.append_nil]; exact I.sr, (fun i w e => by cases e), hp, fun v d F' H' env' As' S' f h q => ?_⟩)) (fun v s' ⟨gz, hv⟩ => ?_) fun _ _ z => z.elim
  · cases ds with
    | nil => exact q.elim
    | cons d0 rest =>
      obtain ⟨q1, q2⟩ := q
      subst q1
      rw [List.append_nil] at S'
      exact ⟨d0, rest, F', env', As', rfl, S', f, h, q2⟩
  · obtain ⟨x, H', I', rv, d0, rest, F', env', As', ed, S', ff, h, q⟩ := hv
    subst ed
    intro e' sv cont
    obtain ⟨F2, S2, f2⟩ := S'.stills
    have I2 : GI G pv sw Hw Fw ip σ F2 H' (env'.map stillS) (fun _ => []) s' := ⟨I.wk, I', S2, I.ipo, I.lp, gz⟩
    obtain ⟨po, wake⟩ := I2.sleep ok
    refine ⟨v, x, _, F2, _, sv, I2.eff ok, rv, h.to f2, po, fun s2 H2 F3 wk hk hF => cont _ s2 ?_⟩
    exact k.ok .next rest _ s2 H2 F3 σ F3 _ _ _ s2 (wake s2 H2 F3 wk hk hF) (((fb.trans ff).trans f2).trans hF) q
end
/-- a loop over still data, with items handed out within -/
def gForL0 (t : Tg) (body : GStR) (D : GEn) : List PyData → List PyData → PEnv → Prop
  | [], ds, env => D.nx ds env
  | x :: xs, ds, env => tgP t x env fun env1 => body { nx := gForL0 t body D xs, ct := gForL0 t body D xs, bk := D.nx } ds env1
@[irreducible] def gForL (t : Tg) (body : GStR) (D : GEn) (xs : List PyData) (ds : List PyData) (env : PEnv) : Prop := gForL0 t body D xs ds env
theorem gForL_eq : @gForL = @gForL0 := by
  funext t body D xs ds env
  unfold gForL
  rfl
theorem gForL_n {t : Tg} {body : GStR} {D : GEn} {ds : List PyData} {env : PEnv} : gForL t body D [] ds env = D.nx ds env := by
  rw [gForL_eq]
  rfl
theorem gForL_c {t : Tg} {body : GStR} {D : GEn} {x : PyData} {xs ds : List PyData} {env : PEnv} : gForL t body D (x :: xs) ds env = tgP t x env fun env1 => body { nx := gForL t body D xs, ct := gForL t body D xs, bk := D.nx } ds env1 := by
  rw [gForL_eq]
  rfl
def gFor (pi : PIt) (t : Tg) (body : GStR) : GStR := fun D ds env => pi env fun xs env1 => gForL t body D xs ds env1
section
variable {G : GC} {tg iter : Expr} {body : List Stmt} {pi : PIt} {pb : GStR} {t : Tg} {pos : Pos}
theorem gfr_loop {c c' : Code} {fs : List Frame} {gd : Bool → Bool} {k : Result → Sem PySem.Fin} {l kp : List Value} {p : Pos} (g : GFr G c fs gd) (hw : c'.weight = 0) (hu : c'.cUnits = 0) : GFr G c' (.ret k none (gd false) l c p kp :: fs) id where
  over := (over_loop hw hu).trans g.over
  split := by
    show (splitAtGen fs).map _ = none
    rw [g.split]; rfl
  guard := by
    show (gd false || fs.any Frame.guarded) = false
    rw [g.gd, g.guard]; rfl
  gd := rfl
theorem gs_for (ok : GOk G) (hi : ∀ (s0 : Shared) (H0 : Hp) (E : Ent), (∀ i, E.fix i = none) → PJ (G.cx s0 H0) tg iter (liftI G.K E pi)) (hg : ∀ (s0 : Shared) (H0 : Hp), PG (G.cx s0 H0) tg (tgT G.K t)) (ht0 : (t.is.all fun i => decide (i < G.N.length)) = true) (hb : GSn G body pb)
    (hs : ∀ x, foldedSetIterable iter G.env x = pure x := by intro _; rfl) : GS1 G (.For tg iter body [] pos) (gFor pi t pb) := by
  have ht : ∀ i ∈ t.is, i < G.N.length := fun i hi => of_decide_eq_true (List.all_eq_true.mp ht0 i hi)
  refine ⟨fun ip c fs K J gd lv D ds pv sw Hw Fw σ F H env As s Fb fr k I fb hp => sg_For ?_ hs⟩
  rw [fr.over]
  refine wpAny_mono (wpAny_hsz I.gz ((hi _ _ (G.ent pv sw Hw Fw) fun _ => rfl).run ip s σ H (fun J' H' => ∃ xs F' env' As', SR G.K (G.ent pv sw Hw Fw) F' H' σ env' As' ∧ Same F F' ∧ Feeds G.K F' J' xs ∧ gForL t pb D xs ds env') sw.heap.objs.size I.gz I.inv
    ⟨[], F, env, As, _, by rw [List.append_nil]; exact I.sr, (fun i w e => by cases e), hp, fun xs J' F' H' env' As' S' f fd q => ⟨xs, F', env', As', by rw [List.append_nil] at S'; exact S', f, fd, q⟩⟩)) (fun v s1 ⟨gz1, h1⟩ => ?_) fun _ _ z => z.elim
  refine wpAny_mono (wpAny_hsz gz1 h1) (fun itv s2 ⟨gz2, h2⟩ => ?_) fun _ _ z => z.elim
  obtain ⟨it, fp, tn, Jt, H1, rfl, I1, T, st1, f1, xs, F1, env1, As1, S1, ff1, fd, q1⟩ := h2
  intro p
  have fl := gfr_loop (k := backK K J gd lv G.env) (c' := .forLoop tg (.ref it) body [] G.env) (l := lv []) (kp := []) (p := p) fr rfl rfl
  have main : ∀ (k' i : Nat) (ds : List PyData) (pv : List Addr) (sw : Shared) (Hw Fw : Hp) (σ : L2.St) (F H : Hp) (env : PEnv) (As : Nat → List Addr) (s : Shared), k' = xs.length - i → i ≤ xs.length →
      GI G pv sw Hw Fw ip σ F H env As s → tn i s.heap → (∀ b ∈ fp, H b = none ∧ G.n ≤ b ∧ (b ∈ pv ∨ sw.heap.objs.size ≤ b)) → Same F1 F → gForL t pb D (xs.drop i) ds env →
      Sg (model G.P G.w) G.A (GPo G ds pv sw Hw Fw) (.forLoop tg (.ref it) body [] G.env) ((model G.P G.w).den (.forLoop tg (.ref it) body [] G.env)) (.ret (backK K J gd lv G.env) none (gd false) (lv []) c p [] :: fs) s := by
    intro k'
    induction k' with
    | zero =>
      intro i ds pv sw Hw Fw σ F H env As s hk hi I st hf hF q
      have e : i = xs.length := by omega
      subst e
      rw [List.drop_length, gForL_n] at q
      refine sg_forLoop rfl ?_
      rw [fl.over]
      have fok : ∀ b ∈ fp, FpOk (G.cx (cutS G sw) (G.hat pv sw Hw)) ip H b := fun b hb => by
        obtain ⟨z1, z2, _⟩ := hf b hb
        obtain ⟨w0, w1, w2, w3, w4, w5⟩ := (f1 b hb).1
        exact ⟨z1, w1, w2, .inr (Nat.le_trans cut_size z2), w4, w5⟩
      refine wpAny_mono (wpAny_hsz I.gz (T.done (G.cx (cutS G sw) (G.hat pv sw Hw)) rfl rfl rfl rfl xs.length ip s σ H F0 I.inv fok st ((fd xs.length H F hF I.sr.sub).2 (Nat.le_refl _)))) (fun r s' ⟨gz, hr, I'⟩ => ?_) fun _ _ z => z.elim
      subst hr
      exact sg_leaf (.ok .next) (k.ok .next ds pv sw Hw Fw σ F H env As s' ⟨I.wk, I', I.sr, I.ipo, I.lp, gz⟩ ((fb.trans ff1).trans hF) q)
    | succ k' ih =>
      intro i ds pv sw Hw Fw σ F H env As s hk hi I st hf hF q
      have hlt : i < xs.length := by omega
      have e : xs[i]? = some xs[i] := List.getElem?_eq_getElem hlt
      obtain ⟨g1, g2⟩ := (fd i H F hF I.sr.sub).1 _ e
      rw [List.drop_eq_getElem_cons hlt, gForL_c] at q
      refine sg_forLoop rfl ?_
      rw [fl.over]
      have fok : ∀ {H' : Hp}, (∀ b ∈ fp, H' b = none) → ∀ b ∈ fp, FpOk (G.cx (cutS G sw) (G.hat pv sw Hw)) ip H' b := fun {H'} hn b hb => by
        obtain ⟨z1, z2, _⟩ := hf b hb
        obtain ⟨w0, w1, w2, w3, w4, w5⟩ := (f1 b hb).1
        exact ⟨hn b hb, w1, w2, .inr (Nat.le_trans cut_size z2), w4, w5⟩
      refine wpAny_mono (wpAny_hsz I.gz (T.item (G.cx (cutS G sw) (G.hat pv sw Hw)) rfl rfl rfl rfl i ip s σ H F0 I.inv (fok fun b hb => (hf b hb).1) st g1)) (fun r s3 ⟨gz3, u, hr, h3⟩ => ?_) fun _ _ z => z.elim
      subst hr
      refine wpAny_mono (wpAny_hsz gz3 h3) (fun _ s4 ⟨gz4, x, H4, I4, rv, y4, st4, fr4⟩ => ?_) fun _ _ z => z.elim
      obtain ⟨F4, gr, hd⟩ := g2 x H4 y4
      have S4 := I.sr.gr gr
      unfold tgP at q
      split at q
      · rename_i bs eb
        obtain ⟨ws, b1, b2, b3⟩ := tg_lift (K := G.K) S4.sub t hd eb
        have I4' := I4.pinned (fok fr4) (T.obj _ _ st4)
        have el : env.length = G.N.length := by rw [← I.sr.len]; exact I.inv.len
        obtain ⟨As5, S5, _⟩ := SR.setDs S4 b1 fun p' hp' => ⟨by rw [el]; exact ht p'.1 (by rw [← b2]; exact List.mem_map.mpr ⟨p', hp', rfl⟩), rfl⟩
        refine wpAny_mono (wpAny_hsz gz4 ((hg _ _).run _ s4 σ H4 x u (fun σ' H' => σ' = setVs σ ws ∧ H' = H4) I4' rv (b3 σ _ ⟨rfl, rfl⟩))) (fun _ s5 ⟨gz5, σ5, H5, I5, e5, e6⟩ => ?_) fun _ _ z => z.elim
        subst e5 e6
        have ipo' : ∀ p' ∈ ip ++ pinsAt fp s4.heap, G.n ≤ p'.1 ∧ (p'.1 ∈ pv ∨ sw.heap.objs.size ≤ p'.1) := fun p' hp' => by
          rcases List.mem_append.mp hp' with z | z
          · exact I.ipo p' z
          · exact (hf _ (of_pinsAt z).1).2
        refine hb.run (ip ++ pinsAt fp s4.heap) _ _ _ _ id id _ ds pv sw Hw Fw _ F4 H5 _ As5 s5 F4 fl ⟨fun f ds6 pv6 sw6 Hw6 Fw6 σ6 F6 H6 env6 As6 s6 I6 fb6 h6 => ?_⟩ ⟨I.wk, I5, S5, ipo', I.lp, gz5⟩ (Same.refl F4) q
        have pinK : ∀ p' ∈ ip ++ pinsAt fp s4.heap, s6.heap.get? p'.1 = some p'.2 ∧ H6 p'.1 = none := fun p' hp' => by
          have z := I6.inv.pin p' (by simpa using hp')
          exact ⟨z.1, z.2.1⟩
        have I6' : GI G pv6 sw6 Hw6 Fw6 ip σ6 F6 H6 env6 As6 s6 := ⟨I6.wk, I6.inv.unpinned, I6.sr, fun p' hp' => I6.ipo p' (List.mem_append_left _ hp'), I6.lp, I6.gz⟩
        have st6 : tn (i + 1) s6.heap := T.keep _ _ _ st4 fun b hb o e => (pinK (b, o) (List.mem_append_right _ (mem_pinsAt hb e))).1
        have fr6 : ∀ b ∈ fp, H6 b = none ∧ G.n ≤ b ∧ (b ∈ pv6 ∨ sw6.heap.objs.size ≤ b) := fun b hb => by
          obtain ⟨o, e, _⟩ := T.obj _ _ st4 b hb
          have z := mem_pinsAt hb e
          exact ⟨(pinK (b, o) (List.mem_append_right _ z)).2, I6.ipo (b, o) (List.mem_append_right _ z)⟩
        have hF6 : Same F1 F6 := (hF.trans gr.ff).trans fb6
        cases f with
        | next => exact sg_again rfl (ih (i + 1) ds6 pv6 sw6 Hw6 Fw6 σ6 F6 H6 env6 As6 s6 (by omega) (by omega) I6' st6 fr6 hF6 h6)
        | cont => exact sg_again rfl (ih (i + 1) ds6 pv6 sw6 Hw6 Fw6 σ6 F6 H6 env6 As6 s6 (by omega) (by omega) I6' st6 fr6 hF6 h6)
        | brk => exact sg_leaf (.ok .next) (k.ok .next ds6 pv6 sw6 Hw6 Fw6 σ6 F6 H6 env6 As6 s6 I6' ((fb.trans ff1).trans hF6) h6)
        | ret v => exact h6.elim
      · exact q.elim
  refine main _ 0 ds pv sw Hw Fw σ F1 H1 env1 As1 s2 rfl (Nat.zero_le _) ⟨I.wk, I1, S1, I.ipo, I.lp, gz2⟩ st1 (fun b hb => ?_) (Same.refl _) q1
  obtain ⟨z, zN⟩ := f1 b hb
  have := I.wk.sz
  exact ⟨z.1, by omega, .inr zN⟩
end
end PL

namespace PL
open PySem PySem.Spec PyProof.Rows L2 GenW

/-! ### a generator def, called -/
theorem sg_func {P : Program} {w : World} {A : Around} {Po : End → Shared → Prop} {fs : List Frame} {s : Shared} {body : List Stmt} {env : Env}
    (h : Sg (model P w) A Po (.func body env) ((execs body env).wrap (fun f => .pure (.done (.ret (match f with | .ret v => v | _ => .none)))) (fun e => (leaving env e).wrap (fun _ => .raise e) .raise id id) id id) fs s) :
    Sg (model P w) A Po (.func body env) ((model P w).den (.func body env)) fs s := by
  show Sg _ A Po _ (.point [] fun _ => ((execs body env).onRaise (leaving env)) >>= _) fs s
  refine sg_point ?_
  rw [Sem.onRaise_eq_wrap, Sem.bind_eq_wrap', Sem.wrap_wrap]
  rw [Sem.wrap_congr (execs body env) _ _ (K' := fun f => .pure (.done (.ret (match f with | .ret v => v | _ => .none))))
    (H' := fun e => (leaving env e).wrap (fun _ => .raise e) .raise id id) (fun f => by cases f <;> rfl) (fun e => by rw [Sem.bind_eq_wrap, Sem.wrap_wrap]; rfl)]
  exact h
/-- a generator def's heap-free meaning: what it hands out -/
abbrev SpY := List Sl → List PyData → Prop
def spGn (nl : Nat) (body : GStR) : SpY := fun args ys => body { nx := fun ds _ => ds = [] } ys (args ++ List.replicate nl .un)
def StA (F : Hp) (v : V) (sl : Sl) : Prop := ∃ d, sl = .v d ∧ Fp F v d
/-- a generator that has not begun -/
def GNew (P : Program) (w : World) (K : PySem.W.Frag) (mg : Str → Option Value) (base : Heap) (k : Nat) (s : Shared) (F : Hp) (ys : List PyData) (u : Value) (s' : Shared) : Prop :=
  ∃ (a : Addr) (g : Nat) (c : Code) (n : Nat), u = .ref a ∧ s.heap.objs.size ≤ n ∧ n < a ∧ a < s'.heap.objs.size ∧ (∃ o, s'.heap.get? n = some o ∧ ∀ v, o.data ≠ .cell v) ∧ s'.heap.IsGen a g ∧ s'.gens[g]? = some (.fresh c) ∧ s'.os = s.os ∧ AllBare s'.gens ∧ Kg s s' ∧
    (∀ b o, s.heap.get? b = some o → s'.heap.get? b = some o) ∧
    ∀ (A1 : Around) (outer1 : List Env), Room k A1 → A1.guards = some [] → A1.frames = some outer1 → (∀ b ∈ frs outer1, b < n) →
      ∃ N qual scope f cd, GOk ⟨P, w, K, mg, base, N, qual, scope, f, cd, A1, outer1, n⟩ ∧ GAt ⟨P, w, K, mg, base, N, qual, scope, f, cd, A1, outer1, n⟩ ys (.fresh c) [n] s' F
structure GGn (P : Program) (w : World) (K : PySem.W.Frag) (mg : Str → Option Value) (base : Heap) (k : Nat) (f : Addr) (fd : FuncData) (ps : List Str) (sp : SpY) : Prop where
  run : ∀ (A : Around) (outer : List Env) (s : Shared) (H F : Hp) (args : Args) (us : List Value) (vs : List V) (sls : List Sl) (ys : List PyData), Room k A → Env0 P w K mg base A outer s H → BindsTo s fd args (ps.zip us) → Vals vs us → Same F H → Paired (StA F) vs sls → sls.length = ps.length → sp sls ys →
    codeAny (model P w) A (.call (.ref f) args) (fun r s' => match r with | .ok (.ret u) => GNew P w K mg base k s F ys u s' | _ => False) s
theorem cells_nil : ∀ (ns : List (Str × NameKind)) (n : Nat) (acc : List (Str × Addr)), (ns.all fun y => !(y.2 == .cell)) = true → cellsFrom n ns acc = acc
  | [], _, _, _ => rfl
  | (nm, kd) :: r, n, acc, h => by
    rw [List.all_cons, Bool.and_eq_true] at h
    unfold cellsFrom
    rw [if_neg (fun z => by
      have y := h.1
      simp [z] at y)]
    exact cells_nil r n acc h.2
theorem ggn_of {P : Program} {w : World} {K : PySem.W.Frag} {mg : Str → Option Value} {base : Heap} {x qual : Str} {st : Stmt} {f : Addr} {fd : FuncData} {N ps : List Str} {k nl : Nat} {pb : GStR} (Fn : Fun K x qual st f fd) (S : GScope N ps (defScope st)) (hN : N.length = ps.length + nl)
    (hnc : ((defScope st).names.all fun y => !(y.2 == .cell) && !(y.2 == .free)) = true)
    (hbody : ∀ (G : GC), G.P = P → G.w = w → G.K = K → G.mg = mg → G.base = base → G.N = N → G.scope = defScope st → GOk G → Room k (G.A.deeper G.env) → (G.A.deeper G.env).guards = some [] → GSn G (defBody st) pb) :
    GGn P w K mg base (k + 1) f fd ps (spGn nl pb) := by
  obtain ⟨oc, od, kV, doc, pm, an, cdv, ct, osl, rfl, lk, hcd⟩ := Fn.ex
  refine ⟨fun A outer s H F args us vs sls ys hr e0 hb r hF hA hl hsp => ?_⟩
  have lv : vs.length = ps.length := by rw [← hl]; exact hA.length
  have KX : K.In s.heap := e0.mod.kin.keeps fun b o e => (e0.bs b o e).1
  have lim : s.heap.NoLimit := e0.mod.nolimit.keeps fun b o e => (e0.bs b o e).1
  have hkind : ∀ y ∈ ps.zip us, (defScope st).names.lookup y.1 = some .local ∨ ((defScope st).names.lookup y.1 = some .cell ∧ ((cellsFrom (s.heap.objs.size + 1) (defScope st).names []).lookup y.1).isSome = true) := fun ⟨n, v⟩ hy => by
    rcases S.par n (List.of_mem_zip hy).1 with q | q
    · exact .inl q
    · exact .inr ⟨q, PySem.W.cellsFrom_some _ _ _ (.inl q)⟩
  have nocell : ((defScope st).names.all fun y => !(y.2 == .cell)) = true := List.all_eq_true.mpr fun y hy => by
    have z := List.all_eq_true.mp hnc y hy
    rw [Bool.and_eq_true] at z
    exact z.1
  refine codeAny_call_generator hr.depth (KX _ _ lk) rfl S.co S.gen rfl (PySem.W.codeRec_of KX hcd) (hb _ _ _ _ ?_)
  refine wpAny_newFunctionEnv_cells S.kind hkind fun env he s1 x1 => ?_
  subst he
  have lim1 : s1.heap.NoLimit := lim.keeps x1.toInCall.keep
  refine ⟨lim1, ?_⟩
  obtain ⟨h1, tk, es1, hk1⟩ := x1.done
  have os1 : s1.os = s.os := by rw [es1]
  have gen1 : s1.gens = s.gens := by rw [es1]
  have lt1 : s.heap.objs.size < s1.heap.objs.size := x1.toInCall.ns.lt
  have kp1 : ∀ b o, s.heap.get? b = some o → s1.heap.get? b = some o := x1.toInCall.keep
  obtain ⟨m, hm, hloc⟩ := (inv_startG (E := fun _ _ _ => False) S hr.hd e0 lv r x1).loc
  have main : ∀ (go : Obj) (nm qn : Value) (tk2 : Nat), go.cls = .type "generator" → go.data = .fields #[.int s1.gens.size 0, nm, qn] → go.slots = #[] → (∀ h : Heap, (h.push go).get? h.objs.size = some go) →
      GNew P w K mg base (k + 1) s F ys (.ref s1.heap.objs.size) { s1 with gens := s1.gens.push (.fresh (.func (defBody st) (envOfC qual (defScope st) s.heap.objs.size f cdv))), toks := tk2, heap := s1.heap.push go } := by
    intro go nm qn tk2 hgc hgd0 hgs hgp
    have kp2 : ∀ b o, s1.heap.get? b = some o → (s1.heap.push go).get? b = some o := fun b o e => Heap.get?_push_of_some _ e
    refine ⟨s1.heap.objs.size, s1.gens.size, _, s.heap.objs.size, rfl, Nat.le_refl _, lt1, ?_, ?_, ⟨go, nm, qn, hgp _, hgc, hgd0, hgs⟩, Array.getElem?_push_size .., os1, ?_, fun i gs e z => ?_, fun b o e => kp2 b o (kp1 b o e), ?_⟩
    · show _ < (s1.heap.push _).objs.size
      rw [Heap.size_push]; exact Nat.lt_succ_self _
    · obtain ⟨o, es, ep, e1, e2, _⟩ := hm
      exact ⟨o, kp2 _ _ e1, fun v q => by rw [e2] at q; cases q⟩
    · exact AllBare.push (by rw [gen1]; exact e0.bare) rfl
    · show (s1.gens.push _)[i]? = some gs
      have hi : i < s1.gens.size := by rw [gen1]; exact lt_of_some e
      rw [Array.getElem?_push_lt hi, ← Array.getElem?_eq_getElem hi, gen1]
      exact e
    intro A1 outer1 hr1 hg1 hf1 ho1
    have hcl : (envOfC qual (defScope st) s.heap.objs.size f cdv).cells = [] := cells_nil _ _ _ nocell
    have ok : GOk ⟨P, w, K, mg, base, N, qual, defScope st, f, cdv, A1, outer1, s.heap.objs.size⟩ := by
      refine ⟨S.kind, hr1.hd, hf1, fun y => ?_, hcl, ho1, e0.bsz⟩
      have z : ∀ kd, (defScope st).names.lookup y = some kd → kd ≠ .cell ∧ kd ≠ .free := fun kd e => by
        have q := List.all_eq_true.mp hnc _ (PySem.mem_of_lookup e)
        rw [Bool.and_eq_true] at q
        exact ⟨fun y => by rw [y] at q; exact absurd (show (!(NameKind.cell == NameKind.cell)) = true from q.1) (by decide), fun y => by rw [y] at q; exact absurd (show (!(NameKind.free == NameKind.free)) = true from q.2) (by decide)⟩
      exact ⟨fun q => (z _ q).1 rfl, fun q => (z _ q).2 rfl⟩
    refine ⟨N, qual, defScope st, f, cdv, ok, fun s2 H2 F2 wk hk hF2 => ⟨rfl, sg_func ?_⟩⟩
    have gb := hbody ⟨P, w, K, mg, base, N, qual, defScope st, f, cdv, A1, outer1, s.heap.objs.size⟩ rfl rfl rfl rfl rfl rfl rfl ok (hr1.deeper _) hg1
    refine gb.run [] _ [] _ _ id id { nx := fun ds _ => ds = [] } ys [s.heap.objs.size] s2 H2 F2 (start N vs) F2 _ (sls ++ List.replicate nl Sl.un) _ s2 F2 ⟨over_func, rfl, rfl, rfl⟩ ⟨fun fl ds pv sw Hw Fw σ F' H' env' As' s' I _ hfl => ?_⟩ (GI.born ok wk (by simp) ?_ ?_ ?_ (fun p hp => absurd hp (by simp)) fun i z e => ?_) (Same.refl _) (show spGn nl pb sls ys from hsp)
    · cases fl with
      | next =>
        have e : ds = [] := hfl
        subst e
        exact sg_end (.ok (.ret .none)) ⟨rfl, _, _, I.eff ok⟩
      | brk => exact hfl.elim
      | cont => exact hfl.elim
      | ret u => exact hfl.elim
    · unfold L2.start
      rw [List.length_append, List.length_map, List.length_replicate]
      show vs.length + (N.length - vs.length) = N.length
      omega
    · unfold L2.start
      rw [List.length_append, List.length_append, List.length_map, List.length_replicate, List.length_replicate]
      omega
    · obtain ⟨o, es, ep, e1, e2⟩ := hm
      have e3 : s2.heap.get? s.heap.objs.size = some o := (hk _ (by simp)).trans (kp2 _ _ e1)
      refine ⟨m, ⟨o, es, ep, e3, e2⟩, fun i y v q1 q2 q3 => ?_⟩
      obtain ⟨u, rv, l⟩ := hloc i y v q1 q2 q3
      refine ⟨u, rv, ?_⟩
      rcases l with l | ⟨l, _⟩
      · exact .inl l
      · exact absurd l fun z => z.elim (ok.nc y).1 (ok.nc y).2
    · by_cases hi : i < sls.length
      · rw [List.getElem?_append_left hi] at e
        have hv : i < vs.length := by omega
        obtain ⟨v, e1, d, e2, h2⟩ := paired_get hA e
        refine ⟨some v, ?_, ?_⟩
        · unfold L2.start
          rw [List.getElem?_append_left (by rw [List.length_map]; exact hv), List.getElem?_map, e1]
          rfl
        · rw [e2]
          exact ⟨v, rfl, h2.to hF2, rfl⟩
      · rw [List.getElem?_append_right (by omega), List.getElem?_replicate] at e
        split at e
        · rename_i c
          cases e
          refine ⟨none, ?_, rfl⟩
          unfold L2.start
          rw [List.getElem?_append_right (by rw [List.length_map]; omega), List.length_map, List.getElem?_replicate, if_pos (by omega)]
        · cases e
  exact main _ _ _ _ rfl rfl rfl fun h => Heap.get?_push_size _ rfl
end PL

namespace PL
open PySem PySem.Spec PyProof.Rows L2 GenW

/-! ### what is walked while it lives -/
structure LT (P : Program) (w : World) (K : PySem.W.Frag) (mg : Str → Option Value) (base : Heap) (A : Around) (outer : List Env) (tg : Expr) (ds : List PyData) (it : Addr) (tn : Nat → Hp → List Addr → Shared → Prop) : Prop where
  obj : ∀ i F fp s, tn i F fp s → it ∈ fp ∧ ∀ b ∈ fp, ∃ o, s.heap.get? b = some o ∧ ∀ v, o.data ≠ .cell v
  keep0 : ∀ i F F' fp s s', tn i F fp s → Same F F' → (∀ b ∈ fp, ∀ o, s.heap.get? b = some o → s'.heap.get? b = some o) → s'.gens = s.gens → tn i F' fp s'
  keep : ∀ i F F' fp s s', tn (i + 1) F fp s → Same F F' → (∀ b ∈ fp, ∀ o, s.heap.get? b = some o → s'.heap.get? b = some o) → Kg s s' → tn (i + 1) F' fp s'
  item : ∀ (X : Cx), X.prog = P → X.w = w → X.K = K → X.mg = mg → X.base = base → X.A = A → X.stack = outer → X.calm = true → ∀ (i : Nat) (d : PyData) (pins : List (Addr × Obj)) (s : Shared) (σ : L2.St) (F H : Hp) (fp : List Addr),
    Inv X pins σ H s → (∀ b ∈ fp, FpOk X pins H b) → tn i F fp s → Same F H → ds[i]? = some d →
    wpAny (model P w) A (pyNext (.ref it)) (fun r s1 => ∃ u, r = some u ∧ wpAny (model P w) A (letOwnedTupleGo tg (.ref it) u) (fun _ s2 => ∃ x H' F' fp', Inv X pins σ H' s2 ∧ RelV x u ∧ Gr F H F' H' ∧ Fp F' x d ∧ tn (i + 1) F' fp' s2 ∧ ∀ b ∈ fp', FpOk X pins H' b) F0 s1) F0 s
  done : ∀ (X : Cx), X.prog = P → X.w = w → X.K = K → X.mg = mg → X.base = base → X.A = A → X.stack = outer → X.calm = true → ∀ (pins : List (Addr × Obj)) (s : Shared) (σ : L2.St) (F H : Hp) (fp : List Addr),
    Inv X pins σ H s → (∀ b ∈ fp, FpOk X pins H b) → tn ds.length F fp s → Same F H →
    wpAny (model P w) A (pyNext (.ref it)) (fun r s1 => r = none ∧ ∃ F' H', Inv X pins σ H' s1 ∧ Gr F H F' H') F0 s
  self : ∀ (A' : Around) (i : Nat) (F : Hp) (fp : List Addr) (s : Shared) (Q : Value → Shared → Prop) (E : Value → Shared → Prop), tn i F fp s → Q (.ref it) s → wpAny (model P w) A' (pyIter (.ref it)) Q E s
/-- a generator's turns -/
def gtn (G : GC) (ds : List PyData) (it : Addr) (i : Nat) (F : Hp) (fp : List Addr) (s : Shared) : Prop :=
  ∃ (g : Nat) (gs : GenState) (pv : List Addr) (sl : Shared) (Fl : Hp), s.heap.IsGen it g ∧ s.gens[g]? = some gs ∧ (gAsl gs = true ∨ i = 0) ∧ GAt G (ds.drop i) gs pv sl Fl ∧ (∀ b ∈ pv, s.heap.get? b = sl.heap.get? b) ∧ Same Fl F ∧ fp = it :: pv ∧ it ∉ pv ∧ G.n ∈ pv ∧
    ∀ b ∈ pv, G.n ≤ b ∧ ∃ o, s.heap.get? b = some o ∧ ∀ v, o.data ≠ .cell v
theorem same_get {s s' : Heap} {b : Addr} {o : Obj} (h : ∀ o, s.get? b = some o → s'.get? b = some o) (e : s.get? b = some o) : s'.get? b = s.get? b := by rw [e, h o e]
theorem isgen_at {h h' : Heap} {a : Addr} {g : Nat} (x : h.IsGen a g) (k : ∀ o, h.get? a = some o → h'.get? a = some o) : h'.IsGen a g := let ⟨o, nm, qn, e, r⟩ := x; ⟨o, nm, qn, k o e, r⟩
theorem gtn_move {G : GC} {ds : List PyData} {it : Addr} {i : Nat} {F F' : Hp} {fp : List Addr} {s s' : Shared} (h : gtn G ds it i F fp s) (f : Same F F') (k : ∀ b ∈ fp, ∀ o, s.heap.get? b = some o → s'.heap.get? b = some o)
    (g : ∀ (g : Nat) (gs : GenState), s.gens[g]? = some gs → (gAsl gs = true ∨ i = 0) → s'.gens[g]? = some gs) : gtn G ds it i F' fp s' := by
  obtain ⟨gn, gs, pv, sl, Fl, h1, h2, h3, h4, h5, h6, h7, h8, h9, h10⟩ := h
  subst h7
  refine ⟨gn, gs, pv, sl, Fl, isgen_at h1 (k _ List.mem_cons_self), g _ _ h2 h3, h3, h4, fun b hb => ?_, h6.trans f, rfl, h8, h9, fun b hb => ⟨(h10 b hb).1, ?_⟩⟩
  · obtain ⟨_, o, e, _⟩ := h10 b hb
    rw [same_get (k b (List.mem_cons_of_mem _ hb)) e]
    exact h5 b hb
  · obtain ⟨_, o, e, n⟩ := h10 b hb
    exact ⟨o, k b (List.mem_cons_of_mem _ hb) o e, n⟩
theorem lt_gen {P : Program} {w : World} {K : PySem.W.Frag} {mg : Str → Option Value} {base : Heap} {N : List Str} {qual : Str} {scope : Scope} {f : Addr} {cd : Value} {A : Around} {outer : List Env} {n : Nat} {tg : Expr} {ds : List PyData} {it : Addr}
    (hd : A.depth < recursionLimit) : LT P w K mg base A outer tg ds it (gtn ⟨P, w, K, mg, base, N, qual, scope, f, cd, A.in1, outer, n⟩ ds it) := by
  generalize hG : (⟨P, w, K, mg, base, N, qual, scope, f, cd, A.in1, outer, n⟩ : GC) = G
  have gP : G.P = P := by rw [← hG]
  have gw : G.w = w := by rw [← hG]
  have gO : G.outer = outer := by rw [← hG]
  have gA : G.A = A.in1 := by rw [← hG]
  have wake : ∀ (X : Cx), X.prog = P → X.w = w → X.K = K → X.mg = mg → X.base = base → X.A = A → X.stack = outer → X.calm = true → ∀ (i : Nat) (pins : List (Addr × Obj)) (s : Shared) (σ : L2.St) (F H : Hp) (fp : List Addr) (Q : Option Value → Shared → Prop),
      Inv X pins σ H s → (∀ b ∈ fp, FpOk X pins H b) → gtn G ds it i F fp s → Same F H →
      (∀ (g : Nat) (pv : List Addr) (e : End) (s₁ : Shared), s.heap.IsGen it g → fp = it :: pv → it ∉ pv → g < s₁.gens.size → GPo G (ds.drop i) pv (s.setGen g .running) H F e s₁ →
        (∃ v, SuspV e v ∧ Q (some v) (s₁.setGen g e.genState)) ∨ (e = .ret (.ok (.ret .none)) ∧ ∀ h', (∀ b o, s₁.heap.get? b = some o → h'.get? b = some o) → Q none { s₁.setGen g .finished with heap := h' })) →
      wpAny (model P w) A (pyNext (.ref it)) Q F0 s := by
    intro X x1 x2 x3 x4 x5 x6 x7 x8 i pins s σ F H fp Q I hf h f k
    obtain ⟨g, gs, pv, sl, Fl, h1, h2, h3, h4, h5, h6, h7, h8, h9, h10⟩ := h
    have e0 := I.env0
    rw [x1, x2, x3, x4, x5, x7] at e0
    have hd0 : A.handled = none := by rw [← x6]; exact I.ok.hd x8
    have fr : A.frames = some outer := by rw [← x6, ← x7]; exact I.ok.frames
    refine next_genX hd0 I.nolimit hd h1 h2 (gs := gs) (Po := GPo G (ds.drop i) pv (s.setGen g .running) H F) ?_ fun e s₁ hz he => k g pv e s₁ h1 h7 h8 (Nat.lt_of_lt_of_le (lt_of_some h2) hz) he
    have z := h4 (s.setGen g .running) H F ⟨?_, fun b hb => (hf b (by rw [h7]; exact List.mem_cons_of_mem _ hb)).1, fun b hb => (h10 b hb).1, f, ?_⟩ h5 h6
    · rw [gP, gw, gA] at z
      exact z
    · subst hG
      exact ⟨fr, e0.mod, e0.bs, e0.bsz, e0.funs, e0.frf, e0.hok, allBare_setGen e0.bare rfl⟩
    · obtain ⟨_, o, e, _⟩ := h10 _ h9
      exact Nat.le_of_lt (Heap.lt_size e)
  -- behind a stretch
  have after : ∀ (X : Cx), X.prog = P → X.w = w → X.stack = outer → ∀ (pins : List (Addr × Obj)) (s : Shared) (σ : L2.St) (F H F' H' : Hp) (pv : List Addr) (g : Nat) (s₁ : Shared) (st : GenState), Inv X pins σ H s → (∀ b ∈ it :: pv, FpOk X pins H b) → st.bare = true →
      GEff G pv (s.setGen g .running) H F s₁ H' F' → Inv X pins σ H' (s₁.setGen g st) := by
    intro X x1 x2 x7 pins s σ F H F' H' pv g s₁ st I hf hb ef
    have un := ef.un
    have ok := ef.hok
    rw [gO, ← x7] at un
    rw [gP, gw, ← x1, ← x2] at ok
    refine I.call' (s' := s₁.setGen g st) (ch := pv) ef.os un ok (allBare_setGen ef.bare hb) fun b hb' => ?_
    obtain ⟨_, f1, f2, f3, f4, f5⟩ := hf b (List.mem_cons_of_mem _ hb')
    exact ⟨f3, f1, f4, f5⟩
  refine ⟨fun i F fp s h => ?_, fun i F F' fp s s' h f k e => gtn_move h f k fun g gs q _ => by rw [e]; exact q, fun i F F' fp s s' h f k e => gtn_move h f k fun g gs q z => e g gs q (z.elim id fun z => by cases z), ?_, ?_, fun A' i F fp s Q E h q => ?_⟩
  · obtain ⟨g, gs, pv, sl, Fl, h1, h2, h3, h4, h5, h6, h7, h8, h9, h10⟩ := h
    subst h7
    refine ⟨List.mem_cons_self, fun b hb => ?_⟩
    rcases List.mem_cons.mp hb with z | z
    · obtain ⟨o, nm, qn, e, _, e2, _⟩ := h1
      exact ⟨o, by rw [z]; exact e, fun v q => by rw [e2] at q; cases q⟩
    · exact (h10 b z).2
  · intro X x1 x2 x3 x4 x5 x6 x7 x8 i d pins s σ F H fp I hf h f hd'
    refine wake X x1 x2 x3 x4 x5 x6 x7 x8 i pins s σ F H fp _ I hf h f fun g pv e s₁ hg hfp hni hz po => .inl ?_
    have hlt := (List.getElem?_eq_some_iff.mp hd').1
    rw [List.drop_eq_getElem_cons hlt] at po
    have ed : ds[i] = d := (List.getElem?_eq_some_iff.mp hd').2
    rw [ed] at po
    obtain ⟨v, x, H', F', pv', sv, ef, rv, hx, pvo, nxt⟩ := po
    subst hfp
    have I' := after X x1 x2 x7 pins s σ F H F' H' pv g s₁ e.genState I hf sv.asl.2.2 ef
    have hit := hf it List.mem_cons_self
    have hitk : ∀ o, s.heap.get? it = some o → s₁.heap.get? it = some o := fun o e => ef.un.keep it o e hit.1 (by
      rw [gO, ← x7]
      intro z
      obtain ⟨_, o', e', nd⟩ := I.stack.mem z
      obtain ⟨o2, nm, qn, e2, _, d2, _⟩ := hg
      rw [e2] at e'
      cases e'
      exact nd _ d2) hni
    have hg1 : s₁.heap.IsGen it g := isgen_at hg hitk
    refine ⟨v, sv, v, rfl, ?_⟩
    obtain ⟨o, nm, qn, ho, hc, hdt, hs⟩ := id hg1
    refine go_of (s := s₁.setGen g e.genState) ho hc hdt (by decide) ⟨x, H', F', it :: pv', I', rv, ef.gr, hx, ?_, fun b hb => ?_⟩
    · have hitlt : it < s.heap.objs.size := by
        obtain ⟨o3, _, _, e3, _⟩ := hg
        exact Heap.lt_size e3
      refine ⟨g, e.genState, pv', s₁, F', hg1, setGen_at hz, .inl sv.asl.1, nxt, fun _ _ => rfl, Same.refl _, rfl, fun z => ?_, pvo.lp, fun b hb => ⟨(pvo.old b hb).1, pvo.there b hb⟩⟩
      rcases (pvo.old it z).2 with y | y
      · exact hni y
      · exact absurd hitlt (Nat.not_lt.mpr y)
    · rcases List.mem_cons.mp hb with z | z
      · rw [z]
        refine ⟨?_, hit.2⟩
        obtain ⟨o3, _, _, e3, _⟩ := hg
        exact ef.un.free it o3 e3 hit.1 hni
      · rcases (pvo.old b z).2 with y | y
        · exact ⟨pvo.none b z, (hf b (List.mem_cons_of_mem _ y)).2⟩
        · exact I.fpOk y (pvo.none b z)
  · intro X x1 x2 x3 x4 x5 x6 x7 x8 pins s σ F H fp I hf h f
    refine wake X x1 x2 x3 x4 x5 x6 x7 x8 ds.length pins s σ F H fp _ I hf h f fun g pv e s₁ hg hfp hni hz po => .inr ?_
    rw [List.drop_length] at po
    obtain ⟨e1, H', F', ef⟩ := po
    subst hfp
    refine ⟨e1, fun h' hk => ⟨rfl, F', H', ?_, ef.gr⟩⟩
    have I' := after X x1 x2 x7 pins s σ F H F' H' pv g s₁ .finished I hf rfl ef
    exact I'.kept (t' := (s₁.setGen g .finished).toks) hk
  · obtain ⟨g, gs, pv, sl, Fl, h1, _⟩ := h
    exact wpAny_pyIter_gen h1 q
end PL

namespace PL
open PySem PySem.Spec PyProof.Rows L2 GenW

/-! ### walks that live, as sources of loops -/
def LvE (X : Cx) (pins : List (Addr × Obj)) (σ ts : L2.St) (tg : Expr) (E : Ent) (F : Hp) (Q : List PyData → PEnv → Prop) (itv : Value) (s2 : Shared) : Prop :=
  ∃ it tn ds F' H' env' As' fp, itv = .ref it ∧ Inv X pins σ H' s2 ∧ SR X.K E F' H' (σ ++ ts) env' As' ∧ Same F F' ∧ Q ds env' ∧ LT X.prog X.w X.K X.mg X.base X.A X.stack tg ds it tn ∧ tn 0 F' fp s2 ∧ ∀ b ∈ fp, FpOk X pins H' b
structure PLv (X : Cx) (tg iter : Expr) (E : Ent) (p : PIt) : Prop where
  run : ∀ (pins : List (Addr × Obj)) (s : Shared) (σ ts : L2.St) (F H : Hp) (env : PEnv) (As : Nat → List Addr) (Q : List PyData → PEnv → Prop), Inv X pins σ H s → SR X.K E F H (σ ++ ts) env As → FixIn E σ → p env Q →
    wpAny (model X.prog X.w) X.A (eval iter X.env) (fun v s1 => wpAny (model X.prog X.w) X.A (pyIter v) (LvE X pins σ ts tg E F Q) X.xe s1) X.xe s
/-- a generator def's call: what it will hand out -/
def pGen (n : Nat) (sp : SpY) (pa : PAs) (env : PEnv) (Q : List PyData → PEnv → Prop) : Prop := pa env fun gs env1 => match agD? gs with
  | some ds => ds.length = n ∧ ∃ ys, sp (ds.map .v) ys ∧ Q ys env1
  | none => False
def itGen (n : Nat) (sp : SpY) (pa : PAs) : PIt := fun env Q => pGen n sp pa env Q
section
variable {X : Cx} {E : Ent} {tg e : Expr} {es : List Expr} {pa : PAs} {pos p : Pos} {x : Str} {f : Addr} {fd : FuncData} {ps : List Str} {n k : Nat} {sp : SpY}
theorem sta_all {F : Hp} : ∀ {vs : List V} {ds : List PyData}, FpAll F vs ds → Paired (StA F) vs (ds.map .v)
  | _, _, .nil => .nil
  | _, _, .cons h r => .cons ⟨_, rfl, h⟩ (sta_all r)
/-- the call alone -/
theorem gcall_run (G : GGn X.prog X.w X.K X.mg X.base (k + 1) f fd ps sp) (hr : Room (k + 2) X.A) (hgl : Gl X x) (hm : X.mg x = some (.ref f)) (hk : PySem.W.keepIn X.K (.ref f) = true) (hb : Binds X.K fd ps []) (hn : ps.length = n)
    (ha : PA X (e :: es) (liftA X.K E pa)) (hdb : (x == ("__debug__" : Str)) = false := by decide) (he : starEach (e :: es) X.env = (false, eval e X.env) :: starEach es X.env := by rfl) (hpl : (backTo pos (starEach es X.env)).any (·.1) = false := by rfl)
    {pins : List (Addr × Obj)} {s : Shared} {σ ts : L2.St} {F H : Hp} {env : PEnv} {As : Nat → List Addr} {Q : List PyData → PEnv → Prop} (I : Inv X pins σ H s) (S : SR X.K E F H (σ ++ ts) env As) (fx : FixIn E σ) (q : pGen n sp pa env Q) :
    wpAny (model X.prog X.w) X.A (eval (.Call (.Name x p) (e :: es) [] pos) X.env) (fun u s2 => ∃ ds F' H' env' As' s1, Inv X pins σ H' s1 ∧ SR X.K E F' H' (σ ++ ts) env' As' ∧ Same F F' ∧ Q ds env' ∧ GNew X.prog X.w X.K X.mg X.base (k + 1) s1 F' ds u s2) X.xe s := by
  refine wpAny_Call_Name_kw (ld_glob I hgl hm ?_ hdb)
  refine PySem.W.callWith_K (h₀ := X.base) I.ok.mod.kin hk (thn (ha.run pos pins s σ H (fun vs H1 => ∃ ds ys F' env' As', SR X.K E F' H1 (σ ++ ts) env' As' ∧ Same F F' ∧ FpAll F' vs ds ∧ ds.length = n ∧ sp (ds.map .v) ys ∧ Q ys env') I ⟨ts, F, env, As, _, S, fx, q, ?_⟩) fun us s1 ⟨vs, H1, I1, r, ds, ys, F', env', As', S1, f1, hf, hl, hsp, q1⟩ => ⟨I1.kIn, ?_⟩) he hpl
  · intro vs gs F' H' env' As' S' f' h q'
    split at q'
    · rename_i ds ed
      obtain ⟨hl, ys, hsp, q2⟩ := q'
      exact ⟨ds, ys, F', env', As', S', f', AgOk.ds h ed, hl, hsp, q2⟩
    · exact q'.elim
  · have hlu : us.length = ps.length := by rw [← r.length, hf.length, hl, hn]
    have z := hb s1 us I1.kIn (by rw [List.append_nil]; exact hlu)
    rw [List.append_nil] at z
    refine wpAny_call (codeAny_mono (G.run X.A X.stack s1 H1 F' ⟨us, []⟩ us vs (ds.map .v) ys (hr.mono (Nat.le_succ _)) I1.env0 z r S1.sub (sta_all hf) (by rw [List.length_map, hl, hn]) hsp) fun rr s2 hq => ?_)
    cases rr with
    | error e => exact False.elim hq
    | ok fl =>
      cases fl with
      | ret u => exact ⟨ys, F', H1, env', As', s1, I1, S1, f1, q1, hq⟩
      | next => exact False.elim hq
      | brk => exact False.elim hq
      | cont => exact False.elim hq
theorem room_in1 {A : Around} (hr : Room (k + 1) A) : Room k A.in1 := ⟨hr.hd, by have := hr.dp; show A.depth + 3 * k + 5 < _; omega, by have := hr.un; show A.units + 1 + 16 * k + 200 < _; omega⟩
/-- a new generator is a walk at its beginning; A1: where it will be woken -/
theorem gnew_live {pins : List (Addr × Obj)} {σ : L2.St} {F H : Hp} {s1 s2 : Shared} {u : Value} {ds : List PyData} {A1 : Around} (I : Inv X pins σ H s1) (h : GNew X.prog X.w X.K X.mg X.base k s1 F ds u s2) (hr : Room k A1.in1) (hg : A1.guards = some []) (hf : A1.frames = some X.stack) :
    ∃ (a : Addr) (pv : List Addr) (G : GC), u = .ref a ∧ Inv X pins σ H s2 ∧ G.n ∈ pv ∧ (∀ tg, LT X.prog X.w X.K X.mg X.base A1 X.stack tg ds a (gtn G ds a)) ∧ gtn G ds a 0 F (a :: pv) s2 ∧ (∀ b ∈ a :: pv, FpOk X pins H b ∧ s1.heap.objs.size ≤ b) ∧ ∃ g, s2.heap.IsGen a g := by
  obtain ⟨a, g, c, n, e1, h1, h2, h3, h4, h5, h6, h7, h8, h9, h10, h11⟩ := h
  have hst : ∀ b ∈ frs X.stack, b < n := fun b hb => by
    obtain ⟨_, o, e, _⟩ := I.stack.mem hb
    exact Nat.lt_of_lt_of_le (Heap.lt_size e) h1
  obtain ⟨N, qual, scope, f, cd, ok, at_⟩ := h11 A1.in1 X.stack hr hg hf hst
  have I2 : Inv X pins σ H s2 := I.call' (ch := []) h7 (Un.kept h10) (I.hok.kept h10) h8 fun b z => absurd z (by simp)
  refine ⟨a, [n], ⟨X.prog, X.w, X.K, X.mg, X.base, N, qual, scope, f, cd, A1.in1, X.stack, n⟩, e1, I2, by simp, fun tg => lt_gen (by have := hr.dp; show A1.depth < _; have : A1.in1.depth = A1.depth := rfl; omega), ⟨g, .fresh c, [n], s2, F, h5, h6, .inr rfl, ?_, fun _ _ => rfl, Same.refl _, rfl, ?_, by simp, fun b hb => ?_⟩, fun b hb => ?_, g, h5⟩
  · rw [List.drop_zero]; exact at_
  · intro z
    rw [List.mem_singleton] at z
    exact absurd h2 (by rw [z]; exact Nat.lt_irrefl _)
  · rw [List.mem_singleton] at hb
    rw [hb]
    exact ⟨Nat.le_refl _, h4⟩
  · have hle : s1.heap.objs.size ≤ b := by
      rcases List.mem_cons.mp hb with z | z
      · rw [z]; exact Nat.le_trans h1 (Nat.le_of_lt h2)
      · rw [List.mem_singleton] at z; rw [z]; exact h1
    exact ⟨I.fpOk hle (I.hok.fresh hle), hle⟩
theorem l_gcall (G : GGn X.prog X.w X.K X.mg X.base (k + 1) f fd ps sp) (hr : Room (k + 2) X.A) (hg : X.A.guards = some []) (hgl : Gl X x) (hm : X.mg x = some (.ref f)) (hk : PySem.W.keepIn X.K (.ref f) = true) (hb : Binds X.K fd ps []) (hn : ps.length = n)
    (ha : PA X (e :: es) (liftA X.K E pa)) (hdb : (x == ("__debug__" : Str)) = false := by decide) (he : starEach (e :: es) X.env = (false, eval e X.env) :: starEach es X.env := by rfl) (hpl : (backTo pos (starEach es X.env)).any (·.1) = false := by rfl) :
    PLv X tg (.Call (.Name x p) (e :: es) [] pos) E (itGen n sp pa) := by
  refine ⟨fun pins s σ ts F H env As Q I S fx q => ?_⟩
  refine thn (gcall_run G hr hgl hm hk hb hn ha hdb he hpl I S fx q) fun u s2 ⟨ds, F', H', env', As', s1, I1, S1, f1, q1, gn⟩ => ?_
  obtain ⟨a, pv, GG, rfl, I2, _, lt, at0, fpo, g, ig⟩ := gnew_live (A1 := X.A) I1 gn (room_in1 hr) hg I1.ok.frames
  exact wpAny_pyIter_gen ig ⟨a, _, ds, F', H', env', As', a :: pv, rfl, I2, S1, f1, q1, lt tg, at0, fun b hb => (fpo b hb).1⟩
end
section
variable {X : Cx} {E : Ent} {tg iter : Expr} {body : List Stmt} {pi : PIt} {pb : PSt} {t : Tg} {pos : Pos}
theorem ls_forG (nx : NoX X) (hc : X.calm = true) (hi : PLv X tg iter E pi) (hg : PG X tg (tgT X.K t)) (ht : ∀ i ∈ t.is, i < X.N.length ∧ E.fix i = none) (hb : PSs X body (liftS X.K E pb))
    (hs : ∀ x, foldedSetIterable iter X.env x = pure x := by intro _; rfl) : PS X (.For tg iter body [] pos) (liftS X.K E (pFor pi t pb)) := by
  refine ⟨fun pins s σ0 H D I ⟨Fz, env0, As0, D', S0, fx, p, k⟩ => ?_⟩
  refine wpAny_For (thn (hi.run pins s σ0 [] Fz H env0 As0 _ I (app_nil_SR S0) fx p) fun v s1 h1 => thn h1 fun itv s2 h2 => ?_) hs
  obtain ⟨it, tn, ds, F1, H1, env1, As1, fp, e1, I1, S1, f1, q1, T, t1, fp1⟩ := h2
  subst e1
  have nN : σ0.length = X.N.length := I.len
  refine codeAny_forLoop_any (fun n s' => ∃ i σ F H env As fp, n = ds.length - i ∧ i ≤ ds.length ∧ Inv X pins σ H s' ∧ σ.length = σ0.length ∧ SR X.K E F H σ env As ∧ Same F1 F ∧ tn i F fp s' ∧ (∀ b ∈ fp, FpOk X pins H b) ∧ forL t pb D' (ds.drop i) env) ?_ ds.length
    ⟨0, σ0, F1, H1, env1, As1, fp, by omega, Nat.zero_le _, I1, rfl, nil_app_SR S1, Same.refl _, t1, fp1, q1⟩
  rintro n s3 ⟨i, σ, F, H3, env, As, fp, rfl, hi, I3, hl, S, f, t3, fp3, q⟩
  by_cases hlt : i < ds.length
  · have e : ds[i]? = some ds[i] := List.getElem?_eq_getElem hlt
    refine thnF (T.item X rfl rfl rfl rfl rfl rfl rfl hc i _ pins s3 σ F H3 fp I3 fp3 t3 S.sub e) fun r s4 ⟨u, hr, h4⟩ => ?_
    subst hr
    refine thnF h4 fun _ s5 ⟨x, H5, F5, fp5, I5, r5, g5, h5, t5, fpo5⟩ => ?_
    have I5' := I5.pinned fpo5 (T.obj _ _ _ _ t5).2
    rw [List.drop_eq_getElem_cons hlt] at q
    have S2 := S.gr g5
    have q' : tgP t ds[i] env fun env1 => pb { D' with nx := forL t pb D' (ds.drop (i + 1)), ct := forL t pb D' (ds.drop (i + 1)), bk := D'.nx } env1 := by
      rw [forL_c] at q
      exact q
    unfold tgP at q'
    split at q'
    · rename_i bs eb
      obtain ⟨ws, b1, b2, b3⟩ := tg_lift (K := X.K) S2.sub t h5 eb
      obtain ⟨As3, S3, _⟩ := SR.setDs S2 b1 fun p hp => by
        have z := ht p.1 (by rw [← b2]; exact List.mem_map.mpr ⟨p, hp, rfl⟩)
        rw [← S2.len, hl, nN]
        exact z
      have l3 : (setVs σ ws).length = σ0.length := (setVs_length ws σ).trans hl
      refine wpAny_mono (wpAny_rv (hg.run _ (killS s5) σ H5 x u (fun σ' H' => σ' = setVs σ ws ∧ H' = H5) (inv_kill I5') r5 (b3 σ _ ⟨rfl, rfl⟩))) (fun _ s6 ⟨y6, rv6, σ6, H6, I6, e6, e7⟩ => ?_) fun e y ⟨x, _, z⟩ => absurd z (nx e x)
      subst e6 e7
      let N : L2.St → Hp → Prop := fun σ' H' => σ'.length = σ0.length ∧ ∃ F env As, SR X.K E F H' σ' env As ∧ Same F5 F ∧ forL t pb D' (ds.drop (i + 1)) env
      have nxt : ∀ σ' F' H' env' As', σ'.length = (setVs σ ws).length → SR X.K E F' H' σ' env' As' → Same F5 F' → forL t pb D' (ds.drop (i + 1)) env' → N σ' H' :=
        fun σ' F' H' env' As' hl' S' f' q' => ⟨hl'.trans l3, F', env', As', S', f', q'⟩
      refine wpAny_mono (pss_kg nx hb (D := { D with nx := N, ct := N, bk := D.nx }) (inv_rv I6 rv6) ⟨F5, _, As3, _, S3, fx.to l3, q', nxt, ?_, nxt, ?_⟩ (E := F0)) (fun fl s7 ⟨q7, kg⟩ => ?_) fun _ _ z => z.elim
      · exact fun σ' F' H' env' As' hl' S' f' q' => k.nx σ' F' H' env' As' (hl'.trans l3) S' (((f1.trans f).trans g5.ff).trans f') q'
      · exact fun σ' F' H' env' As' hl' S' f' => k.rt σ' F' H' env' As' (hl'.trans l3) S' (((f1.trans f).trans g5.ff).trans f')
      · have again : ∀ {σ7 : L2.St} {H7 : Hp}, Inv X (pins ++ pinsAt fp5 s5.heap) σ7 H7 s7 → N σ7 H7 → ∃ m, m < ds.length - i ∧ ∃ i σ F H env As fp, m = ds.length - i ∧ i ≤ ds.length ∧ Inv X pins σ H s7 ∧ σ.length = σ0.length ∧ SR X.K E F H σ env As ∧ Same F1 F ∧ tn i F fp s7 ∧ (∀ b ∈ fp, FpOk X pins H b) ∧ forL t pb D' (ds.drop i) env := fun {σ7 H7} I7 n7 => by
          obtain ⟨l7, F7, env7, As7, S7, f7, q7⟩ := n7
          have pinK : ∀ b ∈ fp5, ∀ o, s5.heap.get? b = some o → s7.heap.get? b = some o ∧ H7 b = none := fun b hb o e => by
            have z := I7.pin (b, o) (List.mem_append_right _ (List.mem_append_right _ (mem_pinsAt hb e)))
            exact ⟨z.1, z.2.1⟩
          refine ⟨ds.length - (i + 1), by omega, i + 1, σ7, F7, H7, env7, As7, fp5, rfl, hlt, I7.unpinned, l7, S7, (f.trans g5.ff).trans f7, T.keep i _ _ _ _ _ t5 f7 (fun b hb o e => (pinK b hb o e).1) (Kg.trans rv6.kg kg), fun b hb => ?_, q7⟩
          obtain ⟨o, e, _⟩ := (T.obj _ _ _ _ t5).2 b hb
          exact ⟨(pinK b hb o e).2, (fpo5 b hb).2⟩
        cases fl with
        | next => obtain ⟨σ7, H7, I7, n7⟩ := q7; exact again I7 n7
        | cont => obtain ⟨σ7, H7, I7, n7⟩ := q7; exact again I7 n7
        | brk => obtain ⟨σ7, H7, I7, q7⟩ := q7; exact ⟨σ7, H7, I7.unpinned, q7⟩
        | ret v => obtain ⟨x7, σ7, H7, I7, r7, q7⟩ := q7; exact ⟨x7, σ7, H7, I7.unpinned, r7, q7⟩
    · exact q'.elim
  · have e : i = ds.length := by omega
    subst e
    rw [List.drop_length, forL_n] at q
    refine thnF (T.done X rfl rfl rfl rfl rfl rfl rfl hc pins s3 σ F H3 fp I3 fp3 t3 S.sub) fun r s4 ⟨hr, F4, H4, I4, g4⟩ => ?_
    subst hr
    exact wpAny_execs_nil ⟨σ, H4, I4, k.nx σ F4 H4 env As hl (S.gr g4) ((f1.trans f).trans g4.ff) q⟩
end
end PL

namespace PL
open PySem PySem.Spec PyProof.Rows L2 GenW

/-! ### comprehensions over walks that live -/
def LcT (K : PySem.W.Frag) (g : TG) (tt : TT) (te : TE) (vs : List Nat) (ds : List PyData) (σ : L2.St) (G1 H1 : Hp) (D : Addr) (Q : VK) : Prop :=
  ∃ W : Nat → Hp → Nat → Hp → Prop, (∃ m, W 0 G1 m (upd H1 D (.lst []))) ∧ ∀ i G m H, W i G m H → ∃ F, Same G F ∧ Same F H ∧
    ((i = ds.length ∧ ∀ F' H', Gr F H F' H' → Q (.ref D) H') ∨ (∃ d, ds[i]? = some d ∧ ∃ Nx : Hp → Hp → Prop, (∀ G' H', Nx G' H' → ∃ m', m' < m ∧ W (i + 1) G' m' H') ∧
      ∀ x H' F', Gr F H F' H' → Fp F' x d → g x (wipe σ vs) H' fun σ2 H2 => wipe σ2 vs = wipe σ vs ∧ tt σ2 H2 fun b H3 =>
        if b = true then te σ2 H3 fun y H4 => ∃ acc, H4 D = some (.lst acc) ∧ acc.length < sizeLine ∧ Nx F' (upd H4 D (.lst (acc ++ [y]))) else Nx F' H3))
section
variable {K : PySem.W.Frag} {E : Ent} {F H : Hp}
theorem app_okG {X : Cx} {pins : List (Addr × Obj)} {σ : L2.St} {s : Shared} {Ex : Value → Shared → Prop} {D : Addr} {xs : List V} {y : V} {v : Value} {Q : Value → Shared → Prop} (I : Inv X pins σ H s) (hD : H D = some (.lst xs)) (hz : xs.length < sizeLine) (r : RelV y v)
    (h : ∀ s', s'.gens = s.gens → Inv X pins σ (upd H D (.lst (xs ++ [y]))) s' → Q .none s') : wpAny (model X.prog X.w) X.A (call (.builtin "list.append") [.ref D, v]) Q Ex s := by
  obtain ⟨hz', its, n, ri, e⟩ := I.hok D _ hD
  have hl := ri.length
  refine append_at (hsz := by rw [List.size_toArray]; omega) e fun h' sb ho' => ?_
  refine h { s with heap := h' } rfl (I.write (t' := s.toks) (by rw [hD]; trivial) (.inl rfl) (fun b u hb q => (sb.2 b hb).trans q) ⟨_, ho'⟩ ⟨by rw [List.length_append]; exact hz, its ++ [v], n + 1, ri.append (.cons r .nil), ?_⟩)
  rw [ho']
  simp
theorem le_lcG {t : Tg} {tt : PTt} {te : PX} {vs : List Nat} {n : Nat} (ht : ∀ i ∈ t.is, i ∈ vs) (hv : ∀ i ∈ vs, i < n ∧ E.fix i = none) {σ ts : L2.St} (hn : σ.length = n) {Q : VK} {F1 H1 : Hp} {env1 : PEnv} {As1 : Nat → List Addr} {Q' : Sl → PEnv → Prop} {ds : List PyData}
    (S1 : SR K E F1 H1 (σ ++ ts) env1 As1) (fx : FixIn E σ) (hst : stillAt env1 vs = true) (q : compK t tt te vs ds [] env1 fun acc env2 => Q' (.m (.ol acc)) (backP env1 env2 vs)) (k : KO K E σ ts F1 Q Q') (D : Addr) (hD : H1 D = none) :
    LcT K (tgT K t) (anyT K E.fix tt) (anyE K E.fix te) vs ds σ F1 H1 D Q := by
  have vlt : ∀ i ∈ vs, i < σ.length := fun i hi => by rw [hn]; exact (hv i hi).1
  have ED : E.B D ∨ E.H0 D = none := (S1.free hD).symm
  have wl : (wipe σ vs ++ ts).length = (σ ++ ts).length := by rw [List.length_append, List.length_append, wipe_length]
  refine ⟨fun i G m H => m = ds.length - i ∧ i ≤ ds.length ∧ ∃ F env As acc accV, SR K E F H (wipe σ vs ++ ts) (wipeP env vs) As ∧ Same F1 F ∧ Same G F ∧ env.length = env1.length ∧ (H D = some (.lst accV) ∧ FpAll F accV acc ∧ F D = none ∧ ∀ i, D ∉ As i) ∧
    (∀ i ∈ vs, As i = []) ∧ compK t tt te vs (ds.drop i) acc env fun acc env2 => Q' (.m (.ol acc)) (backP env1 env2 vs), ⟨ds.length, by omega, Nat.zero_le _, F1, env1, As1, [], [], ?_, Same.refl F1, Same.refl F1, rfl, ⟨upd_same, .nil, S1.sub.free hD, fun i h => S1.live i D h hD⟩, still_As S1 hst, q⟩, ?_⟩
  · have z := (S1.gr (Gr.made (o := HO.lst []) S1.sub hD)).wipe (vs := vs) fun i hi => ⟨still_As S1 hst i hi, (hv i hi).2⟩
    rw [wipe_app vlt] at z
    exact z
  rintro i G m H ⟨rfl, hi, F, env, As, acc, accV, S, f, fG, el, ⟨hH, hA, hFD, hAD⟩, hAv, q⟩
  refine ⟨F, fG, S.sub, ?_⟩
  by_cases hlt : i < ds.length
  · have e : ds[i]? = some ds[i] := List.getElem?_eq_getElem hlt
    rw [List.drop_eq_getElem_cons hlt] at q
    refine .inr ⟨_, e, fun G' H' => ∃ F env As acc accV, SR K E F H' (wipe σ vs ++ ts) (wipeP env vs) As ∧ Same F1 F ∧ Same G' F ∧ env.length = env1.length ∧ (H' D = some (.lst accV) ∧ FpAll F accV acc ∧ F D = none ∧ ∀ i, D ∉ As i) ∧ (∀ i ∈ vs, As i = []) ∧
      compK t tt te vs (ds.drop (i + 1)) acc env fun acc env2 => Q' (.m (.ol acc)) (backP env1 env2 vs), fun G' H' z => ⟨ds.length - (i + 1), by omega, rfl, hlt, z⟩, fun x H' F2 g h => ?_⟩
    have S2 := S.gr g
    have q' : tgP t ds[i] (wipeP env vs) fun env1' => tt env1' fun b env2 => sel b (te env2 fun x env3 => (acc.length < sizeLine ∧ stillAt env3 vs = true) ∧ compK t tt te vs (ds.drop (i + 1)) (acc ++ [x]) env3 (fun acc env2 => Q' (.m (.ol acc)) (backP env1 env2 vs))) (stillAt env2 vs = true ∧ compK t tt te vs (ds.drop (i + 1)) acc env2 (fun acc env2 => Q' (.m (.ol acc)) (backP env1 env2 vs))) := q
    unfold tgP at q'
    split at q'
    · rename_i bs eb
      obtain ⟨ws, b1, b2, b3⟩ := tg_lift (K := K) S2.sub t h eb
      refine b3 (wipe σ vs) _ ?_
      have wsv : ∀ p ∈ ws, p.1 ∈ vs := fun p hp => by
        have : ∀ {ws : List (Nat × V)} {bs : List (Nat × PyData)}, BdOk F2 ws bs → ∀ p ∈ ws, p.1 ∈ bs.map (·.1) := by
          intro ws bs h
          induction h with
          | nil => intro p hp; cases hp
          | cons h r ih =>
            intro p hp
            rcases List.mem_cons.mp hp with z | z
            · rw [z, List.map_cons, h.1]; exact List.mem_cons_self
            · rw [List.map_cons]; exact List.mem_cons_of_mem _ (ih p z)
        have z := this b1 p hp
        rw [b2] at z
        exact ht _ z
      have sva : setVs (wipe σ vs ++ ts) ws = setVs (wipe σ vs) ws ++ ts := by
        have : ∀ (ws : List (Nat × V)) (σ : L2.St), (∀ p ∈ ws, p.1 < σ.length) → setVs (σ ++ ts) ws = setVs σ ws ++ ts := by
          intro ws
          induction ws with
          | nil => intro σ _; rfl
          | cons p r ih =>
            intro σ hp
            obtain ⟨j, w⟩ := p
            show setVs ((σ ++ ts).set j (some w)) r = setVs (σ.set j (some w)) r ++ ts
            rw [List.set_append_left _ _ (hp (j, w) List.mem_cons_self)]
            exact ih _ fun p hp' => by rw [List.length_set]; exact hp p (List.mem_cons_of_mem _ hp')
        exact this ws _ fun p hp => by rw [wipe_length]; exact vlt _ (wsv p hp)
      obtain ⟨As3, S3, sub3⟩ := SR.setDs S2 b1 fun p hp => by
        have z := hv p.1 (ht _ (by rw [← b2]; exact List.mem_map.mpr ⟨p, hp, rfl⟩))
        refine ⟨?_, z.2⟩
        rw [← S2.len, wl, List.length_append]
        omega
      rw [sva] at S3
      have ww : wipe (setVs (wipe σ vs) ws) vs = wipe σ vs := by
        rw [wipe_setVs wsv]
        have : ∀ (us : List Nat) (σ : L2.St), wipe (wipe σ us) us = wipe σ us := by
          intro us σ
          have aux : ∀ (xs : List Nat) (σ : L2.St), (∀ x ∈ xs, σ[x]? = some none ∨ σ[x]? = none) → wipe σ xs = σ := by
            intro xs
            induction xs with
            | nil => intro σ _; rfl
            | cons x xs ih =>
              intro σ h
              unfold wipe
              rw [ih σ fun y hy => h y (List.mem_cons_of_mem _ hy)]
              refine List.ext_getElem? fun j => ?_
              by_cases hj : x = j
              · subst hj
                rcases h x List.mem_cons_self with z | z
                · rw [List.getElem?_set_self (List.getElem?_eq_some_iff.mp z).1, z]
                · rw [z, List.getElem?_eq_none]
                  rw [List.length_set]
                  exact List.getElem?_eq_none_iff.mp z
              · rw [List.getElem?_set_ne hj]
          refine aux us _ fun x hx => ?_
          have : ∀ (us : List Nat), x ∈ us → (wipe σ us)[x]? = some none ∨ (wipe σ us)[x]? = none := by
            intro us
            induction us with
            | nil => intro h; cases h
            | cons u us ih =>
              intro h
              unfold wipe
              by_cases e : u = x
              · subst e
                by_cases hl : u < (wipe σ us).length
                · exact .inl (List.getElem?_set_self hl)
                · exact .inr (List.getElem?_eq_none (by rw [List.length_set]; omega))
              · rw [List.getElem?_set_ne e]
                exact ih ((List.mem_cons.mp h).elim (fun z => absurd z.symm e) id)
          exact this us hx
        exact this vs σ
      refine ⟨ww, ?_⟩
      have hH2 : H' D = some (.lst accV) := g.hh _ _ hH
      have nD : ∀ j, D ∉ As3 j := fun j z => hAD j (sub3 j D z)
      have hF2 : F2 D = none := g.off hFD (some_ne hH) (ntp_of hH fun _ z => nomatch z)
      have lσ2 : (setVs (wipe σ vs) ws).length = σ.length := (setVs_length ws _).trans (wipe_length σ vs)
      have fx2 : FixIn (reE E F2 H' As3) (setVs (wipe σ vs) ws) := fx.to lσ2
      -- behind the block: D stands, the slots are as at the turn's start
      have fin : ∀ {F4 H4 env4 As4}, SR K (reE E F2 H' As3) F4 H4 (setVs (wipe σ vs) ws ++ ts) env4 As4 → Same F2 F4 → stillAt env4 vs = true →
          SR K E F4 H4 (wipe σ vs ++ ts) (wipeP env4 vs) As4 ∧ H4 D = some (.lst accV) ∧ F4 D = none ∧ (∀ j, D ∉ As4 j) ∧ (∀ i ∈ vs, As4 i = []) ∧ env4.length = env1.length := fun {F4 H4 env4 As4} S4 f4 st => by
        obtain ⟨h1, h2⟩ := S4.held (some_ne hH2) (ntp_of hH2 fun _ z => nomatch z) nD
        have av := still_As S4 st
        have z := (S3.unre S4).wipe (vs := vs) fun i hi => ⟨av i hi, (hv i hi).2⟩
        rw [wipe_app (fun i hi => by rw [lσ2]; exact vlt i hi), ww] at z
        refine ⟨z, h1.trans hH2, h2 hF2, fun j y => ?_, av, ?_⟩
        · rcases (S4.own j D y).2 with ⟨i, w⟩ | w
          · exact nD i w
          · exact some_ne hH2 w
        · have l4 := S4.len
          have l1 := S1.len
          rw [List.length_append] at l4 l1
          omega
      refine ⟨reE E F2 H' As3, rfl, ts, F2, _, As3, _, S3.re, fx2, q', fun b F3 H3 env3 As3' S3' f3 q3 => ?_⟩
      cases b with
      | true =>
        rw [sel_tt] at q3; rw [if_pos rfl]
        refine ⟨reE E F2 H' As3, rfl, ts, F3, env3, As3', _, S3', fx2, q3, fun y x F4 H4 env4 As4 S4 f4 h4 ⟨⟨hz, st⟩, q4⟩ => ?_⟩
        obtain ⟨z1, z2, z3, z4, z5, z6⟩ := fin S4 (f3.trans f4) st
        refine ⟨accV, z2, by rw [hA.length]; exact hz, F4, env4, As4, acc ++ [x], accV ++ [y], z1.other z3 z4 ED, ((f.trans g.ff).trans f3).trans f4, f3.trans f4, z6, ⟨upd_same, (((hA.to g.ff).to f3).to f4).app (.cons h4 .nil), z3, z4⟩, z5, q4⟩
      | false =>
        rw [sel_ff] at q3; rw [if_neg Bool.false_ne_true]
        obtain ⟨st, q4⟩ := q3
        obtain ⟨z1, z2, z3, z4, z5, z6⟩ := fin S3' f3 st
        exact ⟨F3, env3, As3', acc, accV, z1, (f.trans g.ff).trans f3, f3, z6, ⟨z2, (hA.to g.ff).to f3, z3, z4⟩, z5, q4⟩
    · exact q'.elim
  · have e : i = ds.length := by omega
    subst e
    rw [List.drop_length] at q
    refine .inl ⟨rfl, fun F' H' gr => ?_⟩
    have hH' : H' D = some (.lst accV) := gr.hh _ _ hH
    have hFD' : F' D = none := gr.off hFD (some_ne hH) (ntp_of hH fun _ z => nomatch z)
    have hA' := hA.to gr.ff
    have Sg := S.gr gr
    have q' : Q' (.m (.ol acc)) (backP env1 env vs) := q
    refine k (.ref D) (.m (.ol acc)) [D] F' H' (backP env1 env vs) As ?_ (f.trans gr.ff) ⟨⟨_, rfl, .ol hH' hA'⟩, by simp, fun a ha => ?_, fun j a ha z => ?_⟩ q'
    · refine ⟨Sg.sub, Sg.f0, Sg.grow, Sg.keep, ?_, fun j s e => ?_, fun j hj => Sg.out j ?_, Sg.own, Sg.nd, Sg.disj, S1.fix⟩
      · rw [S1.len]
        rw [backP_eq]
        rw [List.length_mapIdx]
        exact el.symm
      · rw [backP_eq] at e
        rw [List.getElem?_mapIdx] at e
        obtain ⟨s0, e0, e1⟩ := Option.map_eq_some_iff.mp e
        have hj := (List.getElem?_eq_some_iff.mp e0).1
        by_cases c : j ∈ vs
        · rw [if_pos c, List.getD_eq_getElem?_getD, List.getElem?_eq_getElem (by omega)] at e1
          have e1' : env1[j]'(by omega) = s := e1
          obtain ⟨x, h1, h2⟩ := S1.slot j _ (List.getElem?_eq_getElem (by omega))
          refine ⟨x, h1, ?_⟩
          rw [hAv j c, ← e1']
          have z := List.all_eq_true.mp hst j c
          rw [List.getElem?_eq_getElem (by omega)] at z
          have z2 := still_As S1 hst j c
          rw [z2] at h2
          exact h2.to (f.trans gr.ff) fun a ha => absurd ha (by simp)
        · rw [if_neg c] at e1
          subst e1
          obtain ⟨x, h1, h2⟩ := Sg.slot j s0 (by rw [wipeP_out c]; exact e0)
          refine ⟨x, ?_, h2⟩
          rw [← wipe_app vlt] at h1
          rw [wipe_out c] at h1
          exact h1
      · rw [backP_eq] at hj
        rw [List.length_mapIdx] at hj
        rw [wipeP_length]
        exact hj
    · rw [List.mem_singleton.mp ha]
      exact ⟨hFD', ED⟩
    · rw [List.mem_singleton.mp ha] at z
      exact hAD j z
end
section
variable {X : Cx} {E : Ent} {elt tg iter : Expr} {ifs : List Expr} {scope : Scope} {own : List (Str × Nat)} {pos spos py : Pos} {pi : PIt} {t : Tg} {tt : PTt} {te : PX} {i : Nat} {y : Str}
theorem l_lcG (hc : X.calm = true) (hN : X.N.Nodup) (hi : PLv X tg iter E pi) (ok0 : blkC X.N X.env.scope scope own = true) (ht : ∀ i ∈ t.is, i ∈ own.map (·.2)) (hv : ∀ i ∈ own.map (·.2), i < X.N.length ∧ E.fix i = none)
    (hg : ∀ (s : Shared) (H : Hp) (C : Addr) (cl : List (Str × Addr)) (fp : List Addr), PG (X.blk s H scope (compEnvC scope cl C X.env) fp) tg (tgT X.K t)) (hts : ∀ (s : Shared) (H : Hp) (C : Addr) (cl : List (Str × Addr)) (fp : List Addr), PTs (X.blk s H scope (compEnvC scope cl C X.env) fp) ifs (anyT X.K E.fix tt))
    (he : ∀ (s : Shared) (H : Hp) (C : Addr) (cl : List (Str × Addr)) (fp : List Addr), PE (X.blk s H scope (compEnvC scope cl C X.env) fp) elt (anyE X.K E.fix te)) (hs : ∀ x, foldedSetIterable iter X.env x = pure x := by intro _; rfl) :
    PE X (.ListComp elt [⟨tg, iter, ifs, 0⟩] scope pos) (liftO X.K E (pLc pi t tt te (own.map (·.2)))) := by
  have ok := blkOk_by ok0
  refine ⟨fun pins s σ H Q I ⟨ts, Fz, env0, As0, Q', S0, fx, p, k⟩ => ?_⟩
  rw [eval_ListComp]
  have hfree : ∀ y ∈ scope.names, y.2 = .free → ∃ c, X.env.cells.lookup y.1 = some c := fun y hy e => by
    rcases ok.free y hy e with z | z
    · exact I.ok.has _ (.inl z)
    · exact I.ok.has _ (.inr z)
  refine wpAny_comprehension_free (use := none) rfl hs (closure_ok hfree) ok.kind (fun y hy e => by rw [ok.uniq y hy, e])
    (thn (hi.run pins s σ ts Fz H env0 As0 _ I S0 fx p) fun xv s1 hx => thn hx fun itv s2 h2 => ?_)
  obtain ⟨it, tn, ds, G2, H2, env1, As1, fp, e, I2, S1, f1, ⟨hst, q1⟩, T, t2, f2⟩ := h2
  subst e
  refine wpAny_newObj_type (newEnv_comp ?_) (by show 0 ≤ sizeLine; decide)
  generalize hD : s2.heap.objs.size = D
  have hDn : H2 D = none := I2.hok.fresh (Nat.le_of_eq hD)
  obtain ⟨W, ⟨m0, w0⟩, turn⟩ := le_lcG (n := X.N.length) ht hv I.len S1 fx hst q1 (Q := Q) (fun v r ar F' H' env' As' S' f' R q => k v r ar F' H' env' As' S' (f1.trans f') R q) D hDn
  generalize hs3 : ({ s2 with heap := s2.heap.push { cls := .type "list", data := .seq ([] : List Value).toArray } } : Shared) = s3
  have I3 : Inv X pins σ (upd H2 D (.lst [])) s3 := by
    rw [← hs3]
    refine I2.laid (t' := s2.toks) (fun b o e => Heap.get?_push_of_some _ e) (Nat.le_of_eq hD) ⟨Nat.zero_le _, [], 0, .nil, ?_⟩
    rw [← hD]
    exact Heap.get?_push_size _ rfl
  have h3 : s3.heap = s2.heap.push { cls := .type "list", data := .seq ([] : List Value).toArray } := by rw [← hs3]
  have g3 : s3.gens = s2.gens := by rw [← hs3]
  have szb : ∀ b ∈ fp, b < s2.heap.objs.size := fun b hb => by
    obtain ⟨o, e, _⟩ := (T.obj _ _ _ _ t2).2 b hb
    exact Heap.lt_size e
  have f3 : ∀ b ∈ fp, FpOk X pins (upd H2 D (.lst [])) b ∧ b < s3.heap.objs.size := fun b hb => by
    have hlt := szb b hb
    refine ⟨⟨?_, (f2 b hb).2⟩, by rw [h3, Heap.size_push]; exact Nat.lt_succ_of_lt hlt⟩
    rw [upd_ne (by rw [← hD]; exact Nat.ne_of_lt hlt)]
    exact (f2 b hb).1
  have t3 : tn 0 G2 fp s3 := T.keep0 _ _ _ _ _ _ t2 (Same.refl _) (fun b _ o e => by rw [h3]; exact Heap.get?_push_of_some _ e) g3
  have I4 := block_start I3 ok hN f3
  have pg := hg s3 (upd H2 D (.lst [])) s3.heap.objs.size (cellsFrom (s3.heap.objs.size + 1) scope.names (cloFrom X.env.cells scope.names [])) fp
  have pt := hts s3 (upd H2 D (.lst [])) s3.heap.objs.size (cellsFrom (s3.heap.objs.size + 1) scope.names (cloFrom X.env.cells scope.names [])) fp
  have pe := he s3 (upd H2 D (.lst [])) s3.heap.objs.size (cellsFrom (s3.heap.objs.size + 1) scope.names (cloFrom X.env.cells scope.names [])) fp
  show codeAny _ _ (.compStart (.ListComp elt [⟨tg, iter, ifs, 0⟩] scope pos) 0 (.ref it) (.ref D) (compEnvC scope (cellsFrom (s3.heap.objs.size + 1) scope.names (cloFrom X.env.cells scope.names [])) s3.heap.objs.size X.env)) (compPost (model X.prog X.w) X.A X.xe none _ (.ref D) s3.heap.objs.size) { s3 with heap := pushCells (s3.heap.push { cls := .type "dict", data := .dict #[] }) scope.names }
  generalize hce : compEnvC scope (cellsFrom (s3.heap.objs.size + 1) scope.names (cloFrom X.env.cells scope.names [])) s3.heap.objs.size X.env = ce at I4 pg pt pe ⊢
  have cL : ce.locals = s3.heap.objs.size := by subst hce; rfl
  generalize hH3 : upd H2 D (.lst []) = H3 at I3 I4 pg pt pe w0 f3
  generalize hs4 : ({ s3 with heap := pushCells (s3.heap.push { cls := .type "dict", data := .dict #[] }) scope.names } : Shared) = s4 at I4 ⊢
  have t4 : tn 0 G2 fp s4 := T.keep0 _ _ _ _ _ _ t3 (Same.refl _) (fun b _ o e => by rw [← hs4]; exact pushCells_keeps _ _ _ _ (Heap.get?_push_of_some _ e)) (by rw [← hs4])
  have nxB : NoX (X.blk s3 H3 scope ce fp) := fun _ _ z => z
  have f4 : ∀ b ∈ fp, FpOk (X.blk s3 H3 scope ce fp) [] H3 b := fun b hb => ⟨(f3 b hb).1.1, (I4.ok.exf b hb).1, I4.ok.exfs b hb, .inl hb, fun x c e => (I4.ok.exf b hb).2 x c e, fun p hp => absurd (show p ∈ ([] : List (Addr × Obj)) ++ [] from hp) (by simp)⟩
  have loop : codeAny (model X.prog X.w) X.A (.compLoop (.ListComp elt [⟨tg, iter, ifs, 0⟩] scope pos) 0 (.ref it) (.ref D) ce) (compPost (model X.prog X.w) X.A X.xe none (EP X pins σ Q) (.ref D) s3.heap.objs.size) s4 := by
    refine compLoop_any (fun n s' => ∃ i G H' fp', Inv (X.blk s3 H3 scope ce fp) [] (wipe σ (own.map (·.2))) H' s' ∧ tn i G fp' s' ∧ (∀ b ∈ fp', FpOk (X.blk s3 H3 scope ce fp) [] H' b) ∧ W i G n H') ?_ m0 ⟨0, G2, H3, fp, I4, t4, f4, w0⟩
    rintro n s5 ⟨i, G, H5, fp5, I5, t5, n5, w5⟩
    obtain ⟨F, fG, fH, tu⟩ := turn i G n H5 w5
    have t5' := T.keep0 _ _ _ _ _ _ t5 fG (fun _ _ _ e => e) rfl
    rcases tu with ⟨ei, qq⟩ | ⟨d, hd, Nx, hNx, step⟩
    · subst ei
      refine thnF (T.done (X.blk s3 H3 scope ce fp) rfl rfl rfl rfl rfl rfl rfl hc [] s5 _ F H5 fp5 I5 n5 t5' fH) fun r s6 ⟨hr, F6, H6, I6, g6⟩ => ?_
      subst hr
      have I7 : Inv X pins σ H6 s6 := I3.call' (ch := fp) I6.os I6.base I6.hok I6.bare fun b hb => ⟨(f3 b hb).1.2.2.2.1, (f3 b hb).1.2.1, (f3 b hb).1.2.2.2.2.1, (f3 b hb).1.2.2.2.2.2⟩
      have nC : H6 s3.heap.objs.size = none := by
        have z : H6 ce.locals = none := I6.free
        rw [cL] at z
        exact z
      obtain ⟨m, hn, _⟩ := I6.loc
      have hn : s6.heap.Ns ce.locals m := hn
      rw [cL] at hn
      refine ⟨m, hn, fun h'' sb => ?_⟩
      obtain ⟨z0, z1, z2, z3, z4, z5⟩ := I3.fpOk (Nat.le_refl _) nC
      exact ⟨.ref D, H6, I7.turned (t' := s6.toks) (fun b o hb e => (sb.2 b hb).trans e) z0 z1 z3 z4 z5, rfl, qq F6 H6 g6⟩
    · refine thnF (T.item (X.blk s3 H3 scope ce fp) rfl rfl rfl rfl rfl rfl rfl hc i d [] s5 _ F H5 fp5 I5 n5 t5' fH hd) fun r s6 ⟨u, hr, h6⟩ => ?_
      subst hr
      refine thnF h6 fun _ s7 ⟨x, H7, F7, fp7, I7, r7, g7, h7, t7, n7⟩ => ?_
      have I7' := I7.pinned n7 (T.obj _ _ _ _ t7).2
      refine wpAny_mono (wpAny_rv (pg.run _ (killS s7) _ H7 x u _ (inv_kill I7') r7 (step x H7 F7 g7 h7))) (fun _ s8 ⟨y8, rv8, σ8, H8, I8, hw8, q8⟩ => ?_) fun e y ⟨x, _, z⟩ => z.elim
      have I8' := inv_rv I8 rv8
      refine wpAny_mono (wpAny_rv (pt.run _ (killS s8) σ8 H8 _ (inv_kill I8') q8)) (fun b s9 ⟨y9, rv9, H9, I9, q9⟩ => ?_) fun e y ⟨x, _, z⟩ => z.elim
      have I9' := inv_rv I9 rv9
      have kg9 : Kg s7 s9 := Kg.trans rv8.kg rv9.kg
      have fin : ∀ {s' : Shared} {H' : Hp}, Inv (X.blk s3 H3 scope ce fp) ([] ++ pinsAt fp7 s7.heap) σ8 H' s' → Kg s7 s' → Nx F7 H' → ∃ m, m < n ∧ ∃ i G H' fp', Inv (X.blk s3 H3 scope ce fp) [] (wipe σ (own.map (·.2))) H' s' ∧ tn i G fp' s' ∧ (∀ b ∈ fp', FpOk (X.blk s3 H3 scope ce fp) [] H' b) ∧ W i G m H' := fun {s' H'} I' kg nx => by
        obtain ⟨m', hm, w'⟩ := hNx F7 H' nx
        have pin' : ∀ b ∈ fp7, ∀ o, s7.heap.get? b = some o → s'.heap.get? b = some o ∧ H' b = none := fun b hb o e =>
          let z := I'.pin (b, o) (List.mem_append_right _ (List.mem_append_right _ (mem_pinsAt hb e)))
          ⟨z.1, z.2.1⟩
        have hl : (wipe σ (own.map (·.2))).length = σ8.length := by rw [← hw8, wipe_length]
        refine ⟨m', hm, i + 1, F7, H', fp7, (I'.unpinned (pins := [])).weak hl (fun j v e => ?_), T.keep i _ _ _ _ _ t7 (Same.refl _) (fun b hb o e => (pin' b hb o e).1) kg, fun b hb => ?_, w'⟩
        · rw [← hw8] at e
          exact (wipe_some e).1
        · obtain ⟨o, e, _⟩ := (T.obj _ _ _ _ t7).2 b hb
          exact ⟨(pin' b hb o e).2, (n7 b hb).2⟩
      cases b with
      | false =>
        simp only [Bool.false_eq_true, if_false] at q9 ⊢
        exact fin I9' kg9 q9
      | true =>
        simp only [if_true] at q9 ⊢
        refine wpAny_mono (wpAny_rv (pe.run _ (killS s9) σ8 H9 _ (inv_kill I9') q9)) (fun z s10 ⟨y10, rv10, yv, H10, I10, r10, acc, hD10, hz10, nx⟩ => ?_) fun e y ⟨x, _, z⟩ => z.elim
        refine app_okG (X := X.blk s3 H3 scope ce fp) (inv_rv I10 rv10) hD10 hz10 r10 fun s11 e11 I11 => fin I11 (Kg.trans kg9 (Kg.trans rv10.kg (Kg.eq e11))) nx
  exact codeAny_compStart_list loop (T.self X.A 0 _ _ _ _ _ t4 loop)
end
end PL

namespace PL
open PySem PySem.Spec PyProof.Rows L2 GenW

/-! ### one step of a living walk, asked by a builtin -/
def IsStop (h : Heap) (e : Value) : Prop := ∃ (x : Addr) (o : Obj), e = .ref x ∧ h.get? x = some o ∧ o.cls = .type "StopIteration"
section
variable {P : Program} {w : World} {A : Around} {s : Shared}
theorem nextOf_genX {a : Addr} {g : Nat} {gs : GenState} {Po : End → Shared → Prop} {Q : Value → Shared → Prop} {E : Value → Shared → Prop} (hh : A.handled = none) (hl : s.heap.NoLimit) (hroom : A.depth < recursionLimit) (hg : s.heap.IsGen a g) (hgs : s.gens[g]? = some gs)
    (hgo : GoX (model P w) A.in1 Po gs (.send .none) (s.setGen g .running))
    (hP : ∀ e s₁, s.gens.size ≤ s₁.gens.size → Po e s₁ → (∃ v, SuspV e v ∧ Q v (s₁.setGen g e.genState)) ∨
      (e = .ret (.ok (.ret .none)) ∧ ∀ h' x, (∀ b o, s₁.heap.get? b = some o → h'.get? b = some o) → IsStop h' x → E x { s₁.setGen g .finished with heap := h' })) :
    wpAny (model P w) A (Builtin.SmallTypes.nextOf (.ref a)) Q E s := by
  unfold Builtin.SmallTypes.nextOf
  refine wpAny_bind (wpAny_callSpecial?_slot (name := Str.ofString "__next__") hg.typeIs slot_gen_next
    (wpAny_call_entry slot_gen_next hg.typeIs entry_gen_next ?_ (args_gen_next _)))
  show wpAny _ A.in1 (Builtin.Generator.genWake (.ref a) (.send .none)) _ _ s
  unfold Builtin.Generator.genWake
  refine wpAny_bind (wpAny_holding (wpAny_genNumber hg (wpAny_bind (wpAny_genState hgs ?_))))
  cases gs with
  | running => exact hgo.elim
  | finished => exact hgo.elim
  | _ =>
    refine wpAny_bind (wpAny_roomToWake hl hroom ?_)
    show wpAny _ A.in1 (.resume g (.send .none) [] _) _ _ s
    refine wpAny_resumeX hgs hgo fun e s₁ hz he => ?_
    rcases hP e s₁ hz he with ⟨v, sv, hq⟩ | ⟨rfl, hq⟩
    · obtain ⟨g', l, k, c, p, fs, ee, q⟩ := id sv
      refine ⟨by rw [ee] at q ⊢; exact q, ?_⟩
      rw [sv.asl.2.1]
      exact wpAny_pure ⟨v, rfl, wpAny_pure hq⟩
    · refine ⟨rfl, ?_⟩
      show wpAny _ A.in1 (newExc (.type "StopIteration") [] >>= _) _ _ _
      refine wpAny_bind ?_
      simp only [newExc, newTuple]
      refine wpAny_bind (wpAny_newObj_type ?_ (by size_fits))
      refine wpAny_bind (m := firstArgMember _ _) (wpAny_of_eq (a := Value.none) (by first | rfl | (simp only [firstArgMember]; rfl)) ?_)
      refine wpAny_newObj_type ?_ (by size_fits)
      simp only [raiseNew]
      refine wpAny_bind (wpAny_bind (wpAny_handled ?_))
      first | rw [show A.in1.handled = none from hh] | rw [hh]
      refine wpAny_throw ?_
      exact hq _ _ (fun b o hb => Heap.get?_push_of_some _ (Heap.get?_push_of_some _ hb)) ⟨_, _, rfl, Heap.get?_push_size _ rfl, rfl⟩
/-- one step of enumerate -/
theorem enum_step {e it : Addr} {i : Nat} {old : Value} {R : Value → Shared → Prop} {Q : Value → Shared → Prop} {Ex : Value → Shared → Prop} (he : IsEnum s.heap e it i old)
    (hN : wpAny (model P w) A (Builtin.SmallTypes.nextOf (.ref it)) (fun x s2 => IsEnum s2.heap e it i old ∧ R x s2) F0 s)
    (hQ : ∀ x s2, R x s2 → ∀ h' tk, IsEnumOut h' e it ((i : Int) + 1) x s2.heap.objs.size → h'.get? s2.heap.objs.size = some { cls := .type "tuple", data := .seq #[.int i tk, x] } → h'.objs.size = s2.heap.objs.size + 1 →
      (∀ b o, b ≠ e → s2.heap.get? b = some o → h'.get? b = some o) → Q (.ref s2.heap.objs.size) { s2 with heap := h', toks := tk + 1 }) :
    wpAny (model P w) A (Builtin.«enumerate.__next__» ⟨[.ref e], []⟩) (fun fin s' => ∃ v, fin = .done (.ret v) ∧ Q v s') Ex s := by
  show wpAny _ _ (field (.ref e) 2 >>= _) _ _ s
  refine wpAny_bind (wpAny_field he rfl (x := .ref it) rfl ?_)
  refine wpAny_bind (wpAny_mono hN (fun x s2 ⟨he₁, hR⟩ => ?_) fun _ _ z => z.elim)
  replace hQ := hQ x s2 hR
  clear hR hN he
  obtain ⟨hp, g, d, tk, os⟩ := s2
  replace he₁ : IsEnum hp e it i old := he₁
  show wpAny _ _ (field (.ref e) 3 >>= _) _ _ ⟨hp, g, d, tk, os⟩
  refine wpAny_bind (wpAny_field he₁ rfl (x := rawInt i) rfl ?_)
  show wpAny _ _ (field (.ref e) 4 >>= _) _ _ ⟨hp, g, d, tk, os⟩
  refine wpAny_bind (wpAny_field he₁ rfl (x := .none) rfl ?_)
  show wpAny _ _ (mkInt i >>= _) _ _ ⟨hp, g, d, tk, os⟩
  refine wpAny_bind (wpAny_mkInt ?_)
  show wpAny _ _ (setField (.ref e) 3 (rawInt ((i : Int) + 1)) >>= _) _ _ ⟨hp, g, d, tk + 1, os⟩
  refine wpAny_bind (wpAny_setField_rec he₁ (by simp) fun h₂ he₂ hs₂ => ?_)
  replace hs₂ : Heap.SameBut e hp h₂ := hs₂
  replace he₂ : IsEnum h₂ e it ((i : Int) + 1) old := he₂
  show wpAny _ _ (setField (.ref e) 4 .none >>= _) _ _ ⟨h₂, g, d, tk + 1, os⟩
  refine wpAny_bind (wpAny_setField_rec he₂ (by simp) fun h₃ he₃ hs₃ => ?_)
  replace hs₃ : Heap.SameBut e h₂ h₃ := hs₃
  replace he₃ : IsEnum h₃ e it ((i : Int) + 1) old := he₃
  show wpAny _ _ (newTuple [.int i tk, x] >>= _) _ _ ⟨h₃, g, d, tk + 1, os⟩
  refine wpAny_bind (wpAny_newTuple ?_)
  have he₄ : IsEnum (h₃.push { cls := .type "tuple", data := .seq #[.int i tk, x] }) e it ((i : Int) + 1) old := Heap.get?_push_of_some _ he₃
  generalize hh₄ : h₃.push { cls := .type "tuple", data := .seq #[.int i tk, x] } = h₄ at he₄
  have hsz : h₃.objs.size = hp.objs.size := by rw [hs₃.1, hs₂.1]
  have hel : e < hp.objs.size := Heap.lt_size he₁
  have ht₄ : h₄.get? hp.objs.size = some { cls := .type "tuple", data := .seq #[.int i tk, x] } := by rw [← hh₄, ← hsz]; exact Heap.get?_push_size _ rfl
  have hz₄ : h₄.objs.size = hp.objs.size + 1 := by rw [← hh₄, Heap.size_push, hsz]
  have hk₄ : ∀ b o, b ≠ e → hp.get? b = some o → h₄.get? b = some o := fun b o hbe hb => by
    rw [← hh₄]; exact Heap.get?_push_of_some _ (hs₃.extBut b o hbe (hs₂.extBut b o hbe hb))
  show wpAny _ _ (Builtin.SmallTypes.ownedTupleIsFree (.ref e) >>= _) _ _ ⟨h₄, g, d, tk + 1, os⟩
  rw [hsz]
  clear hh₄ he₃ hs₃ he₂ hs₂ he₁ hsz h₃ h₂
  refine wpAny_bind ?_
  · unfold Builtin.SmallTypes.ownedTupleIsFree
    refine wpAny_bind (wpAny_field he₄ rfl (x := .none) rfl (wpAny_pure ?_))
    simp only [if_true]
    refine wpAny_bind (wpAny_rule ?_)
    refine wpAny_bind (wpAny_field he₄ rfl (x := old) rfl ?_)
    refine wpAny_bind (wpAny_setField_rec he₄ (by simp) fun h₅ he₅ hs₅ => ?_)
    replace hs₅ : Heap.SameBut e h₄ h₅ := hs₅
    replace he₅ : IsEnum h₅ e it ((i : Int) + 1) x := he₅
    show wpAny _ _ (Builtin.SmallTypes.ownedTupleHandOut (.ref e) (.ref hp.objs.size) >>= _) _ _ ⟨h₅, g, d, tk + 1, os⟩
    refine wpAny_bind ?_
    · unfold Builtin.SmallTypes.ownedTupleHandOut
      refine wpAny_bind (wpAny_setField_rec he₅ (by simp) fun h₆ he₆ hs₆ => ?_)
      replace hs₆ : Heap.SameBut e h₅ h₆ := hs₆
      replace he₆ : IsEnumOut h₆ e it ((i : Int) + 1) x hp.objs.size := he₆
      refine wpAny_setField_rec he₆ (by simp) fun h₇ he₇ hs₇ => ?_
      replace hs₇ : Heap.SameBut e h₆ h₇ := hs₇
      replace he₇ : IsEnumOut h₇ e it ((i : Int) + 1) x hp.objs.size := he₇
      refine wpAny_bind (wpAny_letGo (wpAny_pure ⟨_, rfl, hQ h₇ tk he₇ ?_ ?_ ?_⟩))
      · exact hs₇.extBut _ _ (Nat.ne_of_gt hel) (hs₆.extBut _ _ (Nat.ne_of_gt hel) (hs₅.extBut _ _ (Nat.ne_of_gt hel) ht₄))
      · show h₇.objs.size = hp.objs.size + 1
        rw [hs₇.1, hs₆.1, hs₅.1, hz₄]
      · exact fun b o hbe hb => hs₇.extBut b o hbe (hs₆.extBut b o hbe (hs₅.extBut b o hbe (hk₄ b o hbe hb)))
/-- enumerate of a generator, made -/
theorem meets_enum_gen (a : Addr) (go : Obj) (hgc : go.cls = .type "generator") (g : Nat) (hgen : ∀ h : Heap, h.get? a = some go → h.IsGen a g) :
    Meets (Builtin.«enumerate.__new__» ⟨[.type "enumerate", .ref a], []⟩) (fun _ R s => s.heap.get? a = some go ∧
      R (.ok (.ret (.ref s.heap.objs.size))) { s with heap := s.heap.push { cls := .type "enumerate", data := .fields #[.none, .bool false, .ref a, rawInt 0, .none, .none] } }) :=
  .of_wp fun prog w A R s h => by
    obtain ⟨hp, g', d, tk, os⟩ := s; obtain ⟨hl, h⟩ := h
    have hsub := sub_enumerate
    have hG : Heap.IsGen (Shared.heap ⟨hp, g', d, tk, os⟩) a g := hgen _ hl
    wp_walk using AutoSeq1.wpAny_loadPart' hl
    refine wpAny_stack_any fun st => wpAny_pure ?_
    split
    · rename_i c _ _ _ _ _
      cases (c == Value.type "enumerate")
      · wp_walk using AutoSeq1.wpAny_loadPart' hl, wpAny_pyIter_gen hG
        exact ⟨_, rfl, h⟩
      · wp_walk using AutoSeq1.wpAny_loadPart' hl, wpAny_pyIter_gen hG
        exact ⟨_, rfl, h⟩
    · wp_walk using AutoSeq1.wpAny_loadPart' hl, wpAny_pyIter_gen hG
      exact ⟨_, rfl, h⟩
theorem call_enum_gen {a : Addr} {g : Nat} {Q : Value → Shared → Prop} {E : Value → Shared → Prop} (hG : s.heap.IsGen a g)
    (h : ∀ h', IsEnum h' s.heap.objs.size a 0 .none → h'.objs.size = s.heap.objs.size + 1 → (∀ b o, s.heap.get? b = some o → h'.get? b = some o) → Q (.ref s.heap.objs.size) { s with heap := h' }) :
    wpAny (model P w) A (call (.type "enumerate") [.ref a]) Q E s := by
  obtain ⟨go, nm, qn, ho, hc, hd, hs⟩ := hG
  refine callType_new F.called_enumerate (by decide) (F.typeCall_enumerate_1 _) (F.newCall_enumerate_1 _) (fun obj => F.args_object_init_2 obj _) F.entry_enumerate_new
    (meets_enum_gen a go hc g fun h e => ⟨go, nm, qn, e, hc, hd, hs⟩) ⟨ho, ?_⟩
  have he : IsEnum (s.heap.push { cls := .type "enumerate", data := .fields #[.none, .bool false, .ref a, rawInt 0, .none, .none] }) s.heap.objs.size a 0 .none := Heap.get?_push_size _ rfl
  exact ⟨⟨_, he, rfl⟩, h _ he (Heap.size_push ..) fun b o x => Heap.get?_push_of_some _ x⟩
end
end PL

namespace PL
open PySem PySem.Spec PyProof.Rows L2 GenW

/-- a walk that lives, asked by a builtin at A1 -/
structure LX (P : Program) (w : World) (K : PySem.W.Frag) (mg : Str → Option Value) (base : Heap) (A1 : Around) (outer : List Env) (ds : List PyData) (it : Addr) (tn : Nat → Hp → List Addr → Shared → Prop) : Prop where
  obj : ∀ i F fp s, tn i F fp s → it ∈ fp ∧ ∀ b ∈ fp, ∃ o, s.heap.get? b = some o ∧ ∀ v, o.data ≠ .cell v
  keep0 : ∀ i F F' fp s s', tn i F fp s → Same F F' → (∀ b ∈ fp, ∀ o, s.heap.get? b = some o → s'.heap.get? b = some o) → s'.gens = s.gens → tn i F' fp s'
  keep : ∀ i F F' fp s s', tn (i + 1) F fp s → Same F F' → (∀ b ∈ fp, ∀ o, s.heap.get? b = some o → s'.heap.get? b = some o) → Kg s s' → tn (i + 1) F' fp s'
  item : ∀ (X : Cx), X.prog = P → X.w = w → X.K = K → X.mg = mg → X.base = base → X.stack = outer → X.calm = true → ∀ (i : Nat) (d : PyData) (pins : List (Addr × Obj)) (s : Shared) (σ : L2.St) (F H : Hp) (fp : List Addr),
    Inv X pins σ H s → (∀ b ∈ fp, FpOk X pins H b) → tn i F fp s → Same F H → ds[i]? = some d →
    wpAny (model P w) A1 (Builtin.SmallTypes.nextOf (.ref it)) (fun u s2 => ∃ x H' F' fp', Inv X pins σ H' s2 ∧ RelV x u ∧ Gr F H F' H' ∧ Fp F' x d ∧ tn (i + 1) F' fp' s2 ∧ ∀ b ∈ fp', FpOk X pins H' b ∧ (b ∈ fp ∨ s.heap.objs.size ≤ b)) F0 s
  done : ∀ (X : Cx), X.prog = P → X.w = w → X.K = K → X.mg = mg → X.base = base → X.stack = outer → X.calm = true → ∀ (pins : List (Addr × Obj)) (s : Shared) (σ : L2.St) (F H : Hp) (fp : List Addr),
    Inv X pins σ H s → (∀ b ∈ fp, FpOk X pins H b) → tn ds.length F fp s → Same F H →
    wpAny (model P w) A1 (Builtin.SmallTypes.nextOf (.ref it)) (fun _ _ => False) (fun e s1 => IsStop s1.heap e ∧ ∃ F' H', Inv X pins σ H' s1 ∧ Gr F H F' H') s
theorem lx_gen {P : Program} {w : World} {K : PySem.W.Frag} {mg : Str → Option Value} {base : Heap} {N : List Str} {qual : Str} {scope : Scope} {f : Addr} {cd : Value} {A : Around} {outer : List Env} {n : Nat} {ds : List PyData} {it : Addr}
    (hd : A.depth < recursionLimit) (hd0 : A.handled = none) (fr : A.frames = some outer) : LX P w K mg base A outer ds it (gtn ⟨P, w, K, mg, base, N, qual, scope, f, cd, A.in1, outer, n⟩ ds it) := by
  have LTg := lt_gen (P := P) (w := w) (K := K) (mg := mg) (base := base) (N := N) (qual := qual) (scope := scope) (f := f) (cd := cd) (A := A) (outer := outer) (n := n) (tg := .Constant .none 0 ⟨0, 0, 0, 0⟩) (ds := ds) (it := it) hd
  generalize hG : (⟨P, w, K, mg, base, N, qual, scope, f, cd, A.in1, outer, n⟩ : GC) = G at LTg ⊢
  have gP : G.P = P := by rw [← hG]
  have gw : G.w = w := by rw [← hG]
  have gO : G.outer = outer := by rw [← hG]
  have gA : G.A = A.in1 := by rw [← hG]
  have wake : ∀ (X : Cx), X.prog = P → X.w = w → X.K = K → X.mg = mg → X.base = base → X.stack = outer → X.calm = true → ∀ (i : Nat) (pins : List (Addr × Obj)) (s : Shared) (σ : L2.St) (F H : Hp) (fp : List Addr) (Q Ex : Value → Shared → Prop),
      Inv X pins σ H s → (∀ b ∈ fp, FpOk X pins H b) → gtn G ds it i F fp s → Same F H →
      (∀ (g : Nat) (pv : List Addr) (e : End) (s₁ : Shared), s.heap.IsGen it g → fp = it :: pv → it ∉ pv → g < s₁.gens.size → GPo G (ds.drop i) pv (s.setGen g .running) H F e s₁ →
        (∃ v, SuspV e v ∧ Q v (s₁.setGen g e.genState)) ∨ (e = .ret (.ok (.ret .none)) ∧ ∀ h' x, (∀ b o, s₁.heap.get? b = some o → h'.get? b = some o) → IsStop h' x → Ex x { s₁.setGen g .finished with heap := h' })) →
      wpAny (model P w) A (Builtin.SmallTypes.nextOf (.ref it)) Q Ex s := by
    intro X x1 x2 x3 x4 x5 x7 x8 i pins s σ F H fp Q Ex I hf h f k
    obtain ⟨g, gs, pv, sl, Fl, h1, h2, h3, h4, h5, h6, h7, h8, h9, h10⟩ := h
    have e0 := I.env0
    rw [x1, x2, x3, x4, x5, x7] at e0
    refine nextOf_genX hd0 I.nolimit hd h1 h2 (gs := gs) (Po := GPo G (ds.drop i) pv (s.setGen g .running) H F) ?_ fun e s₁ hz he => k g pv e s₁ h1 h7 h8 (Nat.lt_of_lt_of_le (lt_of_some h2) hz) he
    have z := h4 (s.setGen g .running) H F ⟨?_, fun b hb => (hf b (by rw [h7]; exact List.mem_cons_of_mem _ hb)).1, fun b hb => (h10 b hb).1, f, ?_⟩ h5 h6
    · rw [gP, gw, gA] at z
      exact z
    · subst hG
      exact ⟨fr, e0.mod, e0.bs, e0.bsz, e0.funs, e0.frf, e0.hok, allBare_setGen e0.bare rfl⟩
    · obtain ⟨_, o, e, _⟩ := h10 _ h9
      exact Nat.le_of_lt (Heap.lt_size e)
  have after : ∀ (X : Cx), X.prog = P → X.w = w → X.stack = outer → ∀ (pins : List (Addr × Obj)) (s : Shared) (σ : L2.St) (F H F' H' : Hp) (pv : List Addr) (g : Nat) (s₁ : Shared) (st : GenState), Inv X pins σ H s → (∀ b ∈ it :: pv, FpOk X pins H b) → st.bare = true →
      GEff G pv (s.setGen g .running) H F s₁ H' F' → Inv X pins σ H' (s₁.setGen g st) := by
    intro X x1 x2 x7 pins s σ F H F' H' pv g s₁ st I hf hb ef
    have un := ef.un
    have ok := ef.hok
    rw [gO, ← x7] at un
    rw [gP, gw, ← x1, ← x2] at ok
    refine I.call' (s' := s₁.setGen g st) (ch := pv) ef.os un ok (allBare_setGen ef.bare hb) fun b hb' => ?_
    obtain ⟨_, f1, f2, f3, f4, f5⟩ := hf b (List.mem_cons_of_mem _ hb')
    exact ⟨f3, f1, f4, f5⟩
  refine ⟨LTg.obj, LTg.keep0, LTg.keep, ?_, ?_⟩
  · intro X x1 x2 x3 x4 x5 x7 x8 i d pins s σ F H fp I hf h f hd'
    refine wake X x1 x2 x3 x4 x5 x7 x8 i pins s σ F H fp _ _ I hf h f fun g pv e s₁ hg hfp hni hz po => .inl ?_
    have hlt := (List.getElem?_eq_some_iff.mp hd').1
    rw [List.drop_eq_getElem_cons hlt] at po
    have ed : ds[i] = d := (List.getElem?_eq_some_iff.mp hd').2
    rw [ed] at po
    obtain ⟨v, x, H', F', pv', sv, ef, rv, hx, pvo, nxt⟩ := po
    subst hfp
    have I' := after X x1 x2 x7 pins s σ F H F' H' pv g s₁ e.genState I hf sv.asl.2.2 ef
    have hit := hf it List.mem_cons_self
    have hitk : ∀ o, s.heap.get? it = some o → s₁.heap.get? it = some o := fun o e => ef.un.keep it o e hit.1 (by
      rw [gO, ← x7]
      intro z
      obtain ⟨_, o', e', nd⟩ := I.stack.mem z
      obtain ⟨o2, nm, qn, e2, _, d2, _⟩ := hg
      rw [e2] at e'
      cases e'
      exact nd _ d2) hni
    have hg1 : s₁.heap.IsGen it g := isgen_at hg hitk
    have hitlt : it < s.heap.objs.size := by
      obtain ⟨o3, _, _, e3, _⟩ := hg
      exact Heap.lt_size e3
    refine ⟨v, sv, x, H', F', it :: pv', I', rv, ef.gr, hx, ?_, fun b hb => ?_⟩
    · refine ⟨g, e.genState, pv', s₁, F', hg1, setGen_at hz, .inl sv.asl.1, nxt, fun _ _ => rfl, Same.refl _, rfl, fun z => ?_, pvo.lp, fun b hb => ⟨(pvo.old b hb).1, pvo.there b hb⟩⟩
      rcases (pvo.old it z).2 with y | y
      · exact hni y
      · exact absurd hitlt (Nat.not_lt.mpr y)
    · rcases List.mem_cons.mp hb with z | z
      · rw [z]
        refine ⟨⟨?_, hit.2⟩, .inl List.mem_cons_self⟩
        obtain ⟨o3, _, _, e3, _⟩ := hg
        exact ef.un.free it o3 e3 hit.1 hni
      · rcases (pvo.old b z).2 with y | y
        · exact ⟨⟨pvo.none b z, (hf b (List.mem_cons_of_mem _ y)).2⟩, .inl (List.mem_cons_of_mem _ y)⟩
        · exact ⟨I.fpOk y (pvo.none b z), .inr y⟩
  · intro X x1 x2 x3 x4 x5 x7 x8 pins s σ F H fp I hf h f
    refine wake X x1 x2 x3 x4 x5 x7 x8 ds.length pins s σ F H fp _ _ I hf h f fun g pv e s₁ hg hfp hni hz po => .inr ?_
    rw [List.drop_length] at po
    obtain ⟨e1, H', F', ef⟩ := po
    subst hfp
    refine ⟨e1, fun h' x hk hs => ⟨hs, F', H', ?_, ef.gr⟩⟩
    have I' := after X x1 x2 x7 pins s σ F H F' H' pv g s₁ .finished I hf rfl ef
    exact I'.kept (t' := (s₁.setGen g .finished).toks) hk
/-- enumerate of a living walk -/
def etn (tn : Nat → Hp → List Addr → Shared → Prop) (e it : Addr) (i : Nat) (F : Hp) (fp : List Addr) (s : Shared) : Prop :=
  ∃ fpi old, fp = e :: fpi ∧ e ∉ fpi ∧ IsEnum s.heap e it ((i : Nat) : Int) old ∧ tn i F fpi s
theorem lt_enum {P : Program} {w : World} {K : PySem.W.Frag} {mg : Str → Option Value} {base : Heap} {A : Around} {outer : List Env} {elts : List Expr} {kk : Nat} {tpos : Pos} {ds : List PyData} {e it : Addr} {tn : Nat → Hp → List Addr → Shared → Prop}
    (L : LX P w K mg base A.in1 outer ds it tn) : LT P w K mg base A outer (.Tuple elts kk tpos) (enumD 0 ds) e (etn tn e it) := by
  refine ⟨fun i F fp s h => ?_, fun i F F' fp s s' h f k g => ?_, fun i F F' fp s s' h f k g => ?_, ?_, ?_, fun A' i F fp s Q E h q => ?_⟩
  · obtain ⟨fpi, old, rfl, hne, he, ht⟩ := h
    refine ⟨List.mem_cons_self, fun b hb => ?_⟩
    rcases List.mem_cons.mp hb with z | z
    · rw [z]; exact ⟨_, he, fun v q => nomatch q⟩
    · exact (L.obj _ _ _ _ ht).2 b z
  · obtain ⟨fpi, old, rfl, hne, he, ht⟩ := h
    exact ⟨fpi, old, rfl, hne, k _ List.mem_cons_self _ he, L.keep0 _ _ _ _ _ _ ht f (fun b hb => k b (List.mem_cons_of_mem _ hb)) g⟩
  · obtain ⟨fpi, old, rfl, hne, he, ht⟩ := h
    exact ⟨fpi, old, rfl, hne, k _ List.mem_cons_self _ he, L.keep _ _ _ _ _ _ ht f (fun b hb => k b (List.mem_cons_of_mem _ hb)) g⟩
  · intro X x1 x2 x3 x4 x5 x6 x7 x8 i d pins s σ F H fp I hf h f hd
    obtain ⟨fpi, old, rfl, hne, he, ht⟩ := h
    obtain ⟨d0, ed, rfl⟩ := enumD_get hd
    have hT : s.TypeIs (.ref e) "enumerate" := ⟨_, he, rfl⟩
    have hfe := hf e List.mem_cons_self
    have I0 : Inv X (pins ++ [(e, ({ cls := .type "enumerate", data := .fields #[.none, .bool false, .ref it, rawInt ((i : Nat) : Int), .none, old] } : Obj))]) σ H s := I.pins_of fun p hp => (List.mem_append.mp hp).elim (fun z => I.pin p (List.mem_append_right _ z)) fun z => by
      rw [List.mem_singleton.mp z]
      exact ⟨he, hfe.1, hfe.2.1, hfe.2.2.1, fun v q => nomatch q⟩
    have hf0 : ∀ b ∈ fpi, FpOk X (pins ++ [(e, ({ cls := .type "enumerate", data := .fields #[.none, .bool false, .ref it, rawInt ((i : Nat) : Int), .none, old] } : Obj))]) H b := fun b hb => by
      obtain ⟨z0, z1, z2, z3, z4, z5⟩ := hf b (List.mem_cons_of_mem _ hb)
      refine ⟨z0, z1, z2, z3, z4, fun p hp => ?_⟩
      rcases List.mem_append.mp hp with y | y
      · exact z5 p (List.mem_append_left _ y)
      · rcases List.mem_append.mp y with y | y
        · exact z5 p (List.mem_append_right _ y)
        · rw [List.mem_singleton.mp y]
          exact fun q => hne (by rw [show e = b from q]; exact hb)
    unfold pyNext
    refine wpAny_bind (wpAny_attempt (wpAny_callSpecial?_slot (name := Str.ofString "__next__") hT PySem.F.slot_enumerate_next
      (wpAny_call_entry PySem.F.slot_enumerate_next hT PySem.F.entry_enumerate_next ?_ (PySem.F.args_enumerate_next_1 _))))
    refine enum_step (R := fun u s2 => ∃ x H' F' fp', Inv X (pins ++ [(e, ({ cls := .type "enumerate", data := .fields #[.none, .bool false, .ref it, rawInt ((i : Nat) : Int), .none, old] } : Obj))]) σ H' s2 ∧ RelV x u ∧ Gr F H F' H' ∧ Fp F' x d0 ∧ tn (i + 1) F' fp' s2 ∧
      ∀ b ∈ fp', FpOk X (pins ++ [(e, ({ cls := .type "enumerate", data := .fields #[.none, .bool false, .ref it, rawInt ((i : Nat) : Int), .none, old] } : Obj))]) H' b ∧ (b ∈ fpi ∨ s.heap.objs.size ≤ b)) he (wpAny_mono (L.item X x1 x2 x3 x4 x5 x7 x8 i d0 _ s σ F H fpi I0 hf0 ht f ed) (fun u s2 h2 => ⟨?_, h2⟩) fun _ _ z => z) fun u s2 hR h' tk ho hTu hsz hk => ?_
    · obtain ⟨x, H', F', fp', I2, _⟩ := h2
      exact (I2.pin (e, _) (List.mem_append_right _ (List.mem_append_right _ List.mem_cons_self))).1
    · obtain ⟨x, H', F', fp', I2, rv, gr, hx, t2, f2⟩ := hR
      have hel : e < s.heap.objs.size := Heap.lt_size he
      have pe := I2.pin (e, _) (List.mem_append_right _ (List.mem_append_right _ List.mem_cons_self))
      have hel2 : e < s2.heap.objs.size := Heap.lt_size pe.1
      refine wpAny_pure ⟨_, rfl, wpAny_letOwnedTupleGo_enum (s := { s2 with heap := h', toks := tk + 1 }) ho fun h'' he' sb => ?_⟩
      have hT2 : h''.get? s2.heap.objs.size = some { cls := .type "tuple", data := .seq #[.int i tk, u] } := (sb.2 _ (Nat.ne_of_gt hel2)).trans hTu
      have new : ObjOk X.prog X.w (upd H' s2.heap.objs.size (.tup [.int (i : Nat), x])) h'' s2.heap.objs.size (.tup [.int (i : Nat), x]) :=
        ⟨by show 2 ≤ sizeLine; decide, [.int i tk, u], .cons ⟨_, rfl⟩ (.cons rv .nil), ⟨_, hT2, rfl, _, rfl⟩⟩
      have fe2 : FpOk X pins H' e := ⟨pe.2.1, hfe.2⟩
      have kk : ∀ b o, b ≠ e → s2.heap.get? b = some o → h''.get? b = some o := fun b o hb q => (sb.2 b hb).trans (hk b o hb q)
      have I3 : Inv X pins σ (upd H' s2.heap.objs.size (.tup [.int (i : Nat), x])) { s2 with heap := h'', toks := tk + 1 } :=
        I2.unpinned.turnedNew (ch := [e]) (fun b ob hb q => kk b ob (fun z => hb (by simp [z])) q) (fun b hb => by rw [List.mem_singleton.mp hb]; exact fe2) (Nat.le_refl _) new
      have hTn : H' s2.heap.objs.size = none := I2.hok.fresh (Nat.le_refl _)
      have g2 := Gr.laid (o := HO.tup [.int (i : Nat), x]) gr.fh hTn
      have live : ∀ b ∈ fp', b < s2.heap.objs.size := fun b hb => by
        obtain ⟨o, q, _⟩ := (L.obj _ _ _ _ t2).2 b hb
        exact Heap.lt_size q
      have nee : e ∉ fp' := fun z => by
        rcases (f2 e z).2 with y | y
        · exact hne y
        · exact absurd hel (Nat.not_lt.mpr y)
      refine ⟨.ref s2.heap.objs.size, _, _, e :: fp', I3, rfl, gr.trans g2, .tup upd_same (.cons (by rw [Nat.zero_add]; exact .int _) (.cons (hx.to g2.ff) .nil)), ⟨fp', u, rfl, nee, ?_, L.keep _ _ _ _ _ _ t2 g2.ff (fun b hb o q => kk b o (fun z => nee (by rw [← z]; exact hb)) q) (Kg.eq rfl)⟩, fun b hb => ?_⟩
      · have e1 : ((i + 1 : Nat) : Int) = (i : Int) + 1 := by omega
        rw [e1]; exact he'
      · rcases List.mem_cons.mp hb with z | z
        · rw [z]
          refine ⟨?_, fe2.2⟩
          rw [upd_ne (Nat.ne_of_lt hel2)]
          exact fe2.1
        · obtain ⟨⟨z0, z1, z2, z3, z4, z5⟩, _⟩ := f2 b z
          refine ⟨by rw [upd_ne (Nat.ne_of_lt (live b z))]; exact z0, z1, z2, z3, z4, fun p hp => z5 p ?_⟩
          rcases List.mem_append.mp hp with y | y
          · exact List.mem_append_left _ y
          · exact List.mem_append_right _ (List.mem_append_left _ y)
  · intro X x1 x2 x3 x4 x5 x6 x7 x8 pins s σ F H fp I hf h f
    obtain ⟨fpi, old, rfl, hne, he, ht⟩ := h
    rw [enumD_length] at ht he
    have hT : s.TypeIs (.ref e) "enumerate" := ⟨_, he, rfl⟩
    unfold pyNext
    refine wpAny_bind (wpAny_attempt (wpAny_callSpecial?_slot (name := Str.ofString "__next__") hT PySem.F.slot_enumerate_next
      (wpAny_call_entry PySem.F.slot_enumerate_next hT PySem.F.entry_enumerate_next ?_ (PySem.F.args_enumerate_next_1 _))))
    show wpAny _ _ (field (.ref e) 2 >>= _) _ _ _
    refine wpAny_bind (wpAny_field he rfl (x := .ref it) rfl ?_)
    refine wpAny_bind (wpAny_mono (L.done X x1 x2 x3 x4 x5 x7 x8 pins s σ F H fpi I (fun b hb => hf b (List.mem_cons_of_mem _ hb)) ht f) (fun _ _ z => z.elim) fun ex s1 ⟨hs, hq⟩ => ?_)
    obtain ⟨xa, o, rfl, ho, hc⟩ := hs
    refine wpAny_bind (wpAny_isInstance (T := "StopIteration") (b := true) ⟨o, ho, hc⟩ isSubtype_stop ?_)
    exact wpAny_pure ⟨rfl, hq⟩
  · obtain ⟨fpi, old, rfl, hne, he, ht⟩ := h
    exact wpAny_pyIter_enum he q
end PL

namespace PL
open PySem PySem.Spec PyProof.Rows L2 GenW

def itEnumG (n : Nat) (sp : SpY) (pa : PAs) : PIt := fun env Q => pGen n sp pa env fun ys env1 => Q (enumD 0 ys) env1
theorem gnew_liveX {X : Cx} {k : Nat} {pins : List (Addr × Obj)} {σ : L2.St} {F H : Hp} {s1 s2 : Shared} {u : Value} {ds : List PyData} {A1 : Around} (I : Inv X pins σ H s1) (h : GNew X.prog X.w X.K X.mg X.base k s1 F ds u s2) (hr : Room k A1.in1) (hg : A1.guards = some []) (hf : A1.frames = some X.stack) :
    ∃ (a : Addr) (pv : List Addr) (G : GC), u = .ref a ∧ Inv X pins σ H s2 ∧ LX X.prog X.w X.K X.mg X.base A1 X.stack ds a (gtn G ds a) ∧ gtn G ds a 0 F (a :: pv) s2 ∧ (∀ b ∈ a :: pv, FpOk X pins H b ∧ s1.heap.objs.size ≤ b) ∧ ∃ g, s2.heap.IsGen a g := by
  obtain ⟨a, g, c, n, e1, h1, h2, h3, h4, h5, h6, h7, h8, h9, h10, h11⟩ := h
  have hst : ∀ b ∈ frs X.stack, b < n := fun b hb => by
    obtain ⟨_, o, e, _⟩ := I.stack.mem hb
    exact Nat.lt_of_lt_of_le (Heap.lt_size e) h1
  obtain ⟨N, qual, scope, f, cd, ok, at_⟩ := h11 A1.in1 X.stack hr hg hf hst
  have I2 : Inv X pins σ H s2 := I.call' (ch := []) h7 (Un.kept h10) (I.hok.kept h10) h8 fun b z => absurd z (by simp)
  refine ⟨a, [n], ⟨X.prog, X.w, X.K, X.mg, X.base, N, qual, scope, f, cd, A1.in1, X.stack, n⟩, e1, I2, lx_gen (by have := hr.dp; show A1.depth < _; have : A1.in1.depth = A1.depth := rfl; omega) hr.hd hf, ⟨g, .fresh c, [n], s2, F, h5, h6, .inr rfl, ?_, fun _ _ => rfl, Same.refl _, rfl, ?_, by simp, fun b hb => ?_⟩, fun b hb => ?_, g, h5⟩
  · rw [List.drop_zero]; exact at_
  · intro z
    rw [List.mem_singleton] at z
    exact absurd h2 (by rw [z]; exact Nat.lt_irrefl _)
  · rw [List.mem_singleton] at hb
    rw [hb]
    exact ⟨Nat.le_refl _, h4⟩
  · have hle : s1.heap.objs.size ≤ b := by
      rcases List.mem_cons.mp hb with z | z
      · rw [z]; exact Nat.le_trans h1 (Nat.le_of_lt h2)
      · rw [List.mem_singleton] at z; rw [z]; exact h1
    exact ⟨I.fpOk hle (I.hok.fresh hle), hle⟩
section
variable {X : Cx} {E : Ent} {e : Expr} {es elts : List Expr} {pa : PAs} {pos p pos2 p2 tpos : Pos} {x : Str} {f : Addr} {fd : FuncData} {ps : List Str} {n k kk : Nat} {sp : SpY}
theorem l_genum (hgE : Gl X "enumerate") (hmE : X.mg "enumerate" = none) (G : GGn X.prog X.w X.K X.mg X.base (k + 1) f fd ps sp) (hr : Room (k + 3) X.A) (hg : X.A.guards = some []) (hgl : Gl X x) (hm : X.mg x = some (.ref f)) (hk : PySem.W.keepIn X.K (.ref f) = true) (hb : Binds X.K fd ps []) (hn : ps.length = n)
    (ha : PA X (e :: es) (liftA X.K E pa)) (hdb : (x == ("__debug__" : Str)) = false := by decide) (he : starEach (e :: es) X.env = (false, eval e X.env) :: starEach es X.env := by rfl) (hpl : (backTo pos (starEach es X.env)).any (·.1) = false := by rfl)
    (hs : starEach [.Call (.Name x p) (e :: es) [] pos] X.env = [(false, eval (.Call (.Name x p) (e :: es) [] pos) X.env)] := by rfl) :
    PLv X (.Tuple elts kk tpos) (.Call (.Name "enumerate" p2) [.Call (.Name x p) (e :: es) [] pos] [] pos2) E (itEnumG n sp pa) := by
  refine ⟨fun pins s σ ts F H env As Q I S fx q => ?_⟩
  refine Call_ (ld_blt I hgE hmE boot_enumerate (PyProof.Rows.callWith_type1 ?_ hs rfl))
  rw [hs]
  show wpAny _ _ (spliced ((false, eval (.Call (.Name x p) (e :: es) [] pos) X.env) :: backTo pos2 [])) _ _ s
  refine Calls.spliced_cons (thn (gcall_run G (hr.mono (Nat.le_succ _)) hgl hm hk hb hn ha hdb he hpl I S fx q) fun u s2 ⟨ds, F', H', env', As', s1, I1, S1, f1, q1, gn⟩ => ?_)
  refine Calls.spliced_nil ?_
  obtain ⟨a, pv, GG, eu, I2, lx, at0, fpo, g, ig⟩ := gnew_liveX (A1 := X.A.in1) I1 gn (room_in1 (room_in1 hr)) hg I1.ok.frames
  subst eu
  have live : ∀ b ∈ a :: pv, b < s2.heap.objs.size := fun b hb => by
    obtain ⟨o, q, _⟩ := (lx.obj _ _ _ _ at0).2 b hb
    exact Heap.lt_size q
  refine call_enum_gen ig fun h' he' hsz hkp => wpAny_pyIter_enum he' ?_
  have I3 : Inv X pins σ H' { s2 with heap := h' } := I2.kept (t' := s2.toks) hkp
  refine ⟨s2.heap.objs.size, etn (gtn GG ds a) s2.heap.objs.size a, enumD 0 ds, F', H', env', As', s2.heap.objs.size :: a :: pv, rfl, I3, S1, f1, q1, lt_enum lx, ⟨a :: pv, .none, rfl, fun z => Nat.lt_irrefl _ (live _ z), he', ?_⟩, fun b hb => ?_⟩
  · exact lx.keep0 _ _ _ _ _ _ at0 (Same.refl _) (fun b _ o q => hkp b o q) rfl
  · rcases List.mem_cons.mp hb with z | z
    · rw [z]
      exact I2.fpOk (Nat.le_refl _) (I2.hok.fresh (Nat.le_refl _))
    · exact (fpo b z).1
end
theorem gForL_inv {t : Tg} {body : GStR} {D : GEn} {xs ds : List PyData} {env : PEnv} (I : Nat → List PyData → PEnv → Prop) (h0 : I 0 ds env)
    (hs : ∀ i x ds e (R : List PyData → PEnv → Prop), xs[i]? = some x → I i ds e → (∀ ds' e', I (i + 1) ds' e' → R ds' e') → tgP t x e fun e1 => body { nx := R, ct := R, bk := D.nx } ds e1)
    (hd : ∀ ds e, I xs.length ds e → D.nx ds e) : gForL t body D xs ds env := by
  have key : ∀ (k i : Nat), k = xs.length - i → i ≤ xs.length → ∀ ds e, I i ds e → gForL t body D (xs.drop i) ds e := by
    intro k
    induction k with
    | zero =>
      intro i hk hi ds e h
      have ei : i = xs.length := by omega
      subst ei
      rw [List.drop_length, gForL_n]
      exact hd ds e h
    | succ k ih =>
      intro i hk hi ds e h
      have hl : i < xs.length := by omega
      rw [List.drop_eq_getElem_cons hl, gForL_c]
      exact hs i _ ds e _ (List.getElem?_eq_getElem hl) h fun ds' e' h' => ih (i + 1) (by omega) (by omega) ds' e' h'
  have z := key _ 0 rfl (Nat.zero_le _) ds env h0
  rw [List.drop_zero] at z
  exact z
end PL

namespace PySem
namespace PLX
open PySem.W PySem.Calls PyProof.Rows PySem.HandSPX
/-! ### 77. an own error that keeps a value: its __init__ says super().__init__('..'), then self.value = value -/
def eA (p1 p2 : Pos) : Arguments := { posonlyargs := [], args := [{ arg := "self", annotation := none, pos := p1 }, { arg := "value", annotation := none, pos := p2 }], vararg := none, kwonlyargs := [], kw_defaults := [], kwarg := none, defaults := [] }
def eB (msg : Str) (j : Nat) (q1 q2 q3 q4 q5 q6 q7 q8 q9 q10 : Pos) : List Stmt := [.Expr (.Call (.Attribute (.Call (.Name "super" q1) [] [] q2) "__init__" q3) [.Constant (.str msg) j q4] [] q5) q6, .Assign [.Attribute (.Name "self" q7) "value" q8] (.Name "value" q9) q10]
def eS : Scope := { kind := .function, names := [(PySem.Str.ofString "self", .local), (PySem.Str.ofString "value", .local), (PySem.Str.ofString "__class__", .free), (PySem.Str.ofString "super", .globalImplicit)], isGenerator := false, isCoroutine := false, more := [] }
/-- what the written part says of such a class, at C, and of its __init__, at fI -/
structure ErrTxt (P : Program) (K : Frag) (C fI : Addr) : Prop where
  cls : ∃ nm q N bs bm sn sub ab col dd k0 k1 k2 k3 k5, K.lookup C = some (excClassObj nm q C N bs bm true sn sub ab col dd k0 k1 k2 k3 k5 "ValueError.__new__") ∧ refsVE bm = true
  sa : findIn K (.ref C) "__setattr__" = some (some (.builtin "object.__setattr__"))
  ga : findIn K (.ref C) "__getattribute__" = some (some (.builtin "BaseException.__getattribute__"))
  gg : findIn K (.ref C) "__getattr__" = some none
  noN : findIn K (.ref C) "value" = some none
  iC : findIn K (.ref C) "__init__" = some (some (.ref fI))
  tC : typeIn K (.ref fI) = some (.type "function")
  kC : keepIn K (.ref C) = true
  exC : subIn K (.ref C) (.type "BaseException") = some true
  veC : subIn K (.ref C) (.type "ValueError") = some true
  selfC : mroIn K C (.ref C) = some true
  tyC : typeIn K (.ref C) = some (.type "type")
  hdC : hasDictIn K C = true
  up : ks_superIn K C C "__init__" = some (some (.builtin "ValueError.__init__"))
  op : nsIn K cStatics "thirdparty.any" = some none
  top : (P.main.scope.names.lookup ("super" : Str)).isSome = false
  fn : ∃ (qual : Str) (msg : Str) (j : Nat) (oc : Value) (od : Option Addr) (doc pm : Value) (an : Option Addr) (cda cc : Addr) (ct : Value) (osl : Array (Option Value)) (p1 p2 q1 q2 q3 q4 q5 q6 q7 q8 q9 q10 : Pos) (ccl cl : Value) (cdd cld : Option Addr) (vs : Array Value) (ccs csl : Array (Option Value)) (file : Str) (tf : Tok) (pl : Sem Bool),
    K.lookup fI = some ⟨oc, od, .func (ksFn "__init__" qual (eA p1 p2) (eB msg j q1 q2 q3 q4 q5 q6 q7 q8 q9 q10) eS .none .none doc pm an (.ref cda) ct cc), osl⟩ ∧ codeIn K (.ref cda) qual = true ∧
    K.lookup cda = some ⟨ccl, cdd, .fields vs, ccs⟩ ∧ vs[2]? = some (.str file tf) ∧ ((P.main.file : Str) == file) = true ∧ K.lookup cc = some ⟨cl, cld, .cell (some (.ref C)), csl⟩ ∧
    ∀ env : Env, eval (.Call (.Attribute (.Call (.Name "super" q1) [] [] q2) "__init__" q3) [.Constant (.str msg) j q4] [] q5) env = (do
      let ov ← attributeBase (.Call (.Name "super" q1) [] [] q2) "__init__" env (eval (.Call (.Name "super" q1) [] [] q2) env)
      standAt q3.atName
      let (f, first) ← holding [ov] (getMethod ov "__init__" pl)
      callWith q5 f first (backTo q5 (starEach [.Constant (.str msg) j q4] env)) [])
/-- a made error -/
structure ErrMade (h h' : Heap) (e C d : Addr) (v : Value) : Prop where
  keep : ∀ b o, h.get? b = some o → h'.get? b = some o
  new : h.objs.size ≤ e
  obj : ∃ oe vs, h'.get? e = some oe ∧ oe.cls = .ref C ∧ oe.dict = some d ∧ oe.data = .fields vs ∧ vs[1]? = some .none ∧ vs[2]? = some .none
  dbig : h.objs.size ≤ d
  dne : d ≠ e
  ns : h'.Ns1 d (fun y => if y = "value" then some v else none)
section
variable {prog : Program} {w : World} {A : Around} {E : Value → Shared → Prop} {R : Result → Shared → Prop} {s : Shared} {K : Frag} {mg mb : Str → Option Value} {C fI : Addr}
theorem call_mw {h : Heap} {g : Array GenState} {d : Drawn} {t : Nat} {os : OsState} {nm q : Str} {N : Addr} {bs bm : List Value} {hdct : Bool} {sn : List Str} {sub : List Value} {ab : Bool} {col : Option Bool} {dd : Option Addr} {k0 k1 k2 k3 k5 : Option Value} {u e t0 : Addr} {rest : List Value} {Q : Value → Shared → Prop}
    (hC : h.get? C = some (excClassObj nm q C N bs bm hdct sn sub ab col dd k0 k1 k2 k3 k5 "ValueError.__new__")) (he : h.get? e = some (excO C t0)) (hu : h.get? u = some (kxs_mw "ValueError.__init__" e)) (hz : rest.length ≤ sizeLine)
    (fin : ∀ h', (∀ b o, b ≠ e → h.get? b = some o → h'.get? b = some o) → h'.get? e = some (excO C h.objs.size) → Q .none ⟨h', g, d, t, os⟩) : wpAny (model prog w) A (call (.ref u) rest) Q E ⟨h, g, d, t, os⟩ := by
  have FB := F.excBase_ValueError
  refine wpAny_call (codeAny_of_tree ?_)
  show wpAny _ A.in1 (callAny (.ref u) ⟨rest, []⟩) _ _ _
  simp only [callAny]
  refine wpAny_bind (wpAny_load hu ?_)
  simp only [kxs_mw, show (Value.type "method-wrapper" == Value.type "method" || Value.type "method-wrapper" == Value.type "builtin_function_or_method" || Value.type "method-wrapper" == Value.type "method-wrapper") = true by decide, if_true]
  refine KFB.if_so (by decide) ?_
  refine wpAny_bind (check_bound_init FB.toExcCallFacts hC he rfl ?_)
  refine wpAny_bind (wpAny_pure (wpAny_pure ?_))
  refine ⟨plainId_quiet FB.init.plain _, codeAny_builtin FB.initEntry ?_⟩
  exact exc_init_tree (cls := .ref C) (t0 := t0) (dv := none) (c2 := .none) (c3 := .none) (b4 := .bool false) he hz fun h' a b _ => fin h' a b
theorem err_init (T : ErrTxt prog K C fI) {x t0 : Addr} {v : Value} (X : K.In s.heap) (hlim : s.heap.NoLimit) (hG : s.heap.Ns mainGlobals mg) (hsup : mg "super" = none) (hB : s.heap.Ns builtinsNs mb) (hb : mb "super" = some (.type "super"))
    (hx : s.heap.get? x = some (excO C t0)) (hnx : K.lookup x = none) (hroom : A.depth < recursionLimit)
    (hq : ∀ h' tk dx t1, (∀ b o, b ≠ x → s.heap.get? b = some o → h'.get? b = some o) → h'.get? x = some { cls := .ref C, dict := some dx, data := .fields #[.ref t1, .none, .none, .none, .bool false, .none] } → s.heap.objs.size ≤ dx → dx ≠ x → h'.Ns1 dx (fun y => if y = "value" then some v else none) →
      R (.ok (.ret .none)) { s with heap := h', toks := tk }) :
    codeAny (model prog w) A (.call (.ref fI) ⟨[.ref x, v], []⟩) R s := by
  obtain ⟨qual, msg, j, oc, od, doc, pm, an, cda, cc, ct, osl, p1, p2, q1, q2, q3, q4, q5, q6, q7, q8, q9, q10, ccl, cl, cdd, cld, vs, ccs, csl, file, tf, pl, ho, hcd, hco, hvs, hfile, hcell, he⟩ := T.fn
  refine ks_codeAny_call_defAt (fd := ksFn "__init__" qual (eA p1 p2) (eB msg j q1 q2 q3 q4 q5 q6 q7 q8 q9 q10) eS .none .none doc pm an (.ref cda) ct cc) (body := eB msg j q1 q2 q3 q4 q5 q6 q7 q8 q9 q10) (binds := [("self", .ref x), ("value", v)])
    hroom (X _ _ ho) rfl hlim (codeRec_of X hcd) rfl (BindsTo.of_eq (by first | rfl | with_unfolding_all rfl)) (show ∀ y ∈ eS.names, y.2 ≠ .cell by decide) (fun y hy => by
      rcases List.mem_cons.mp hy with e | e
      · rw [e]; rfl
      · rw [List.mem_singleton.mp e]; rfl) (fun h₁ hns k => ?_)
  have X1 := X.keeps k
  refine ks_wpAt_execs_cons (ks_wpAt_Expr_any ?_)
  refine ks_wpAt_MethodCall ?_ (he _)
  have hx1 := k _ _ hx
  obtain ⟨nm, q, N, bs, bm, sn, sub, ab, col, dd, k0, k1, k2, k3, k5, hC, hbm⟩ := T.cls
  have hC1 := X1 _ _ hC
  refine ks_wpAt_super_base (env := callEnv (ksFn "__init__" qual (eA p1 p2) (eB msg j q1 q2 q3 q4 q5 q6 q7 q8 q9 q10) eS .none .none doc pm an (.ref cda) ct cc) s.heap.objs.size fI) rfl rfl rfl rfl (X1 _ _ ho) rfl rfl rfl (X1 _ _ hco) rfl hvs hfile T.top ?_
  refine ks_loadName_global rfl rfl (loadGlobal_builtin (hG.keeps k) hsup (hB.keeps k) hb ⟨rfl, ?_⟩)
  refine wpAny_loadName_free rfl rfl rfl ⟨_, X1 _ _ hcell, rfl⟩ ?_
  refine wpAny_loadName_local rfl rfl hns rfl ?_
  refine ks_wpAny_isType_cls hC1 rfl ⟨rfl, ?_⟩
  refine ks_wpAny_call_super hC1 rfl hx1 rfl (fun c e => by cases e) (looks_mroIn X1 T.selfC) (fun h2 e2 k2 => ?_)
  have hx2 := k2 _ _ hx1
  have X2 := X1.keeps k2
  have hne : x ≠ C := fun z => by
    rw [z] at hnx
    rw [hC] at hnx
    cases hnx
  have LT : Looks (model prog w) h2 (typeOf (.ref x)) (.ref C) := fun A Q E s k q => wpAny_typeOf_ref (k _ _ hx2) q
  have LI : Looks (model prog w) h2 (isInstance (.ref x) (.type "ValueError")) true := LT.andThen (looks_subIn X2 T.veC)
  cases hcl : clsIn K C with
  | none =>
    have := T.up
    unfold ks_superIn at this
    rw [hcl] at this
    cases this
  | some cd =>
    have up := T.up
    unfold ks_superIn at up
    rw [hcl] at up
    refine kxs_getMethod kxs_ValueError e2 (looks_opaque X2 T.op) (l₀ := cd.mro) (fun A Q E s k q => wpAny_bind ((looks_clsIn X2 hcl) A _ E s k (wpAny_pure q))) rfl X2 up LI hne rfl ?_
    have hu : (h2.push (kxs_mw "ValueError.__init__" x)).get? h2.objs.size = some (kxs_mw "ValueError.__init__" x) := Heap.get?_push_at rfl rfl
    refine kxs_callWith (i := "ValueError.__init__") (x := x) rfl ?_
    refine evalArgs_plain ?_
    refine Calls.spliced_cons (wpAny_Constant_str (k := j) (pos := q4) (Calls.spliced_nil ⟨hu, ?_⟩))
    have up2 : ∀ b o, h2.get? b = some o → (h2.push (kxs_mw "ValueError.__init__" x)).get? b = some o := fun b o e => Heap.get?_push_of_some _ e
    refine call_mw (up2 _ _ (X2 _ _ hC)) (up2 _ _ hx2) hu (by rw [sizeLine_eq]; exact (by decide : 1 ≤ 16777216)) fun h3 k3 e3 => ?_
    have hx3 : h3.get? x = some (excO C (h2.push (kxs_mw "ValueError.__init__" x)).objs.size) := e3
    have hnL : h3.Ns s.heap.objs.size (fun y => [((PySem.Str.ofString "self" : Str), Value.ref x), ((PySem.Str.ofString "value" : Str), v)].reverse.lookup y) := by
      obtain ⟨oL, es, ep, hL, r⟩ := hns
      exact ⟨oL, es, ep, k3 _ _ (fun z => absurd (z ▸ Heap.lt_size hx) (Nat.lt_irrefl _)) (up2 _ _ (k2 _ _ hL)), r⟩
    have X3 : K.In h3 := fun a o e => k3 a o (fun z => by rw [z, hnx] at e; cases e) (up2 _ _ (X2 a o e))
    have hcl' : clsIn K C = some { name := nm, bases := bs, mro := .ref C :: bm, ns := N, qualname := q, hasDict := true, slotNames := sn, subclasses := sub, abstract := ab, collection := col, hasDel := false } := by unfold clsIn; rw [hC] <;> rfl
    refine ks_wpAt_execs_cons (wpAt_of_wpAny (plainObj_wpAny_Assign_Attribute ?_))
    refine wpAny_Name (wpAny_loadName_local rfl rfl hnL rfl ?_) (by decide)
    refine wpAny_Name (wpAny_loadName_local rfl rfl hnL rfl ?_) (by decide)
    refine set_plain X3 (ox := excO C _) (od := none) ⟨hx3, rfl, rfl, trivial⟩ T.sa ?_
    refine exc_osa X3 hx3 hcl' (show refsVE (.ref C :: bm) = true from hbm) rfl T.noN (fun h4 tk4 dx k4 dn dne hx4 hn4 => ?_)
    exact wpAt_of_wpAny (wpAny_execs_nil (hq h4 _ dx _ (fun b o hb e => k4 b o hb (k3 b o hb (up2 _ _ (k2 _ _ (k b o e))))) hx4 (Nat.le_of_lt (Nat.lt_of_lt_of_le hnL.lt dn)) dne hn4))
theorem err_made (T : ErrTxt prog K C fI) {v : Value} (X : K.In s.heap) (hlim : s.heap.NoLimit) (hG : s.heap.Ns mainGlobals mg) (hsup : mg "super" = none) (hB : s.heap.Ns builtinsNs mb) (hb : mb "super" = some (.type "super")) (hroom : A.depth + 1 < recursionLimit)
    (hq : ∀ h' tk e d, ErrMade s.heap h' e C d v → R (.ok (.ret (.ref e))) { s with heap := h', toks := tk }) :
    codeAny (model prog w) A (.call (.ref C) ⟨[v], []⟩) R s := by
  obtain ⟨nm, q, N, bs, bm, sn, sub, ab, col, dd, k0, k1, k2, k3, k5, hC, hbm⟩ := T.cls
  obtain ⟨hp, g, dr, tk, os⟩ := s
  have k : ∀ b o, hp.get? b = some o → ((hp.push (kdv_tup [v])).push (excO C hp.objs.size)).get? b = some o := fun b o e => Heap.get?_push_of_some _ (Heap.get?_push_of_some _ e)
  have hget : ((hp.push (kdv_tup [v])).push (excO C hp.objs.size)).get? (hp.objs.size + 1) = some (excO C hp.objs.size) := by heap_get
  have hnx : K.lookup (hp.objs.size + 1) = none := by
    cases e : K.lookup (hp.objs.size + 1) with
    | none => rfl
    | some o =>
      have z : hp.get? (hp.objs.size + 1) = some o := X _ _ e
      exact absurd (Nat.lt_of_succ_lt (Heap.lt_size z)) (Nat.lt_irrefl _)
  refine call_own F.excBase_ValueError (fun X => refsVE_contains X bm hbm) (X _ _ hC) (looks_findIn X T.iC) (fun self => bind_fn X self T.tC) (by rw [sizeLine_eq]; exact (by decide : 1 ≤ 16777216)) ?_
  refine err_init (s := ⟨(hp.push (kdv_tup [v])).push (excO C hp.objs.size), g, dr, tk, os⟩) T (X.keeps k) (hlim.keeps k) (hG.keeps k) hsup (hB.keeps k) hb hget hnx ?_ fun h' tk' dx t1 k' hx dn dne hns => ?_
  · show A.depth + 1 < recursionLimit
    exact hroom
  · have old : ∀ b o, hp.get? b = some o → h'.get? b = some o := fun b o e => k' b o (Nat.ne_of_lt (Nat.lt_succ_of_lt (Heap.lt_size e))) (k b o e)
    have z : hp.objs.size + 1 + 1 ≤ dx := by
      first
        | (simpa only [Heap.size_push] using dn)
        | exact dn
        | (have q := dn; rw [Heap.size_push, Heap.size_push] at q; exact q)
    exact ⟨rfl, hq h' tk' (hp.objs.size + 1) dx ⟨old, Nat.le_succ _, ⟨_, _, hx, rfl, rfl, rfl, rfl, rfl⟩, Nat.le_trans (Nat.le_trans (Nat.le_succ _) (Nat.le_succ _)) z, dne, hns⟩⟩
end
end PLX
end PySem
namespace L2
open PySem PySem.Spec PyProof.Rows
theorem relO_err {v : V} {v' : Value} (r : RelV v v') (f : Str) : RelO (List.lookup f [(("value" : Str), v)]) (if f = "value" then some v' else none) := by
  by_cases hw : f = "value"
  · subst hw
    rw [if_pos rfl]
    have q : List.lookup ("value" : Str) [(("value" : Str), v)] = some v := by simp [List.lookup]
    rw [q]
    exact r
  · rw [if_neg hw]
    have qw : (f == ("value" : Str)) = false := by simpa using hw
    have q2 : List.lookup f [(("value" : Str), v)] = none := by simp [List.lookup, qw]
    rw [q2]
    trivial
section
variable {X : Cx} {C fI : Addr}
/-- E(e) -/
def tMkErr (C : Addr) (ta : TA) : St → Hp → XK → Prop := fun σ H Q => ta σ H fun vs H1 => ∃ v, vs = [v] ∧ ∀ d, H1 d = none → Q (.ref C) (some d) (upd H1 d (.xd [(("value" : Str), v)]))
theorem pmk_err {en : Str} {a : Expr} {ta : TA} {p pos : Pos} {k : Nat} (T : PySem.PLX.ErrTxt X.prog X.K C fI) (gC : X.mg en = some (.ref C)) (hsup : X.mg "super" = none) (hr : Room k X.A) (ha : PA X [a] ta) (hg : Gl X en) (hdb : (en == ("__debug__" : Str)) = false)
    (he : starEach (a :: []) X.env = (false, eval a X.env) :: starEach [] X.env := by rfl) (hpl : (backTo pos (starEach [] X.env)).any (·.1) = false := by rfl) :
    L2N.PMk X (.Call (.Name en p) [a] [] pos) (tMkErr C ta) := by
  intro pins s σ H Q I h
  refine wpAny_Call_Name_kw (ld_glob I hg gC ?_ hdb)
  refine PySem.W.callWith_K (h₀ := X.base) I.ok.mod.kin T.kC (thn (ha.run pos pins s σ H _ I h) fun us s1 hh => ?_) he hpl
  obtain ⟨vs, H1, I1, r1, v, ev, q1⟩ := hh
  subst ev
  refine ⟨I1.kIn, ?_⟩
  cases r1 with
  | cons rv rn =>
    rename_i v' us'
    cases rn
    show wpAny _ _ (call (.ref C) [v']) _ _ _
    have hlim := I1.nolimit
    have hG := I1.mod.glob.keeps I1.bk
    obtain ⟨mb, hB0, hb0⟩ := I1.mod.blt
    have hB := hB0.keeps I1.bk
    have hb : mb "super" = some (.type "super") := (hb0 "super" (by decide)).trans (by first | rfl | boot_by_name | kernel_rfl)
    obtain ⟨hp, g, dr, tk, os⟩ := s1
    refine wpAny_call (PySem.PLX.err_made T I1.kIn hlim hG hsup hB hb (by have := hr.dp; omega) fun h' tk' e d M => ?_)
    show L2N.MkP X pins σ Q (.ref e) ⟨h', g, dr, tk', os⟩
    obtain ⟨oe, fv, hoe, hc, hd, hdat, h1, h2⟩ := M.obj
    have hns := M.ns
    obtain ⟨G', g1, g2⟩ := restrict h' fun b => decide (b ≠ e)
    have gk : ∀ b, b ≠ e → G'.get? b = h'.get? b := fun b hb => g1 b (decide_eq_true hb)
    have ge : G'.get? e = none := g2 e (by simp)
    have old : ∀ b o, hp.get? b = some o → G'.get? b = some o := fun b o q => (gk b (Nat.ne_of_lt (Nat.lt_of_lt_of_le (Heap.lt_size q) M.new))).trans (M.keep b o q)
    have ob : ObjOk X.prog X.w (upd H1 d (.xd [(("value" : Str), v)])) G' d (.xd [(("value" : Str), v)]) :=
      ⟨_, hns.at (fun o q => (gk d M.dne).trans q), fun f => relO_err rv f⟩
    have J : Inv X pins σ (upd H1 d (.xd [(("value" : Str), v)])) ⟨G', g, dr, tk', os⟩ := I1.laid (t' := tk') old M.dbig ob
    refine ⟨e, oe, fv, ⟨G', g, dr, tk', os⟩, _, .ref C, some d, rfl, J, fun b o q => ?_, ge, hoe, ⟨hc, hd, fun ws e => by rw [hdat] at e; cases e; exact h2⟩, hdat, h1, ?_, rfl, I1.bare, raises_own T.exC T.tyC, q1 d (I1.hok.fresh M.dbig)⟩
    · by_cases hb : b = e
      · have q' : G'.get? b = some o := q
        rw [hb, ge] at q'; cases q'
      · exact (gk b hb).symm.trans q
    · rw [upd_ne (Ne.symm M.dne)]
      exact I1.hok.fresh M.new
/-- raise E(e) -/
def tRaiseErr (C : Addr) (W : WX) (ta : TA) : TS := fun _ σ H => tMkErr C ta σ H fun cls d H' => W cls d σ H'
theorem ps_raiseErr {en : Str} {a : Expr} {ta : TA} {W : WX} {p pos pos2 : Pos} {k : Nat} (hc : X.calm = true) (T : PySem.PLX.ErrTxt X.prog X.K C fI) (gC : X.mg en = some (.ref C)) (hsup : X.mg "super" = none) (hr : Room k X.A) (tk : L2N.Takes X W) (ha : PA X [a] ta) (hg : Gl X en) (hdb : (en == ("__debug__" : Str)) = false)
    (he : starEach (a :: []) X.env = (false, eval a X.env) :: starEach [] X.env := by rfl) (hpl : (backTo pos (starEach [] X.env)).any (·.1) = false := by rfl) :
    PS X (.Raise (some (.Call (.Name en p) [a] [] pos)) none pos2) (tRaiseErr C W ta) := L2N.ps_raise hc tk (pmk_err T gC hsup hr ha hg hdb he hpl)
/-- e.value, e the exception that the suite holds (at a; its class cls, its dict d) -/
def tByErr (C : Addr) (a : Addr) (cls : Value) (d : Option Addr) (te : TE) : TE := fun σ H Q => te σ H fun x H1 => x = .ref a ∧ cls = .ref C ∧ ∃ (dd : Addr) (v : V), d = some dd ∧ H1 dd = some (.xd [(("value" : Str), v)]) ∧ Q v H1
theorem pe_byErr {a : Addr} {oe : Obj} {cls : Value} {d : Option Addr} {e : Expr} {te : TE} {pos : Pos} (T : PySem.PLX.ErrTxt X.prog X.K C fI) (hp : (a, oe) ∈ X.pn) (hz : L2N.Zn cls d oe) (hf : ∃ vs, oe.data = .fields vs) (he : PE X e te)
    (hb : attributeBase e "value" X.env (eval e X.env) = eval e X.env := by rfl) :
    PE X (.Attribute e "value" pos) (tByErr C a cls d te) := by
  refine ⟨fun pins s σ H Q I h => ?_⟩
  refine attr_of hb (thn (he.run pins s σ H _ I h) fun u s1 hh => ?_)
  obtain ⟨x, H1, I1, rx, ex, ec, dd, v, ed, ea, q⟩ := hh
  subst ex
  obtain rfl : u = Value.ref a := rx
  subst ec
  subst ed
  obtain ⟨ha, _⟩ := I1.pin (a, oe) (List.mem_append_left _ hp)
  obtain ⟨vs, hd⟩ := hf
  have hx : ObjOk X.prog X.w H1 s1.heap dd (.xd [(("value" : Str), v)]) := I1.hok dd _ ea
  obtain ⟨mA, hns, hr⟩ := hx
  obtain ⟨od, ho, hl⟩ := lookIn_ns hns
  have l : List.lookup ("value" : Str) [(("value" : Str), v)] = some v := by simp [List.lookup]
  obtain ⟨u, hu, ru⟩ := RelO.some_of (v := v) (o := mA "value") (by rw [← l]; exact hr "value")
  have J : PySem.W.InstAt s1.heap a oe C (some od) := ⟨ha, hz.1, by unfold PySem.W.notCls; rw [hd] <;> rfl, by rw [hz.2.1]; exact ho⟩
  exact HandSPX.exc_get I1.kIn J T.ga T.gg T.exC (PySem.W.findObj_own T.hdC T.noN rfl (by rw [hl, hu])) (handed_of ru) ⟨v, H1, I1.tok _, ru, q⟩
end
end L2

namespace PL
open PySem PySem.Spec PyProof.Rows L2
/-! ### 78. defs that may raise an own error: what is wanted of it stands beside; errors are told by numbers, ec tells their classes -/
abbrev PXR := Nat → PyData → PEnv → Prop
abbrev SpX := List Sl → (Sl → List Sl → Prop) → (Nat → PyData → List Sl → Prop) → Prop
abbrev ECl := Nat → Option Addr
/-- an own error of the class at C that keeps v, its dict at dd -/
def errH (H : Hp) (dd : Addr) (v : V) : Hp := upd H dd (.xd [(("value" : Str), v)])
def liftSpX (K : PySem.W.Frag) (ec : ECl) (n : Nat) (fx : List Nat) (sp : SpX) : Sp := fun vs H Q E => vs.length = n ∧ ∃ F args As Q' R, (∀ i c, args[i]? = some (.m c) → i ∈ fx) ∧ SR K (entOf fx F H vs As) F H (vs.map some) args As ∧ sp args Q' R ∧
  (∀ v r ar F' H' args' As', SR K (entOf fx F H vs As) F' H' (vs.map some) args' As' → RsOk K (entOf fx F H vs As) F' H' As' v r ar → Q' r args' → Q v H') ∧
  ∀ k C d v dd F' H' args' As', ec k = some C → SR K (entOf fx F H vs As) F' H' (vs.map some) args' As' → Fp F' v d → H' dd = none → R k d args' → E (.ref C) (some dd) (errH H' dd v)
def spOfX (fx : List Nat) (nl : Nat) (body : PXR → PSt) : SpX := fun args Q R => body (fun k d env => R k d (outs fx args env)) { nx := fun env => Q (.v .none) (outs fx args env), rt := fun r env => Q r (outs fx args env) } (args ++ List.replicate nl .un)
def pNoX : PXR := fun _ _ _ => False
/-- a def that may raise, where it doesn't -/
def noX (sp : SpX) : SpP := fun args Q => sp args Q fun _ _ _ => False
/-- what a body's raise meets -/
def Lk (K : PySem.W.Frag) (E : Ent) (ec : ECl) (n : Nat) (RX : PXR) (W : WX) : Prop := ∀ k C d v dd F' H' σ' env' As', ec k = some C → σ'.length = n → FixIn E σ' → SR K E F' H' σ' env' As' → Fp F' v d → H' dd = none → RX k d env' → W (.ref C) (some dd) σ' (errH H' dd v)
theorem lk_no {K : PySem.W.Frag} {E : Ent} {ec : ECl} {n : Nat} {W : WX} : Lk K E ec n pNoX W := fun _ _ _ _ _ _ _ _ _ _ _ _ _ _ _ _ q => q.elim
theorem takesNo {X : Cx} : L2N.Takes X (fun _ _ _ _ => False) := fun _ _ x => by
  obtain ⟨_, _, _, _, _, _, _, _, _, _, _, _, _, _, _, _, z⟩ := x
  exact z.elim
/-- the first n slots -/
theorem SR.cut {K : PySem.W.Frag} {E : Ent} {F H : Hp} {σ ts : L2.St} {env : PEnv} {As : Nat → List Addr} (S : SR K E F H (σ ++ ts) env As) (fx : FixIn E σ) : SR K E F H σ (env.take σ.length) (fun i => if i < σ.length then As i else []) := by
  have hl := S.len
  rw [List.length_append] at hl
  have inA : ∀ {i : Nat} {a : Addr}, a ∈ (if i < σ.length then As i else []) → i < σ.length ∧ a ∈ As i := fun {i a} h => by
    by_cases c : i < σ.length
    · rw [if_pos c] at h
      exact ⟨c, h⟩
    · rw [if_neg c] at h
      cases h
  refine ⟨S.sub, S.f0, S.grow, S.keep, ?_, fun i s e => ?_, fun i h => ?_, fun i a h => S.own i a (inA h).2, fun i => ?_, fun i j a ne h1 h2 => S.disj i j a ne (inA h1).2 (inA h2).2, fun i v e => ?_⟩
  · rw [List.length_take]
    omega
  · have hi : i < σ.length := by
      have z := (List.getElem?_eq_some_iff.mp e).1
      rw [List.length_take] at z
      omega
    rw [List.getElem?_take_of_lt hi] at e
    obtain ⟨x, h1, h2⟩ := S.slot i s e
    rw [List.getElem?_append_left hi] at h1
    exact ⟨x, h1, by rw [if_pos hi]; exact h2⟩
  · refine if_neg fun z => ?_
    rw [List.length_take] at h
    omega
  · by_cases c : i < σ.length
    · rw [if_pos c]; exact S.nd i
    · rw [if_neg c]; exact List.nodup_nil
  · have z := S.fix i v e
    rw [List.getElem?_append_left (fx i v e)] at z
    exact z
section
variable {P : Program} {w : World} {K : PySem.W.Frag} {mg : Str → Option Value} {base : Heap} {ec : ECl}
theorem fng_liftX {x qual : Str} {st : Stmt} {f : Addr} {fd : FuncData} {N ps : List Str} {k n nl : Nat} {fx : List Nat} {body : PXR → PSt} (Fn : Fun K x qual st f fd) (S : FnScope N ps (defScope st)) (hps : ps.length = n) (hN : N.length = n + nl)
    (hbody : ∀ (cdv : Value) (A : Around) (outer : List Env) (s : Shared) (H : Hp) (E0 : XK) (E : Ent) (RX : PXR) (W : WX), (∀ i, i ∉ fx → E.fix i = none) → Room k (A.deeper (envOfC qual (defScope st) s.heap.objs.size f cdv)) → (A.deeper (envOfC qual (defScope st) s.heap.objs.size f cdv)).guards = some [] →
      L2N.Takes (cxOf (L2N.CX P w) P w K mg base N qual (defScope st) f cdv A outer s H E0) W → Lk K E ec N.length RX W → PSs (cxOf (L2N.CX P w) P w K mg base N qual (defScope st) f cdv A outer s H E0) (defBody st) (liftS K E (body RX))) : FnG P w K mg base (L2N.CX P w) (k + 1) f fd ps (liftSpX K ec n fx (spOfX fx nl body)) := by
  refine fng_of Fn S (fun vs H Q E h => by rw [hps]; exact h.1) fun cdv A outer s H vs Q E0 hr hg hsp => ?_
  obtain ⟨hl, F, args, As, Q', R, hm, SS, p, kn, kx⟩ := hsp
  refine ⟨_, hbody cdv A outer s H E0 (entOf fx F H vs As) (fun k d env => R k d (outs fx args env)) (fun cls d _ H => E0 cls d H) (fun i hi => if_neg hi) hr hg (L2N.takes_of rfl rfl rfl rfl) ?_, ?_⟩
  · intro k C d v dd F' H' σ' env' As' hc _ _ S' hv hd q
    exact kx k C d v dd F' H' _ _ hc (SR.finish hm SS S') hv hd q
  obtain ⟨S1, fx1⟩ := SR.begin0 (N := N) SS nl (by omega)
  refine ⟨F, _, As, _, S1, fx1, p, ?_, ?_, ?_, ?_⟩
  · intro σ' F' H' env' As' _ S' f q
    exact kn .non (.v .none) [] F' H' _ _ (SR.finish hm SS S') (RsOk.v Fp.non) q
  · exact fun _ _ _ _ _ _ _ _ q => q.elim
  · exact fun _ _ _ _ _ _ _ _ q => q.elim
  · intro σ' F' H' env' As' _ S' f v r ar R q
    refine kn v r ar F' H' _ _ (SR.finish hm SS S') ⟨R.1, R.2.1, R.2.2.1, fun i a ha z => ?_⟩ q
    have z' : a ∈ (if i ∈ fx ∧ i < args.length then As' i else []) := z
    by_cases c : i ∈ fx ∧ i < args.length
    · rw [if_pos c] at z'
      exact R.2.2.2 i a ha z'
    · rw [if_neg c] at z'
      cases z'
/-- where it doesn't raise, it is as the others -/
theorem fng_noX {f : Addr} {fd : FuncData} {ps : List Str} {k n : Nat} {fx : List Nat} {sp : SpX} (G : FnG P w K mg base (L2N.CX P w) k f fd ps (liftSpX K ec n fx sp)) : FnG P w K mg base CX0 k f fd ps (liftSp K n fx (noX sp)) := by
  have tr : ∀ vs H Q E, liftSp K n fx (noX sp) vs H Q E → liftSpX K ec n fx sp vs H Q (fun _ _ _ => False) := fun vs H Q E ⟨hl, F, args, As, Q', hm, S, p, kn⟩ => ⟨hl, F, args, As, Q', _, hm, S, p, kn, fun _ _ _ _ _ _ _ _ _ _ _ _ _ q => q⟩
  refine ⟨fun vs H Q E h => G.len vs H Q _ (tr vs H Q E h), fun A outer s H args us vs Q E hr hg e0 hb r h => codeAny_mono (G.run A outer s H args us vs Q _ hr hg e0 hb r (tr vs H Q E h)) fun r s' hq => ?_⟩
  cases r with
  | error e =>
    obtain ⟨_, _, _, _, _, _, _, _, _, _, _, _, z⟩ := hq
    exact z.elim
  | ok fl =>
    cases fl with
    | ret u => exact hq
    | next => exact hq
    | brk => exact hq
    | cont => exact hq
section
variable {X : Cx} {E : Ent} {C fI : Addr}
/-- raise E(e) -/
def pRaise (RX : PXR) (k : Nat) (pa : PX) : PSt := fun _ env => pa env fun d env1 => RX k d env1
theorem ls_raise {en : Str} {a : Expr} {W : WX} {RX : PXR} {pa : PX} {p pos pos2 : Pos} {k kc : Nat} (hc : X.calm = true) (T : PySem.PLX.ErrTxt X.prog X.K C fI) (gC : X.mg en = some (.ref C)) (hsup : X.mg "super" = none) (hr : Room k X.A) (tk : L2N.Takes X W) (lk : Lk X.K E ec X.N.length RX W) (hk : ec kc = some C) (hg : Gl X en) (hdb : (en == ("__debug__" : Str)) = false)
    (ha : PE X a (liftE X.K E pa)) (he : starEach (a :: []) X.env = (false, eval a X.env) :: starEach [] X.env := by rfl) (hpl : (backTo pos (starEach [] X.env)).any (·.1) = false := by rfl) :
    PS X (.Raise (some (.Call (.Name en p) [a] [] pos)) none pos2) (liftS X.K E (pRaise RX kc pa)) := by
  refine ⟨fun pins s σ H D I ⟨F, env, As, D', S, fx, q, kk⟩ => (ps_raiseErr hc T gC hsup hr tk (pa_cons ha pa_nil (hs := he)) hg hdb he hpl).run pins s σ H D I ?_⟩
  refine ⟨[], F, env, As, _, app_nil_SR S, fx, q, fun v d F1 H1 env1 As1 S1 f1 hv q => ?_⟩
  exact ⟨v, rfl, fun dd hd => lk kc C d v dd F1 H1 _ _ _ hk I.len fx (nil_app_SR S1) hv hd q⟩
/-- f(e, ..) of a def that may raise -/
def pCallX (nS n : Nat) (fx : List Nat) (sp : SpX) (RX : PXR) (pa : PAs) : PO := fun env Q => pa env fun gs env1 => gs.length = n ∧ (lentIn fx 0 gs = true ∧ (lents gs).Nodup) ∧ sp (argsOf env1 gs) (fun r args' => Q r (backA env1 gs args')) fun k d args' => RX k d ((backA env1 gs args').take nS)
theorem run_gS {CX : CXT} {k : Nat} {f : Addr} {fd : FuncData} {ps : List Str} {sp : Sp} {E0 : XK} {pins : List (Addr × Obj)} {σ : L2.St} {H : Hp} {s : Shared} {Q : VK} {args : Args} {us : List Value} {vs : List V} (G : FnG X.prog X.w X.K X.mg X.base CX k f fd ps sp) (hr : Room k X.A) (hg : X.A.guards = some []) (hx : PassesAt CX X σ E0)
    (I : Inv X pins σ H s) (r : Vals vs us) (hb : us.length = ps.length → BindsTo s fd args (ps.zip us)) (h : sp vs H Q E0) : wpAny (model X.prog X.w) X.A (call (.ref f) args.pos args.kw) (EP X pins σ Q) X.xe s := by
  have hl : us.length = ps.length := by rw [← r.length]; exact G.len _ _ _ _ h
  refine wpAny_call (codeAny_mono (G.run X.A X.stack s H args us vs Q E0 hr hg I.env0 (hb hl) r h) fun r s' hq => ?_)
  cases r with
  | error e => exact hx pins H s e s' I hq
  | ok fl =>
    cases fl with
    | ret u => exact I.after hq
    | next => exact False.elim hq
    | brk => exact False.elim hq
    | cont => exact False.elim hq
theorem pe_callGS {CX : CXT} {k : Nat} {f : Addr} {fd : FuncData} {ps : List Str} {sp : Sp} {E0 : L2.St → XK} {x : Str} {p pos : Pos} {e : Expr} {es : List Expr} {t : TA} (G : FnG X.prog X.w X.K X.mg X.base CX k f fd ps sp) (hr : Room k X.A) (hg : X.A.guards = some []) (hgl : Gl X x) (hm : X.mg x = some (.ref f)) (hk : PySem.W.keepIn X.K (.ref f) = true) (hb : Binds X.K fd ps []) (hx : ∀ σ, PassesAt CX X σ (E0 σ))
    (ha : PA X (e :: es) t) (hdb : (x == ("__debug__" : Str)) = false := by decide) (he : starEach (e :: es) X.env = (false, eval e X.env) :: starEach es X.env := by rfl) (hpl : (backTo pos (starEach es X.env)).any (·.1) = false := by rfl) :
    PE X (.Call (.Name x p) (e :: es) [] pos) (fun σ H Q => t σ H fun vs H1 => sp vs H1 Q (E0 σ)) := by
  refine ⟨fun pins s σ H Q I h => ?_⟩
  refine wpAny_Call_Name_kw (ld_glob I hgl hm ?_ hdb)
  refine PySem.W.callWith_K (h₀ := X.base) I.ok.mod.kin hk (thn (ha.run pos pins s σ H _ I h) fun us s1 ⟨vs, H1, I1, r, q⟩ => ⟨I1.kIn, ?_⟩) he hpl
  exact run_gS (args := ⟨us, []⟩) G hr hg (hx σ) I1 r (fun hl => by
    have z := hb s1 us I1.kIn (by rw [List.append_nil]; exact hl)
    rw [List.append_nil] at z
    exact z) q
theorem l_callX {k n nS : Nat} {f : Addr} {fd : FuncData} {ps : List Str} {fx : List Nat} {sp : SpX} {x : Str} {p pos : Pos} {e : Expr} {es : List Expr} {pa : PAs} {W : WX} {RX : PXR} (hN : X.N.length = nS) (G : FnG X.prog X.w X.K X.mg X.base (L2N.CX X.prog X.w) k f fd ps (liftSpX X.K ec n fx sp)) (hr : Room k X.A) (hg : X.A.guards = some [])
    (hgl : Gl X x) (hm : X.mg x = some (.ref f)) (hk : PySem.W.keepIn X.K (.ref f) = true) (hb : Binds X.K fd ps []) (tk : L2N.Takes X W) (lk : Lk X.K E ec X.N.length RX W) (ha : PA X (e :: es) (liftA X.K E pa))
    (hdb : (x == ("__debug__" : Str)) = false := by decide) (he : starEach (e :: es) X.env = (false, eval e X.env) :: starEach es X.env := by rfl) (hpl : (backTo pos (starEach es X.env)).any (·.1) = false := by rfl) :
    PE X (.Call (.Name x p) (e :: es) [] pos) (liftO X.K E (pCallX nS n fx sp RX pa)) := by
  refine ⟨fun pins s σ H Q I ⟨ts, F, env, As, Q', S, fi, q0, kk⟩ => (pe_callGS (E0 := WE W) G hr hg hgl hm hk hb (L2N.passAt tk) ha hdb he hpl).run pins s σ H Q I ⟨ts, F, env, As, _, S, fi, q0, fun vs gs F1 H1 env1 As1 S1 f1 P ⟨hl, ⟨l, nd⟩, q⟩ => ?_⟩⟩
  obtain ⟨hm', SL⟩ := S1.lend P nd l
  refine ⟨by rw [Paired.length P]; exact hl, F1, _, _, _, _, hm', SL, q, fun v r ar F' H' args' As' S' R q' => ?_, fun k C d v dd F' H' args' As' hc S' hv hd q' => ?_⟩
  · obtain ⟨SB, RB⟩ := S1.back P nd S' R
    exact kk v r ar F' H' _ _ SB (f1.trans S'.f0) RB q'
  · obtain ⟨SB, _⟩ := S1.back P nd S' (RsOk.v (v := .non) Fp.non)
    have hl' : σ.length = nS := I.len.trans hN
    exact lk k C d v dd F' H' _ _ _ hc I.len fi (SB.cut fi) hv hd (by rw [hl']; exact q')
end
end
end PL

namespace PL
open PySem PySem.Spec PyProof.Rows L2
/-! ### 79. try: .. except E as e: .. -/
/-- the entry of an except suite: slot i holds the error, whose value is v -/
structure ErI (E E' : Ent) (i : Nat) (a dd : Addr) (v : V) (d : PyData) : Prop where
  fixi : E'.fix i = some (.ref a)
  fixo : ∀ j, j ≠ i → E'.fix j = E.fix j
  at_ : E'.H0 dd = some (.xd [(("value" : Str), v)])
  nb : ¬ E'.B dd
  fp : Fp E'.F0 v d
def PEnds.behind (D : PEnds) (i : Nat) : PEnds := { nx := fun env => D.nx (env.set i .un), rt := D.rt, bk := fun env => D.bk (env.set i .un), ct := fun env => D.ct (env.set i .un) }
def pTryAs (i : Nat) (cs : Nat → Option Bool) (RX : PXR) (pb : PXR → PSt) (pu : Nat → PyData → PSt) : PSt := fun D env =>
  pb (fun k d env1 => (cs k = some true ∧ pu k d (D.behind i) (env1.set i .un)) ∨ (cs k = some false ∧ RX k d env1)) D env
section
variable {K : PySem.W.Frag} {E : Ent} {F H : Hp} {σ : L2.St} {env : PEnv} {As : Nat → List Addr}
theorem SR.setUn (S : SR K E F H σ (env.set i .un) As) (hf : E.fix i = none) (x : Option V) : SR K E F H (σ.set i x) (env.set i .un) As where
  sub := S.sub
  f0 := S.f0
  grow := S.grow
  keep := S.keep
  len := by rw [List.length_set]; exact S.len
  slot := fun j s e => by
    obtain ⟨y, h1, h2⟩ := S.slot j s e
    by_cases c : i = j
    · subst c
      have hl := (List.getElem?_eq_some_iff.mp h1).1
      have hl2 : i < env.length := by
        have z := S.len
        rw [List.length_set] at z
        omega
      rw [List.getElem?_set_self hl2] at e
      cases e
      exact ⟨x, List.getElem?_set_self hl, h2⟩
    · exact ⟨y, by rw [List.getElem?_set_ne c]; exact h1, h2⟩
  out := S.out
  own := S.own
  nd := S.nd
  disj := S.disj
  fix := fun j v e => by
    have c : i ≠ j := fun z => by
      rw [← z, hf] at e
      cases e
    rw [List.getElem?_set_ne c]
    exact S.fix j v e
end
section
variable {X : Cx} {E : Ent} {ec : ECl}
theorem ls_tryAs {x n : Str} {c : Value} {i : Nat} {body suite : List Stmt} {b₀ : Stmt} {np pos pos' : Pos} {cs : Nat → Option Bool} {RX : PXR} {Wout : WX} {pb : PXR → PSt} {pu : Nat → PyData → PSt}
    (hs : X.stack = X.env :: X.outer) (hf : X.env.frame = some X.env.locals) (hN : X.N.Nodup) (hi : X.N[i]? = some n) (hln : X.env.kindOf n = some .local) (hc : Names X x c) (hcs : ∀ k C b, ec k = some C → cs k = some b → PySem.W.exmOne X.K (.ref C) c = some b) (hfi : E.fix i = none)
    (tk : L2N.Takes X Wout) (lk : Lk X.K E ec X.N.length RX Wout)
    (hb : ∀ (W : WX) (pn : List (Addr × Obj)) (xe : Value → Shared → Prop) (R : PXR) (E' : Ent), E'.fix = E.fix → L2N.Takes (X.tr pn xe) W → PassesOwn (model X.prog X.w) X.A X.env xe → Lk X.K E' ec X.N.length R W → PSs (X.tr pn xe) body (liftS X.K E' (pb R)))
    (hsu : ∀ (a dd : Addr) (oe : Obj) (k : Nat) (C : Addr) (v : V) (d : PyData) (pn : List (Addr × Obj)) (E' : Ent), ec k = some C → cs k = some true → L2N.Zn (.ref C) (some dd) oe → (∃ vs, oe.data = .fields vs) → ErI E E' i a dd v d → PSs (X.suite a ((a, oe) :: pn)) (b₀ :: suite) (liftS X.K E' (pu k d))) :
    PS X (.Try body [.ExceptHandler (some (.Name x np)) (some n) (b₀ :: suite) pos'] [] [] pos) (liftS X.K E (pTryAs i cs RX pb pu)) := by
  refine ⟨fun pins s σ H D I ⟨F, env, As, D', S, fx, q, kk⟩ => (L2N.ps_try_as (i := i) (c := c) (tb := fun W D σ H => ∃ R E', E'.fix = E.fix ∧ Lk X.K E' ec X.N.length R W ∧ liftS X.K E' (pb R) D σ H)
    (ts := fun a cls d D σ H => ∃ k C dd v pd E', ec k = some C ∧ cls = .ref C ∧ d = some dd ∧ cs k = some true ∧ ErI E E' i a dd v pd ∧ liftS X.K E' (pu k pd) D σ H) (Wout := Wout) hs hf hN hi hln hc tk
    (fun W pn xe t po => ⟨fun pins s σ H D I ⟨R, E', he, lk, l⟩ => (hb W pn xe R E' he t po lk).run pins s σ H D I l⟩)
    (fun a oe cls d pn hz hv => ⟨fun pins s σ H D I ⟨k, C, dd, v, pd, E', hk, ec1, ed, hc1, er, l⟩ => by
      subst ec1
      subst ed
      exact (hsu a dd oe k C v pd pn E' hk hc1 hz hv er).run pins s σ H D I l⟩)).run pins s σ H D I ?_⟩
  have hiN : i < X.N.length := (List.getElem?_eq_some_iff.mp hi).1
  refine ⟨_, reE E F H As, rfl, ?_, F, env, As, D', S.re, fx.re, q, ⟨fun σ' F' H' env' As' hl S' f p => kk.nx σ' F' H' env' As' hl (S.unre S') f p, fun σ' F' H' env' As' hl S' f p => kk.bk σ' F' H' env' As' hl (S.unre S') f p,
    fun σ' F' H' env' As' hl S' f p => kk.ct σ' F' H' env' As' hl (S.unre S') f p, fun σ' F' H' env' As' hl S' f v r ar R p => kk.rt σ' F' H' env' As' hl (S.unre S') f v r ar (RsOk.unre S R) p⟩⟩
  intro k C d v dd F1 H1 σ1 env1 As1 hk hl fi S1 hv hd hR
  rcases hR with ⟨h, hR⟩ | ⟨h, hR⟩
  · refine ⟨true, hcs k C true hk h, fun _ a na => ?_, fun z => nomatch z⟩
    have S0 := S.unre S1
    have hF : F1 dd = none := by
      cases e : F1 dd with
      | none => rfl
      | some u =>
        rw [S0.sub dd u e] at hd
        cases hd
    have S2 : SR X.K E F1 (errH H1 dd v) σ1 env1 As1 := S0.other hF (fun j hm => S0.live j dd hm hd) (S0.free hd).symm
    have S3 := S2.blank i
    have S4 := S3.setUn hfi (some (.ref a))
    refine ⟨k, C, dd, v, d, { reE E F1 (errH H1 dd v) (setA As1 i []) with fix := fun j => if j = i then some (.ref a) else E.fix j }, hk, rfl, rfl, h, ⟨if_pos rfl, fun j hj => if_neg hj, upd_same, fun ⟨j, hj⟩ => ?_, hv⟩, F1, env1.set i .un, setA As1 i [], D'.behind i, ?_, ?_, hR, ?_⟩
    · have : dd ∈ As1 j := by
        unfold setA at hj
        split at hj
        · cases hj
        · exact hj
      exact S0.live j dd this hd
    · have z := S4.re
      refine ⟨z.sub, z.f0, z.grow, z.keep, z.len, z.slot, z.out, z.own, z.nd, z.disj, fun j w e => ?_⟩
      by_cases c : j = i
      · have e' : (if j = i then some (V.ref a) else E.fix j) = some w := e
        rw [if_pos c] at e'
        cases e'
        rw [c]
        exact List.getElem?_set_self (by omega)
      · have e' : (if j = i then some (V.ref a) else E.fix j) = some w := e
        rw [if_neg c] at e'
        exact z.fix j w e'
    · intro j w e
      have e' : (if j = i then some (V.ref a) else E.fix j) = some w := e
      rw [List.length_set]
      by_cases c : j = i
      · omega
      · rw [if_neg c] at e'
        exact fi j w e'
    · have back : ∀ {σ' : L2.St} {F' H' : Hp} {env' : PEnv} {As' : Nat → List Addr}, SR X.K { reE E F1 (errH H1 dd v) (setA As1 i []) with fix := fun j => if j = i then some (.ref a) else E.fix j } F' H' σ' env' As' → SR X.K E F' H' σ' env' As' := fun {σ' F' H' env' As'} S' => by
        refine S4.unre (As' := As') ⟨S'.sub, S'.f0, S'.grow, S'.keep, S'.len, S'.slot, S'.out, S'.own, S'.nd, S'.disj, fun j w e => ?_⟩
        have e1 : E.fix j = some w := e
        have c : j ≠ i := fun z => by
          rw [z, hfi] at e1
          cases e1
        exact S'.fix j w ((if_neg c).trans e1)
      have off : ∀ {σ' : L2.St} {F' H' : Hp} {env' : PEnv} {As' : Nat → List Addr}, SR X.K E F' H' σ' env' As' → SR X.K E F' H' (σ'.set i none) (env'.set i .un) (setA As' i []) := fun {σ' F' H' env' As'} S' => (S'.blank i).setUn hfi none
      have ll : ∀ {σ' : L2.St}, σ'.length = (σ1.set i (some (V.ref a))).length → σ'.length = σ.length := fun {σ'} z => by
        rw [List.length_set] at z
        rw [z, hl, I.len]
      have ff : ∀ {F' : Hp}, Same F1 F' → Same F F' := fun z => Same.trans S1.f0 z
      exact ⟨fun σ' F' H' env' As' hl' S' f p => kk.nx _ F' H' _ _ (by rw [List.length_set]; exact ll hl') (off (back S')) (ff f) p,
        fun σ' F' H' env' As' hl' S' f p => kk.bk _ F' H' _ _ (by rw [List.length_set]; exact ll hl') (off (back S')) (ff f) p,
        fun σ' F' H' env' As' hl' S' f p => kk.ct _ F' H' _ _ (by rw [List.length_set]; exact ll hl') (off (back S')) (ff f) p,
        fun σ' F' H' env' As' hl' S' f v r ar R p => kk.rt σ' F' H' env' As' (ll hl') (back S') (ff f) v r ar (RsOk.unre S4 R) p⟩
  · exact ⟨false, hcs k C false hk h, (fun z => nomatch z), fun _ => lk k C d v dd F1 H1 σ1 env1 As1 hk hl fi (S.unre S1) hv hd hR⟩
/-- e.value in the suite -/
def pByErr (d : PyData) : PX := fun env Q => Q d env
theorem l_byErr {E0 E' : Ent} {a dd C : Addr} {oe : Obj} {v : V} {d : PyData} {n : Str} {i : Nat} {p2 pos : Pos} (hp : (a, oe) ∈ X.pn) (T : ∃ fI, PySem.PLX.ErrTxt X.prog X.K C fI) (hz : L2N.Zn (.ref C) (some dd) oe) (hf : ∃ vs, oe.data = .fields vs) (er : ErI E0 E' i a dd v d) (he : PE X (.Name n p2) (tVar i))
    (hb : attributeBase (.Name n p2) "value" X.env (eval (.Name n p2) X.env) = eval (.Name n p2) X.env := by rfl) :
    PE X (.Attribute (.Name n p2) "value" pos) (liftE X.K E' (pByErr d)) := by
  obtain ⟨fI, T⟩ := T
  refine pe_w (pe_byErr T hp hz hf he hb) fun σ H Q ⟨ts, F, env, As, Q', S, fx, q, k⟩ => ?_
  have e1 := S.fix i _ er.fixi
  rw [List.getElem?_append_left (fx i _ er.fixi)] at e1
  exact ⟨_, e1, rfl, rfl, dd, v, rfl, S.keep dd _ er.at_ er.nb, k v d F H env As S (Same.refl F) (er.fp.to S.f0) q⟩
end
end PL

/-! texts: str(n), join, split, + and * of texts, signs, names of a module's constants, and `x, *more = ..` -/
namespace PL
open PySem PySem.Spec PyProof.Rows L2

section
variable {X : Cx} {E : Ent} {K : PySem.W.Frag}
/-! ### constants of the module -/
theorem l_globS {x v : Str} {pos : Pos} (hg : Gl X x) (hm : ∃ t, X.mg x = some (.str v t)) (hd : (x == ("__debug__" : Str)) = false := by decide) : PE X (.Name x pos) (liftE X.K E (pC (.str v))) := by
  obtain ⟨t, hm⟩ := hm
  exact l_const (pe_glob (v := .str v) hg hm ⟨t, rfl⟩ hd) fun _ => .str v
theorem l_globI {x : Str} {v : Int} {pos : Pos} (hg : Gl X x) (hm : ∃ t, X.mg x = some (.int v t)) (hd : (x == ("__debug__" : Str)) = false := by decide) : PE X (.Name x pos) (liftE X.K E (pC (.int v))) := by
  obtain ⟨t, hm⟩ := hm
  exact l_const (pe_glob (v := .int v) hg hm ⟨t, rfl⟩ hd) fun _ => .int v

/-! ### str(n), int(text) -/
def strD : List PyData → (Sl → Prop) → Prop
  | [.int i], P => i.natAbs.log2 < 1920 ∧ P (.v (.str (PySem.Str.ofString (toString i))))
  | _, _ => False
theorem o_str : OpL K (fun xs H Q => ∃ i, xs = [.int i] ∧ i.natAbs.log2 < 1920 ∧ Q (.str (PySem.Str.ofString (toString i))) H) strD := by
  intro F H xs ds Q P s h p k
  unfold strD at p
  split at p
  · obtain ⟨v, rfl, hv⟩ := h.one
    exact ⟨_, by rw [hv.int_inv], p.1, k.flat s (.str _) p.2⟩
  · exact p.elim
def intSD : List PyData → (Sl → Prop) → Prop
  | [.str a], P => ∃ n, PySem.intText? a = some n ∧ a.length ≤ 640 ∧ P (.v (.int n))
  | ds, P => intD ds P
theorem c_intS : CallR X (.type "int") (fun xs H Q => ((∃ i, xs = [.int i] ∧ Q (.int i) H) ∨ ∃ k, xs = [.bl k] ∧ Q (.int (if k then 1 else 0)) H) ∨ ∃ a n, xs = [.str a] ∧ PySem.intText? a = some n ∧ a.length ≤ 640 ∧ Q (.int n) H) := call_int1.or call_int_str
theorem o_intS : OpL K (fun xs H Q => ((∃ i, xs = [.int i] ∧ Q (.int i) H) ∨ ∃ k, xs = [.bl k] ∧ Q (.int (if k then 1 else 0)) H) ∨ ∃ a n, xs = [.str a] ∧ PySem.intText? a = some n ∧ a.length ≤ 640 ∧ Q (.int n) H) intSD := by
  intro F H xs ds Q P s h p k
  unfold intSD at p
  split at p
  · obtain ⟨v, rfl, hv⟩ := h.one
    obtain ⟨n, e, hl, q⟩ := p
    exact .inr ⟨_, n, by rw [hv.str_inv], e, hl, k.flat s (.int _) q⟩
  · exact .inl (o_int F H xs _ Q P s h p k)

/-! ### lists of texts -/
def rSplit : R2 := fun x y H Q => ∃ a b, x = .str a ∧ y = .str b ∧ (b.length == 0) = false ∧ a.length + 2 ≤ sizeLine ∧ rNewStrs (Txt.split a b) H Q
def rJoin (K : PySem.W.Frag) : R2 := fun x y H Q => ∃ a p, ∃ ys : List Str, x = .str a ∧ y = .ref p ∧ (SqL K H p (ys.map V.str) ∨ SqT K H p (ys.map V.str)) ∧ (ys.map (·.length)).sum + ys.length * a.length ≤ 16777216 ∧ Q (.str (Txt.join a ys)) H
def splitD : PyData → PyData → (Sl → Prop) → Prop
  | .str a, .str b, P => ((b.length == 0) = false ∧ a.length + 2 ≤ sizeLine) ∧ P (.m (.ol ((Txt.split a b).map .str)))
  | _, _, _ => False
def joinD : PyData → PyData → (Sl → Prop) → Prop
  | .str a, .list ds, P => ∃ ys : List Str, ds = ys.map .str ∧ (ys.map (·.length)).sum + ys.length * a.length ≤ 16777216 ∧ P (.v (.str (Txt.join a ys)))
  | _, _, _ => False
theorem FpAll.strs {F : Hp} : ∀ ys : List Str, FpAll F (ys.map V.str) (ys.map PyData.str)
  | [] => .nil
  | y :: ys => .cons (.str y) (FpAll.strs ys)
theorem FpAll.of_strs {F : Hp} : ∀ {vs : List V} {ys : List Str}, FpAll F vs (ys.map PyData.str) → vs = ys.map V.str
  | vs, [], h => by cases h; rfl
  | vs, y :: ys, h => by
    rw [List.map_cons] at h
    cases h with
    | cons h1 h2 => rw [h1.str_inv, FpAll.of_strs h2]; rfl
theorem o_split : Op2 K rSplit splitD := by
  intro F H x y d e Q P s h1 h2 p k
  unfold splitD at p
  split at p
  · exact ⟨_, _, h1.str_inv, h2.str_inv, p.1.1, p.1.2, k.list s (FpAll.strs _) p.2⟩
  · exact p.elim
theorem o_join : Op2 K (rJoin K) joinD := by
  intro F H x y d e Q P s h1 h2 p k
  unfold joinD at p
  split at p
  · obtain ⟨ys, rfl, hl, q⟩ := p
    obtain ⟨b, vs, rfl, hb, rb⟩ := h2.lst_inv
    rw [FpAll.of_strs rb] at hb
    exact ⟨_, b, ys, h1.str_inv, rfl, .inl (SqL.of (s _ _ hb)), hl, k.flat s (.str _) q⟩
  · exact p.elim
def isStrD : PyData → Bool
  | .str _ => true
  | _ => false
/-- a method of a text, one argument -/
def pTM (rp : PyData → PyData → (Sl → Prop) → Prop) (po pe : PX) : PO := fun env Q => po env fun d env1 => isStrD d = true ∧ pe env1 fun e env2 => rp d e fun r => Q r env2
theorem le_m1 {r : R2} {rp : PyData → PyData → (Sl → Prop) → Prop} {po pe : PX} (hr : Op2 K r rp) : ∀ σ H Q, liftO K E (pTM rp po pe) σ H Q → tM1 (fun x xs H Q => ∃ y, xs = [y] ∧ r x y H Q) (liftE K E po) (liftE K E pe) σ H Q := fun σ H Q ⟨ts, F, env, As, Q', S, fx, p, k⟩ =>
  ⟨ts, F, env, As, _, S, fx, p, fun x d F1 H1 env1 As1 S1 f1 h1 q => ⟨by
    cases d with
    | str a => exact ⟨a, h1.str_inv⟩
    | _ => exact absurd q.1 Bool.false_ne_true, ts, F1, env1, As1, _, S1, fx, q.2, fun y e F2 H2 env2 As2 S2 f2 h2 q2 => ⟨y, rfl, hr F2 H2 x y d e Q _ S2.sub (h1.to f2) h2 q2 (KN.ko' k S2 (f1.trans f2))⟩⟩⟩
variable {o e : Expr} {po pe : PX} {apos pos : Pos}
theorem mt_splitE : MtR X "str.split" (fun x xs H Q => ∃ y, xs = [y] ∧ rSplit x y H Q) := fun pins s σ H x xs v us Q I rx rs q => mt_split pins s σ H x xs v us Q I rx rs (by
  obtain ⟨y, rfl, a, b, rfl, rfl, q⟩ := q
  exact ⟨a, b, rfl, rfl, q⟩)
theorem mt_joinE : MtR X "str.join" (fun x xs H Q => ∃ y, xs = [y] ∧ rJoin X.K x y H Q) := fun pins s σ H x xs v us Q I rx rs q => mt_join pins s σ H x xs v us Q I rx rs (by
  obtain ⟨y, rfl, a, b, ys, rfl, rfl, q⟩ := q
  exact ⟨a, b, ys, rfl, rfl, q⟩)
theorem l_split (ho : PE X o (liftE X.K E po)) (he : PE X e (liftE X.K E pe)) (hs : starEach [e] X.env = [(false, eval e X.env)] := by rfl) (hbase : attributeBase o "split" X.env (eval o X.env) = eval o X.env := by rfl) (hline : (apos.endLine == pos.line) = true := by rfl) :
    PE X (.Call (.Attribute o "split" apos) [e] [] pos) (liftO X.K E (pTM splitD po pe)) := pe_w (pe_m1 F.slot_str_split F.type_str_split mt_splitE ho he hs hbase hline) (le_m1 o_split)
theorem l_join (ho : PE X o (liftE X.K E po)) (he : PE X e (liftE X.K E pe)) (hs : starEach [e] X.env = [(false, eval e X.env)] := by rfl) (hbase : attributeBase o "join" X.env (eval o X.env) = eval o X.env := by rfl) (hline : (apos.endLine == pos.line) = true := by rfl) :
    PE X (.Call (.Attribute o "join" apos) [e] [] pos) (liftO X.K E (pTM joinD po pe)) := pe_w (pe_m1 F.slot_str_join F.type_str_join mt_joinE ho he hs hbase hline) (le_m1 o_join)

/-! ### a sign in a text; a text so many times -/
def inSD : PyData → PyData → (Sl → Prop) → Prop
  | .str a, .str z, P => ∃ c, a = ⟨#[c]⟩ ∧ P (.v (.bool (decide (c ∈ z.cps.toList))))
  | _, _, _ => False
theorem o_inS : Op2 K (fun x y H Q => ∃ (c : Nat) (z : Str), x = .str ⟨#[c]⟩ ∧ y = .str z ∧ Q (.bl (decide (c ∈ z.cps.toList))) H) inSD := by
  intro F H x y d e Q P s h1 h2 p k
  unfold inSD at p
  split at p
  · obtain ⟨c, rfl, q⟩ := p
    exact ⟨c, _, h1.str_inv, h2.str_inv, k.flat s (.bl _) q⟩
  · exact p.elim
def rMulS : R2 := fun x y H Q => ∃ (a : Str) (k : Int), x = .str a ∧ y = .int k ∧ (k = 0 ∨ k = 1) ∧ Q (.str (Txt.mul a k)) H
theorem op_mulS : OpR X (binaryOp .Mult) rMulS := by
  intro pins s σ H x y v u Q I rx ry h
  obtain ⟨a, k, rfl, rfl, hk, q⟩ := h
  obtain ⟨t, rfl⟩ := rx
  obtain ⟨t', rfl⟩ := ry
  refine PySem.SB.mul ?_ fun t2 k2 => ⟨.str (Txt.mul a k), H, I.tok k2, ⟨t2, rfl⟩, q⟩
  rcases hk with rfl | rfl
  · exact ⟨by decide, fun h => absurd (by decide) h, fun h => absurd (by decide) h⟩
  · exact ⟨by decide, fun _ h => absurd h (by simp), fun _ h => absurd h (by simp)⟩
def mulSD : PyData → PyData → (Sl → Prop) → Prop
  | .str a, .int k, P => (k = 0 ∨ k = 1) ∧ P (.v (.str (Txt.mul a k)))
  | _, _, _ => False
theorem o_mulS : Op2 K rMulS mulSD := by
  intro F H x y d e Q P s h1 h2 p k
  unfold mulSD at p
  split at p
  · exact ⟨_, _, h1.str_inv, h2.int_inv, p.1, k.flat s (.str _) p.2⟩
  · exact p.elim

/-! ### a text walked sign by sign -/
def signD (z : Str) : List PyData := z.cps.toList.map fun c => .str ⟨#[c]⟩
theorem feeds_str {F : Hp} {z : Str} : Feeds K F (Its z) (signD z) := fun i H Fc f s => by
  refine ⟨fun d e => ?_, fun e => ?_⟩
  · unfold signD at e
    rw [List.getElem?_map, Array.getElem?_toList] at e
    obtain ⟨c, e1, e2⟩ := Option.map_eq_some_iff.mp e
    refine ⟨?_, fun x H' y => ?_⟩
    · show i < z.cps.size
      cases Nat.lt_or_ge i z.cps.size with
      | inl h => exact h
      | inr h => rw [Array.getElem?_eq_none h] at e1; cases e1
    · obtain ⟨rfl, c', h1, rfl⟩ := y
      rw [e1] at h1
      cases h1
      rw [← e2]
      exact ⟨Fc, Gr.refl s, .str _⟩
  · show z.cps.size ≤ i
    unfold signD at e
    rw [List.length_map, Array.length_toList] at e
    exact e
def itStr (pa : PX) : PIt := fun env Q => pa env fun d env1 => match d with
  | .str z => Q (signD z) env1
  | _ => False
theorem li_str {tg : Expr} (h : PE X e (liftE X.K E pe)) : PI X tg e (liftI X.K E (itStr pe)) := pi_w (pi_str h) fun σ H R ⟨ts, F, env, As, Q', S, fx, p, k⟩ => ⟨ts, F, env, As, _, S, fx, p, fun v d F1 H1 env1 As1 S1 f1 h q => by
  split at q
  · exact ⟨_, h.str_inv, k _ _ F1 H1 env1 As1 S1 f1 feeds_str q⟩
  · exact q.elim⟩
end

/-! ### a stretch of a text -/
section
variable {X : Cx} {E : Ent} {e : Expr} {pos : Pos}
def pSliceS (pa : PX) (pl ph : PBd) : PO := fun env Q => pa env fun d env1 => pl env1 fun lo env2 => ph env2 fun hi env3 => match d with
  | .str z => z.length ≤ sizeLine ∧ Q (.v (.str (L2.cutS z lo hi))) env3
  | _ => False
theorem l_sliceS {lo hi : Option Expr} {p2 : Pos} {pa : PX} {pl ph : PBd} (he : PE X e (liftE X.K E pa)) (hl : L2.PO X lo (liftB X.K E pl)) (hu : L2.PO X hi (liftB X.K E ph)) : PE X (.Subscript e (.Slice lo hi none p2) pos) (liftO X.K E (pSliceS pa pl ph)) :=
  pe_w (pe_slice sl_str he hl hu) fun σ H Q ⟨ts, F, env, As, Q', S, fx, p, k⟩ => ⟨ts, F, env, As, _, S, fx, p, fun v d F1 H1 env1 As1 S1 f1 hv q => ⟨ts, F1, env1, As1, _, S1, fx, q, fun lo F2 H2 env2 As2 S2 f2 q => ⟨ts, F2, env2, As2, _, S2, fx, q, fun hi F3 H3 env3 As3 S3 f3 q => by
    split at q
    · exact ⟨_, hv.str_inv, q.1, (KN.ko' k S3 (f1.trans (f2.trans f3))).flat S3.sub (.str _) q.2⟩
    · exact q.elim⟩⟩⟩
end

/-! ### what repr asks of a text -/
theorem RD.str {x : Str} {k B : Nat} (h : ∀ c ∈ x.cps.toList, c < 16 ^ 8) (hl : x.length ≤ B) : RD (.str x) k B := by
  refine ⟨rfl, rfl, Nat.zero_le _, ?_, ?_⟩
  · simp only [PyData.leavesShort, List.all_eq_true, decide_eq_true_eq]
    exact h
  · simp only [PyData.bulk]
    have e : x.length = x.cps.size := rfl
    omega

/-! ### x, *more = a list -/
section
variable {prog : Program} {w : World} {A : Around} {Ex : Value → Shared → Prop} {s : Shared}
/-- one item ahead, the others as a new list -/
theorem unp_star {l : Addr} {u : Value} {us : List Value} {Q : List Value → Shared → Prop} (hl : s.heap.IsList l (u :: us).toArray) (hh : A.handled = none) (hz : us.length + 1 ≤ 16384)
    (h : ∀ (h' : Heap) tk, (∀ b o, s.heap.get? b = some o → h'.get? b = some o) → Q [u, .ref h'.objs.size] { s with heap := h'.push { cls := .type "list", data := .seq us.toArray }, toks := tk }) : wpAny (model prog w) A (unpackItems (.ref l) 2 (some 1)) Q Ex s := by
  have hm := hl
  obtain ⟨o, ho, _⟩ := hm
  have hb : l < s.heap.objs.size := Heap.lt_size ho
  have hne : l ≠ s.heap.objs.size := Nat.ne_of_lt hb
  have hsz : (u :: us).toArray.size = us.length + 1 := by rw [List.size_toArray, List.length_cons]
  unfold unpackItems notIterableAtAll
  refine wpAny_bind (wpAny_bind (wpAny_specialOf hl.typeIs slot_list_iter.lookup (wpAny_pure ?_)))
  simp only [Bool.false_eq_true, if_false]
  refine wpAny_bind (wpAny_holding (wpAny_pyIter_list hl (wpAny_bind (wpAny_holding (PySem.W.kun_draw hne 1 0 _ _ ⟨_, Heap.get?_push_size _ rfl, rfl, rfl⟩ (hl.push _) (by rw [hsz]; omega) fun h1 hi1 hs1 => ?_)))))
  have hl1 : h1.IsList l (u :: us).toArray := (hl.push _).extBut hs1.extBut hne
  rw [Nat.zero_add] at hi1
  obtain ⟨oi, hoi, _⟩ := id hi1
  obtain ⟨ol, hol, _⟩ := id hl1
  have e1 : List.take 1 (List.drop 0 (u :: us).toArray.toList) = [u] := by rw [List.toList_toArray, List.drop_zero, List.take_succ_cons, List.take_zero]
  rw [e1]
  show wpAny _ _ (if (1 : Nat) < 1 then _ else _) _ _ _
  rw [if_neg (Nat.lt_irrefl 1)]
  refine wpAny_bind (wpAny_holding (PySem.W.kun_collect (s := { s with heap := h1 }) (T := "list_iterator") (.inr (.inr (.inl rfl))) (Walks.list (A := A.in1) hh s.heap.objs.size l hne (u :: us).toArray) (fun j z st => st.1.typeIs) (k := 1) (by rw [hsz]; omega) ⟨hi1, hl1⟩
    (Heap.lt_size hoi) (Heap.lt_size hol) (fun h2 tk hk => ?_) (by rw [hsz, sizeLine_eq]; omega)))
  have e2 : List.drop 1 (u :: us).toArray.toList = us := by rw [List.toList_toArray, List.drop_succ_cons, List.drop_zero]
  rw [e2]
  show wpAny _ _ (if us.length < 0 then _ else _) _ _ _
  rw [if_neg (Nat.not_lt_zero _)]
  show wpAny _ _ (newList (us.take (us.length - 0)) >>= fun d => pure ([u] ++ [d] ++ us.drop (us.length - 0))) _ _ _
  rw [Nat.sub_zero, List.take_length, List.drop_length]
  refine wpAny_bind (wpAny_newObj_type (wpAny_pure ?_) (by show us.toArray.size ≤ sizeLine; rw [List.size_toArray, sizeLine_eq]; omega))
  exact h h2 tk fun b z q => hk b z (Nat.ne_of_lt (Heap.lt_size q)) (hs1.extBut b z (Nat.ne_of_lt (Heap.lt_size q)) (Heap.get?_push_of_some _ q))
end
section
variable {X : Cx} {E : Ent} {e : Expr} {pe : PX} {pos tpos spos p1 p2 : Pos}
def gStar (K : PySem.W.Frag) (i j : Nat) : TG := fun v σ H Q => ∃ a x xs, v = .ref a ∧ SqL K H a (x :: xs) ∧ xs.length ≤ 10000 ∧ ∀ p, H p = none → Q ((σ.set i (some x)).set j (some (.ref p))) (upd H p (.lst xs))
theorem pg_star {i j : Nat} {x y : Str} {k : Nat} (hc : X.calm = true) (h1 : PG X (.Name x p1) (gName i)) (h2 : PG X (.Name y p2) (gName j))
    (hn : (assignEach [.Name x p1, .Starred (.Name y p2) spos] X.env).length = 2 := by rfl) (hst : (assignEach [.Name x p1, .Starred (.Name y p2) spos] X.env).findIdx? (·.1) = some 1 := by rfl)
    (hm : (assignEach [.Name x p1, .Starred (.Name y p2) spos] X.env).map (·.2) = [assign (.Name x p1) X.env, assign (.Name y p2) X.env] := by rfl) : PG X (.Tuple [.Name x p1, .Starred (.Name y p2) spos] k tpos) (gStar X.K i j) := by
  refine ⟨fun pins s σ H v u Q I r hw => ?_⟩
  obtain ⟨a, b, xs, rfl, hq, hz, hw⟩ := hw
  cases r
  obtain ⟨its, rv, hl, _⟩ := I.list hq
  cases rv with
  | cons r1 rs =>
    rename_i u us
    have hus : us.length = xs.length := rs.length.symm
    rw [assign_Tuple]
    refine wpAny_bind (wpAny_standAt ?_)
    unfold unpack
    rw [hn, hst, hm]
    refine wpAny_bind (wpAny_holding (unp_star hl.isList (I.ok.hd hc) (by omega) fun h' tk hk => ?_))
    have I1 : Inv X pins σ H { s with heap := h', toks := tk } := I.kept hk
    have hp := I1.hok.fresh (Nat.le_refl _)
    have I2 : Inv X pins σ (upd H h'.objs.size (.lst xs)) { s with heap := h'.push { cls := .type "list", data := .seq us.toArray }, toks := tk } := I1.laid (t' := tk) (o := .lst xs) (fun b u q => Heap.get?_push_of_some _ q) (Nat.le_refl _) ⟨by rw [sizeLine_eq]; omega, us, _, rs, Heap.get?_push_size _ rfl⟩
    refine assignInOrder_cons (thn (h1.run pins _ σ _ _ _ (fun σ' H' => σ' = σ.set i (some b) ∧ H' = upd H h'.objs.size (.lst xs)) I2 r1 ⟨rfl, rfl⟩) fun _ s1 ⟨σ1, H1, I3, q1, q2⟩ => ?_)
    subst q1
    subst q2
    exact assignInOrder_cons (thn (h2.run pins s1 _ _ (.ref h'.objs.size) _ Q I3 rfl (hw _ hp)) fun _ s2 q => assignInOrder_nil q)
def pUnpStar (i j : Nat) (pe : PX) : PSt := fun D env => pe env fun d env1 => match d with
  | .list (x :: ds) => ds.length ≤ 10000 ∧ D.nx ((env1.set i (.v x)).set j (.m (.ol ds)))
  | _ => False
theorem ls_unpStar {i j : Nat} {tg : Expr} (hij : i ≠ j) (hi : i < X.N.length) (fi : E.fix i = none) (hj : j < X.N.length) (fj : E.fix j = none) (h : ∀ te, PE X e te → PS X (.Assign [tg] e pos) (tAsg te (gStar X.K i j))) (he : PE X e (liftE X.K E pe)) :
    PS X (.Assign [tg] e pos) (liftS X.K E (pUnpStar i j pe)) := by
  refine ⟨fun pins s σ H D I ⟨F, env, As, D', S, fx, p, k⟩ => (h _ he).run pins s σ H D I ⟨[], F, env, As, _, app_nil_SR S, fx, p, fun v d F1 H1 env1 As1 S1 f1 hv q => ?_⟩⟩
  have S1' := nil_app_SR S1
  split at q
  · obtain ⟨a, vs, rfl, ha, ra⟩ := hv.lst_inv
    cases ra with
    | cons h1 h2 =>
      refine ⟨a, _, _, rfl, SqL.of (S1'.sub _ _ ha), by rw [h2.length]; exact q.1, fun p hp => ?_⟩
      have hl : i < env1.length := by rw [← S1'.len, I.len]; exact hi
      have hl2 : j < env1.length := by rw [← S1'.len, I.len]; exact hj
      rename_i z0 zs
      have S2 := S1'.gr (Gr.made (o := HO.lst zs) S1'.sub hp)
      have S3 := S2.set ((RsNew.ol S1'.sub hp h2).ok S1') hl2 fj
      have S4 := S3.set (RsOk.v h1) (by rw [List.length_set]; exact hl) fi
      rw [List.set_comm _ _ hij.symm, List.set_comm _ _ hij.symm] at S4
      exact k.nx _ F1 _ _ _ (by rw [List.length_set, List.length_set]) S4 f1 q.2
  · exact q.elim
end
end PL

/-! try: .. except E: .. (the error itself is not looked at), where no error leaves -/
namespace PL
open PySem PySem.Spec PyProof.Rows L2
def pTryN (cs : Nat → Option Bool) (pb : PXR → PSt) (pu : PSt) : PSt := fun D env => pb (fun k _ env1 => cs k = some true ∧ pu D env1) D env
section
variable {X : Cx} {E : Ent} {ec : ECl}
theorem takesNo2 {X : Cx} : L2.Takes X (fun _ _ _ _ => False) := fun _ _ x => by
  obtain ⟨_, _, _, _, _, _, _, _, _, _, _, _, _, _, _, _, z⟩ := x
  exact z.elim
theorem ls_tryN {x : Str} {c : Value} {body suite : List Stmt} {b₀ : Stmt} {np pos pos' : Pos} {cs : Nat → Option Bool} {pb : PXR → PSt} {pu : PSt}
    (hs : X.stack = X.env :: X.outer) (hf : X.env.frame = some X.env.locals) (hc : Names X x c) (hcs : ∀ k C b, ec k = some C → cs k = some b → PySem.W.exmOne X.K (.ref C) c = some b) (hpa : ∀ hd : Option Value, PassesOwnAt (model X.prog X.w) (X.A.mark hd) X.A X.env X.xe)
    (hb : ∀ (W : WX) (pn : List (Addr × Obj)) (xe : Value → Shared → Prop) (R : PXR) (E' : Ent), E'.fix = E.fix → L2N.Takes (X.tr pn xe) W → PassesOwn (model X.prog X.w) X.A X.env xe → Lk X.K E' ec X.N.length R W → PSs (X.tr pn xe) body (liftS X.K E' (pb R)))
    (hsu : ∀ (a : Addr) (oe : Obj) (pn : List (Addr × Obj)), PSs (L2H.suiteX X a ((a, oe) :: pn)) (b₀ :: suite) (liftS X.K E pu)) :
    PS X (.Try body [.ExceptHandler (some (.Name x np)) none (b₀ :: suite) pos'] [] [] pos) (liftS X.K E (pTryN cs pb pu)) := by
  refine ⟨fun pins s σ H D I ⟨F, env, As, D', S, fx, q, kk⟩ => (L2H.ps_try_onlyX (c := c) (tb := fun W D σ H => ∃ R E', E'.fix = E.fix ∧ Lk X.K E' ec X.N.length R W ∧ liftS X.K E' (pb R) D σ H)
    (ts := fun _ _ _ D σ H => liftS X.K E pu D σ H) (Wout := fun _ _ _ _ => False) hs hf hc hpa takesNo2
    (fun W pn xe t _ po => ⟨fun pins s σ H D I ⟨R, E', he, lk, l⟩ => (hb W pn xe R E' he t po lk).run pins s σ H D I l⟩)
    (fun a oe cls d pn _ _ _ _ => hsu a oe pn)).run pins s σ H D I ?_⟩
  refine ⟨_, reE E F H As, rfl, ?_, F, env, As, D', S.re, fx.re, q, ⟨fun σ' F' H' env' As' hl S' f p => kk.nx σ' F' H' env' As' hl (S.unre S') f p, fun σ' F' H' env' As' hl S' f p => kk.bk σ' F' H' env' As' hl (S.unre S') f p,
    fun σ' F' H' env' As' hl S' f p => kk.ct σ' F' H' env' As' hl (S.unre S') f p, fun σ' F' H' env' As' hl S' f v r ar R p => kk.rt σ' F' H' env' As' hl (S.unre S') f v r ar (RsOk.unre S R) p⟩⟩
  intro k C d v dd F1 H1 σ1 env1 As1 hk hl fi S1 hv hd ⟨h, hR⟩
  refine ⟨true, hcs k C true hk h, fun _ a na => ?_, fun z => nomatch z⟩
  have S0 := S.unre S1
  have hF : F1 dd = none := by
    cases e : F1 dd with
    | none => rfl
    | some u =>
      rw [S0.sub dd u e] at hd
      cases hd
  have S2 : SR X.K E F1 (errH H1 dd v) σ1 env1 As1 := S0.other hF (fun j hm => S0.live j dd hm hd) (S0.free hd).symm
  exact ⟨F1, env1, As1, D', S2, fi, hR, kk.to (by rw [hl, I.len]) S1.f0⟩
end
end PL

/-! list of a generator's call -/
namespace PL
open PySem PySem.Spec PyProof.Rows L2 GenW

def pListG (n : Nat) (sp : SpY) (pa : PAs) : PO := fun env Q => pGen n sp pa env fun ds env1 => ds.length ≤ 100000 ∧ Q (.m (.ol ds)) env1
section
variable {X : Cx} {E : Ent}
theorem inv_at {A1 : Around} {pins : List (Addr × Obj)} {σ : L2.St} {H : Hp} {s : Shared} (I : Inv X pins σ H s) (h1 : X.calm = true → A1.handled = none) (h2 : A1.frames = some X.stack) : Inv { X with A := A1 } pins σ H s :=
  ⟨⟨I.ok.mod, I.ok.kind, I.ok.glob, I.ok.blt, I.ok.above, I.ok.inj, I.ok.has, I.ok.cab, h1, h2, I.ok.stk, I.ok.exf, I.ok.bs, I.ok.bsz, I.ok.noex, I.ok.exfs, I.ok.funs, I.ok.frf⟩, I.os, I.bare, I.base, I.loc, I.cell, I.free, I.freeC, I.pin, I.hok, I.len⟩
theorem inv_of {A1 : Around} {pins : List (Addr × Obj)} {σ : L2.St} {H : Hp} {s : Shared} (ok : X.Ok) (I : Inv { X with A := A1 } pins σ H s) : Inv X pins σ H s :=
  ⟨ok, I.os, I.bare, I.base, I.loc, I.cell, I.free, I.freeC, I.pin, I.hok, I.len⟩
/-- no tuple is waited for -/
def cTg : Expr := .Constant .none 0 ⟨0, 0, 0, 0⟩
/-- what the walk of the loop keeps: S, the list that grows -/
structure Grown (X : Cx) (E : Ent) (pins : List (Addr × Obj)) (σ ts : L2.St) (env : PEnv) (F0 : Hp) (S : Addr) (ds : List PyData) (tn : Nat → Hp → List Addr → Shared → Prop) (i : Nat) (s : Shared) : Prop where
  all : ∃ F H As fp acc, Inv X pins σ H s ∧ tn i F fp s ∧ (∀ b ∈ fp, FpOk X pins H b) ∧ SR X.K E F H (σ ++ ts) env As ∧ Same F0 F ∧ H S = some (.lst acc) ∧ FpAll F acc (ds.take i) ∧ F S = none ∧ (∀ j, S ∉ As j) ∧ (E.B S ∨ E.H0 S = none)
theorem drain_live {A : Around} {pins : List (Addr × Obj)} {σ ts : L2.St} {env : PEnv} {F0 : Hp} {S it : Addr} {ds : List PyData} {tn : Nat → Hp → List Addr → Shared → Prop} {res : Value} {R : Result → Shared → Prop} (hc : X.calm = true)
    (LV : LT X.prog X.w X.K X.mg X.base X.A X.stack cTg ds it tn) (hA : A.in1 = X.A) (hz : ds.length ≤ 100000) (fin : ∀ s', Grown X E pins σ ts env F0 S ds (fun _ _ _ _ => True) ds.length s' → R (.ok (.ret res)) s') :
    ∀ (m i : Nat) (s : Shared), m + i = ds.length → Grown X E pins σ ts env F0 S ds tn i s → codeAny (model X.prog X.w) A (.builtin "list.extend.loop" ⟨[.ref S, .ref it, res], []⟩) R s := by
  intro m
  induction m with
  | zero =>
    intro i s e ⟨F, H, As, fp, acc, I, t, f, SRs, f0, hS, ha, hF, hn, hE⟩
    have ei : i = ds.length := by omega
    subst ei
    refine codeAny_builtin PySem.F.entry_extend_loop ?_
    rw [Around.under_plainId PySem.F.plain_extend_loop _, hA]
    show wpAny (model X.prog X.w) X.A (pyNext (.ref it) >>= _) _ _ s
    refine wpAny_bind (thnF (LV.done X rfl rfl rfl rfl rfl rfl rfl hc pins s σ F H fp I f t SRs.sub) fun r s1 ⟨hr, F', H', I1, g⟩ => ?_)
    subst hr
    refine wpAny_pure (fin s1 ⟨F', H', As, [], acc, I1, trivial, (fun b hb => absurd hb (by simp)), SRs.gr g, f0.trans g.ff, g.hh _ _ hS, ha.to g.ff, g.off hF (some_ne hS) (ntp_of hS fun _ z => nomatch z), hn, hE⟩)
  | succ m ih =>
    intro i s e ⟨F, H, As, fp, acc, I, t, f, SRs, f0, hS, ha, hF, hn, hE⟩
    have hi : i < ds.length := by omega
    have ed : ds[i]? = some ds[i] := List.getElem?_eq_getElem hi
    refine codeAny_builtin PySem.F.entry_extend_loop ?_
    rw [Around.under_plainId PySem.F.plain_extend_loop _, hA]
    show wpAny (model X.prog X.w) X.A (pyNext (.ref it) >>= _) _ _ s
    refine wpAny_bind (thnF (LV.item X rfl rfl rfl rfl rfl rfl rfl hc i _ pins s σ F H fp I f t SRs.sub ed) fun r s1 ⟨u, hr, h1⟩ => ?_)
    subst hr
    show wpAny (model X.prog X.w) X.A (letOwnedTupleGo cTg (.ref it) u >>= fun _ => updateSeq S (·.push u) >>= _) _ _ s1
    refine wpAny_bind (thnF h1 fun _ s2 ⟨x, H', F', fp', I2, rv, g, hx, t2, f2⟩ => ?_)
    have hS2 : H' S = some (.lst acc) := g.hh _ _ hS
    have hF2 : F' S = none := g.off hF (some_ne hS) (ntp_of hS fun _ z => nomatch z)
    obtain ⟨hz', its, n, ri, eo⟩ := I2.hok S _ hS2
    have hl := ri.length
    have la : acc.length = i := by
      have := ha.length
      rw [List.length_take] at this
      omega
    refine wpAny_bind (wpAny_updateSeq (xs := its.toArray) (n := n) eo rfl (wpAny_pure ⟨plainId_quiet PySem.F.plain_extend_loop _, ?_⟩) (by rw [List.size_toArray]; exact le_line (by omega)) (by rw [Array.size_push, List.size_toArray]; exact Nat.le_succ_of_le (le_line (by omega))))
    refine ih (i + 1) _ (by omega) ⟨F', upd H' S (.lst (acc ++ [x])), As, fp', acc ++ [x], ?_, ?_, ?_, ?_, f0.trans g.ff, upd_same, ?_, hF2, hn, hE⟩
    · exact I2.write (t' := s2.toks) (by rw [hS2]; trivial) (.inl rfl) (fun b o hb e => (Heap.get?_update_other _ _ (Ne.symm hb)).trans e) ⟨_, Heap.get?_update_self _ eo rfl⟩ ⟨by rw [List.length_append]; exact le_line (by show acc.length + 1 ≤ _; omega), its ++ [u], n + 1, ri.append (.cons rv .nil), by
        rw [Heap.get?_update_self (Obj.mapSeq (·.push u)) eo rfl]
        simp [Obj.mapSeq]⟩
    · exact LV.keep i _ _ _ _ _ t2 (Same.refl _) (fun b hb o e => (Heap.get?_update_other _ _ (fun z => by
        have := (f2 b hb).1
        rw [← z, hS2] at this
        cases this)).trans e) (Kg.eq rfl)
    · intro b hb
      refine ⟨?_, (f2 b hb).2⟩
      rw [upd_ne fun z => by
        have := (f2 b hb).1
        rw [z, hS2] at this
        cases this]
      exact (f2 b hb).1
    · exact (SRs.gr g).other hF2 hn hE
    · rw [List.take_add_one, ed]
      exact (ha.to g.ff).app (.cons hx .nil)
/-- list of a walk that lives -/
theorem call_list_live {pins : List (Addr × Obj)} {σ ts : L2.St} {env : PEnv} {As : Nat → List Addr} {Fh H : Hp} {it : Addr} {g : Nat} {ds : List PyData} {fp : List Addr} {s : Shared} {tn : Nat → Hp → List Addr → Shared → Prop} {Q : Value → Shared → Prop} {Ex : Value → Shared → Prop} (hc : X.calm = true)
    (LV : LT X.prog X.w X.K X.mg X.base X.A.in1.in1 X.stack cTg ds it tn) (I : Inv X pins σ H s) (ig : s.heap.IsGen it g) (t : tn 0 Fh fp s) (f : ∀ b ∈ fp, FpOk X pins H b) (S : SR X.K E Fh H (σ ++ ts) env As) (hz : ds.length ≤ 100000)
    (fin : ∀ (L : Addr) s', Grown X E pins σ ts env Fh L ds (fun _ _ _ _ => True) ds.length s' → Q (.ref L) s') : wpAny (model X.prog X.w) X.A (call (.type "list") [.ref it]) Q Ex s := by
  have hlt : it < s.heap.objs.size := by
    obtain ⟨_, _, _, e, _⟩ := ig
    exact Heap.lt_size e
  have hne : s.heap.objs.size ≠ it := Nat.ne_of_gt hlt
  generalize hL : s.heap.objs.size = L at hne
  refine callType_codes (Q₁ := fun ob s1 => ob = .ref L ∧ s1 = { s with heap := s.heap.push { cls := .type "list", data := .seq #[] } }) PySem.F.called_list (PySem.F.typeCall_list_1 _) PySem.F.entry_list_init (by rw [← hL]; exact code_list_new _ ⟨rfl, rfl⟩) fun ob s1 h1 => ?_
  obtain ⟨rfl, rfl⟩ := h1
  have g0 : (s.heap.push { cls := .type "list", data := .seq #[] }).get? L = some { cls := .type "list", data := .seq #[] } := by rw [← hL]; exact Heap.get?_push_size _ rfl
  have old : ∀ (h : Heap) (u : Obj → Obj), (∀ b o, s.heap.get? b = some o → h.get? b = some o) → ∀ b o, s.heap.get? b = some o → (h.update L u).get? b = some o := fun h u q b o e =>
    (Heap.get?_update_other _ _ (by rw [← hL]; exact Ne.symm (Nat.ne_of_lt (Heap.lt_size e)))).trans (q b o e)
  have p1 : ∀ b o, s.heap.get? b = some o → (s.heap.push { cls := .type "list", data := .seq #[] }).get? b = some o := fun b o e => Heap.get?_push_of_some _ e
  refine ⟨⟨_, g0, rfl⟩, PySem.F.args_list_init_2 _ _, ?_⟩
  show wpAny _ X.A.in1.in1 (do let was ← Builtin.List.listItems (.ref L); Builtin.List.listUpdate (.ref L) (fun _ => #[]); letGo was.toList.reverse; Builtin.List.listExtendWith (.ref L) (.ref it) .none) _ _ _
  unfold Builtin.List.listItems
  refine wpAny_bind (wpAny_bind (wpAny_seqItems g0 rfl (wpAny_pure ?_)))
  show wpAny _ X.A.in1.in1 (updateSeq L (fun _ => #[]) >>= fun _ => letGo (#[] : Array Value).toList.reverse >>= fun _ => Builtin.List.listExtendWith (.ref L) (.ref it) .none) _ _ _
  refine wpAny_bind (wpAny_updateSeq g0 rfl (wpAny_bind (wpAny_letGo ?_)))
  have g1 := Heap.get?_update_self (Obj.mapSeq (fun _ => (#[] : Array Value))) g0 rfl
  have p2 := old _ (Obj.mapSeq (fun _ => (#[] : Array Value))) p1
  unfold Builtin.List.listExtendWith
  refine wpAny_bind (wpAny_typeOf (Heap.IsGen.typeIs (s := { s with heap := _ }) (ig.keeps p2)) ?_)
  have c1 : Builtin.List.listSameRef (.ref L) (.ref it) = false := by simp [Builtin.List.listSameRef, hne]
  have c2 : (Value.type "generator" == Value.type "list") = false := by decide
  have c3 : (Value.type "generator" == Value.type "tuple") = false := by decide
  simp only [c1, c2, c3, Bool.or_false, Bool.false_eq_true, if_false]
  refine wpAny_bind (wpAny_pyIter_gen (s := { s with heap := _ }) (ig.keeps p2) (wpAny_bind (wpAny_holding ?_)))
  unfold Builtin.List.listLengthHint
  refine wpAny_bind (wpAny_specialOf (Heap.IsGen.typeIs (s := { s with heap := _ }) (ig.keeps p2)) PySem.F.gen_no_len ?_)
  show wpAny _ X.A.in1.in1 (specialOf (Value.ref it) (Str.ofString "__length_hint__") >>= _) _ _ _
  refine wpAny_bind (wpAny_specialOf (Heap.IsGen.typeIs (s := { s with heap := _ }) (ig.keeps p2)) PySem.F.gen_no_hint (wpAny_pure ?_))
  show wpAny _ X.A.in1.in1 (rule "list.extend.makes-room" >>= fun _ => Builtin.List.listTouch (.ref L) >>= fun _ =>
    again (.builtin "list.extend.loop" ⟨[.ref L, .ref it, .none], []⟩)) _ _ _
  refine wpAny_bind (wpAny_rule (wpAny_bind ?_))
  show wpAny _ X.A.in1.in1 (updateSeq L (·.push .none) >>= fun _ => updateSeq L (·.pop)) _ _ _
  refine wpAny_bind (wpAny_updateSeq g1 rfl ?_)
  have g2 := Heap.get?_update_self (Obj.mapSeq (·.push Value.none)) g1 rfl
  refine wpAny_updateSeq (hz := by seq_fits) g2 rfl ?_
  have g3 := Heap.get?_update_self (Obj.mapSeq (·.pop)) g2 rfl
  have p4 := old _ (Obj.mapSeq (·.pop)) (old _ (Obj.mapSeq (·.push Value.none)) p2)
  refine wpAny_pure ⟨plainId_quiet PySem.F.plain_extend_loop _, ?_⟩
  have hh := I.ok.hd hc
  have hr1 : Inv { X with A := X.A.in1.in1 } pins σ H s := inv_at I (fun _ => hh) I.ok.frames
  have nL : H L = none := I.hok.fresh (Nat.le_of_eq hL)
  refine drain_live (X := { X with A := X.A.in1.in1 }) (E := E) (A := X.A.in1) (pins := pins) (σ := σ) (ts := ts) (env := env) (F0 := Fh) (S := L) (tn := tn) hc LV rfl hz (fun s' ⟨F', H', As', fp', acc, I', _, _, r⟩ => ⟨rfl, fin L s' ⟨F', H', As', [], acc, inv_of I.ok I', trivial, (fun b hb => absurd hb (by simp)), r⟩⟩) ds.length 0 _ (Nat.add_zero _)
    ⟨Fh, upd H L (.lst []), As, fp, [], hr1.laid (t' := s.toks) p4 (Nat.le_of_eq hL) ⟨Nat.zero_le _, [], _, .nil, g3⟩, LV.keep0 _ _ _ _ _ _ t (Same.refl _) (fun b _ o e => p4 b o e) rfl, fun b hb => ?_, (S.gr (Gr.made (o := HO.lst []) S.sub nL)), Same.refl _, upd_same, .nil, S.sub.free nL, fun j z => S.live j L z nL, (S.free nL).symm⟩
  refine ⟨?_, (f b hb).2⟩
  have nb : b ≠ L := fun z => by
    obtain ⟨_, e, _⟩ := (LV.obj _ _ _ _ t).2 b hb
    have q : b < s.heap.objs.size := Heap.lt_size e
    rw [hL, z] at q
    exact Nat.lt_irrefl _ q
  rw [upd_ne nb]
  exact (f b hb).1
variable {e : Expr} {es : List Expr} {pa : PAs} {pos p pos0 p0 : Pos} {x nm : Str} {f : Addr} {fd : FuncData} {ps : List Str} {n k : Nat} {sp : SpY}
theorem l_listG (hc : X.calm = true) (hgl0 : Gl X nm) (hm0 : X.mg nm = none) (hv0 : bootBuiltins nm = some (.type "list")) (G : GGn X.prog X.w X.K X.mg X.base (k + 1) f fd ps sp) (hr : Room (k + 2) X.A) (hg : X.A.guards = some []) (hgl : Gl X x) (hm : X.mg x = some (.ref f)) (hk : PySem.W.keepIn X.K (.ref f) = true) (hb : Binds X.K fd ps []) (hn : ps.length = n)
    (ha : PA X (e :: es) (liftA X.K E pa)) (hnm : nm ≠ "__name__" := by decide) (hdb0 : (nm == ("__debug__" : Str)) = false := by decide) (he0 : starEach [.Call (.Name x p) (e :: es) [] pos] X.env = (false, eval (.Call (.Name x p) (e :: es) [] pos) X.env) :: starEach [] X.env := by rfl)
    (hdb : (x == ("__debug__" : Str)) = false := by decide) (he : starEach (e :: es) X.env = (false, eval e X.env) :: starEach es X.env := by rfl) (hpl : (backTo pos (starEach es X.env)).any (·.1) = false := by rfl) :
    PE X (.Call (.Name nm p0) [.Call (.Name x p) (e :: es) [] pos] [] pos0) (liftO X.K E (pListG n sp pa)) := by
  refine ⟨fun pins s σ H Q I ⟨ts, Fh, env, As, Q', S, fx, q, kk⟩ => ?_⟩
  refine wpAny_Call_Name_kw (ld_blt I hgl0 hm0 hv0 ?_ hnm hdb0)
  refine PyProof.Rows.callWith_type1 ?_ he0 rfl
  rw [he0]
  show wpAny _ _ (spliced ((false, eval (.Call (.Name x p) (e :: es) [] pos) X.env) :: backTo pos0 (starEach [] X.env))) _ _ s
  refine Calls.spliced_cons (thn (gcall_run G hr hgl hm hk hb hn ha hdb he hpl I S fx q) fun u s2 ⟨ds, F', H', env', As', s1, I1, S1, f1, q1, gn⟩ => Calls.spliced_nil ?_)
  obtain ⟨a, pv, GG, rfl, I2, _, lt, at0, fpo, g, ig⟩ := gnew_live (A1 := X.A.in1.in1) I1 gn ⟨hr.hd, by have := hr.dp; show X.A.depth + 3 * (k + 1) + 5 < _; omega, by have := hr.un; show X.A.units + 1 + 1 + 1 + 16 * (k + 1) + 200 < _; omega⟩ hg I1.ok.frames
  refine call_list_live hc (lt cTg) I2 ig at0 (fun b hb => (fpo b hb).1) S1 q1.1 fun L s' ⟨F2, H2, As2, fp2, acc, I3, _, _, S3, f3, h1, h2, h3, h4, h5⟩ => ?_
  rw [List.take_length] at h2
  exact ⟨.ref L, H2, I3, rfl, kk (.ref L) (.m (.ol ds)) [L] F2 H2 env' As2 S3 (f1.trans f3) ⟨⟨_, rfl, .ol h1 h2⟩, by simp, fun b hb => by rw [List.mem_singleton.mp hb]; exact ⟨h3, h5⟩, fun j b hb z => by rw [List.mem_singleton.mp hb] at z; exact h4 j z⟩ q1.2⟩
end
end PL

/-! an error kept: try: .. except E as e: x = e, and what stands behind -/
namespace PL
open PySem PySem.Spec PyProof.Rows L2
/-- an error that is kept is one pin more -/
theorem inv_pin {X : Cx} {q : Addr × Obj} {pins : List (Addr × Obj)} {σ : L2.St} {H : Hp} {s : Shared} (I : Inv X (q :: pins) σ H s) : Inv { X with pn := q :: X.pn } pins σ H s :=
  ⟨⟨I.ok.mod, I.ok.kind, I.ok.glob, I.ok.blt, I.ok.above, I.ok.inj, I.ok.has, I.ok.cab, I.ok.hd, I.ok.frames, I.ok.stk, I.ok.exf, I.ok.bs, I.ok.bsz, I.ok.noex, I.ok.exfs, I.ok.funs, I.ok.frf⟩, I.os, I.bare, I.base, I.loc, I.cell, I.free, I.freeC,
    fun p hp => I.pin p (by
      rcases List.mem_cons.mp hp with h | h
      · rw [h]; exact List.mem_append_right _ List.mem_cons_self
      · rcases List.mem_append.mp h with h | h
        · exact List.mem_append_left _ h
        · exact List.mem_append_right _ (List.mem_cons_of_mem _ h)), I.hok, I.len⟩
theorem inv_unpin {X : Cx} {q : Addr × Obj} {pins : List (Addr × Obj)} {σ : L2.St} {H : Hp} {s : Shared} (ok : X.Ok) (I : Inv { X with pn := q :: X.pn } pins σ H s) : Inv X pins σ H s :=
  ⟨ok, I.os, I.bare, I.base, I.loc, I.cell, I.free, I.freeC, fun p hp => I.pin p (List.mem_cons_of_mem _ hp), I.hok, I.len⟩
def KeepP (X : Cx) (pins : List (Addr × Obj)) (D Dr : Ends) (tk : Addr → Value → Option Addr → TS) (f : Flow) (s' : Shared) : Prop := match f with
  | .next => (∃ σ H, Inv X pins σ H s' ∧ D.nx σ H) ∨ ∃ a oe cls d σ H, Inv X ((a, oe) :: pins) σ H s' ∧ L2N.Zn cls d oe ∧ (∃ vs, oe.data = .fields vs) ∧ tk a cls d Dr σ H
  | f => SP X pins D f s'
section
variable {X : Cx} {x n : Str} {c : Value} {i j : Nat} {body rest : List Stmt} {b₀ : Stmt} {np pos pos' : Pos} {tb : WX → TS} {tk : Addr → Value → Option Addr → TS}
def wKeep (K : PySem.W.Frag) (c : Value) (i j : Nat) (tk : Addr → Value → Option Addr → TS) (D : Ends) : WX := fun cls d σ H => PySem.W.exmOne K cls c = some true ∧ ∀ a, H a = none → tk a cls d D (((σ.set i (some (.ref a))).set j (some (.ref a))).set i none) H
theorem run_keep (hs : X.stack = X.env :: X.outer) (hf : X.env.frame = some X.env.locals) (hN : X.N.Nodup) (hi : X.N[i]? = some n) (hil : i < X.N.length) (hln : X.env.kindOf n = some .local) (hc : Names X x c)
    (hb : ∀ (W : WX) (pn : List (Addr × Obj)) (xe : Value → Shared → Prop), L2N.Takes (X.tr pn xe) W → PassesOwn (model X.prog X.w) X.A X.env xe → PSs (X.tr pn xe) body (tb W))
    (hsu : ∀ (a : Addr) (oe : Obj) (pn : List (Addr × Obj)), PS (X.suite a ((a, oe) :: pn)) b₀ (tAsg (tVar i) (gName j))) {pins : List (Addr × Obj)} {s : Shared} {σ : L2.St} {H : Hp} {D Dr : Ends} (I : Inv X pins σ H s) (h : tb (wKeep X.K c i j tk Dr) D σ H) :
    wpAny (model X.prog X.w) X.A (exec (.Try body [.ExceptHandler (some (.Name x np)) (some n) [b₀] pos'] [] [] pos) X.env) (KeepP X pins D Dr tk) X.xe s := by
  have ok := I.ok
  have frA : X.A.frames = some (X.env :: X.outer) := by rw [ok.frames, hs]
  refine wpAny_Try_except ?_
  have run := (hb (wKeep X.K c i j tk Dr) (X.pn ++ pins) (fun e s1 => wpAny (model X.prog X.w) X.A (noteFrame e X.env) (fun _ s2 => wpAny (model X.prog X.w) X.A (setFlight e none) (fun _ s3 =>
    wpAny (model X.prog X.w) X.A (handleBy e X.env [.ExceptHandler (some (.Name x np)) (some n) [b₀] pos']) (KeepP X pins D Dr tk) X.xe s3) X.xe s2) X.xe s1) (fun u s1 xx => ?_) PassesOwn.looking).run [] s σ H D (I.toTry _) h
  · refine wpAny_mono run (fun f s1 hsp => ?_) (fun e s1 he => he)
    cases f with
    | next =>
      obtain ⟨σ', H', J, q⟩ := hsp
      exact wpAny_execs_nil (.inl ⟨σ', H', J.ofTry ok, q⟩)
    | brk =>
      obtain ⟨σ', H', J, q⟩ := hsp
      exact ⟨σ', H', J.ofTry ok, q⟩
    | cont =>
      obtain ⟨σ', H', J, q⟩ := hsp
      exact ⟨σ', H', J.ofTry ok, q⟩
    | ret u =>
      obtain ⟨v, σ', H', J, r, q⟩ := hsp
      exact ⟨v, σ', H', J.ofTry ok, r, q⟩
  · obtain ⟨a, B, sI, pins', σ', H', cls, d, rfl, J', nb, up, sky, na, os, ag, hb1, hyes⟩ := xx
    have J : Inv X pins σ' H' sI := J'.ofTry ok
    rw [hs] at sky
    show wpAny (model X.prog X.w) X.A (noteFrame (.ref a) X.env) _ _ _
    refine L2N.Sky.land L2N.Zn.steady frA hf sky fun h3 fl3 up3 => ?_
    have J3 : Inv X pins σ' H' { s1 with heap := h3 } := J.landed nb fl3.1 (up.trans up3) os ag
    obtain ⟨o3, w3, g3, z3, d3⟩ := fl3.there
    have off : ∀ b ∈ frs (X.env :: X.outer), b ≠ a := fun b hm e => by
      obtain ⟨_, o', e', hnf⟩ := fl3.2.2.1.mem hm
      rw [e, g3] at e'
      cases e'
      exact hnf _ d3
    have nL : a ≠ X.env.locals := fun z => off _ (List.mem_filterMap.mpr ⟨X.env, List.mem_cons_self, by rw [hf, ← z]⟩) rfl
    have nF : a ∉ X.fs := fun hm => by
      obtain ⟨e, he, q⟩ := List.mem_filterMap.mp hm
      exact off a (List.mem_filterMap.mpr ⟨e, List.mem_cons_of_mem _ he, q⟩) rfl
    have S3 := J3.suite g3 d3 na nL nF
    refine wpAny_handleBy_cons (codeAny_handlers_test ?_) (by intro q; cases q)
    have looks : PySem.W.Looks (model X.prog X.w) h3 (typeOf (.ref a)) cls := fun A Q E s k q => wpAny_typeOf_ref (k _ _ g3) (by rw [z3.1]; exact q)
    have asks := PySem.W.exm_one (M := model X.prog X.w) J3.kIn looks hb1
    have test : ∀ {Q : Value → Shared → Prop} {E : Value → Shared → Prop}, Q c { s1 with heap := h3 } → wpAny (model X.prog X.w) (X.A.mark (some (.ref a))) (eval (.Name x np) X.env) Q E { s1 with heap := h3 } := fun {Q E} q => by
      obtain ⟨hg, hdbg, hm | ⟨hm, hv, hnn⟩⟩ := hc
      · exact ld_glob (X := X.suite a ((a, o3) :: (X.pn ++ pins))) S3 hg hm q hdbg
      · exact ld_blt (X := X.suite a ((a, o3) :: (X.pn ++ pins))) S3 hg hm hv q hnn hdbg
    refine test (asks.here (codeAny_handlers_suite_as (HandSPX.lands_againZ fl3 fun h4 fl4 up4 => ?_)))
    have J4 : Inv X pins σ' H' { s1 with heap := h4 } := J.landed nb fl4.1 ((up.trans up3).trans up4) os ag
    obtain ⟨o4, w4, g4, z4, d4⟩ := fl4.there
    have S4 := J4.suite g4 d4 na nL nF
    refine store_ok (X := X.suite a ((a, o4) :: (X.pn ++ pins))) (v := .ref a) S4 hN hi (.inl hln) rfl (fun s5 S5 => ?_) (.inr hln)
    refine wpAny_mono ((pss_one (hsu a o4 (X.pn ++ pins))).run [] s5 _ H' { nx := fun σ6 H6 => tk a cls d Dr (σ6.set i none) H6, rt := fun _ _ => False } S5 ⟨.ref a, List.getElem?_set_self (by rw [J.len]; exact hil), hyes a na⟩) (fun f s6 hsp => ?_) (fun _ _ z => False.elim z)
    cases f with
    | next =>
      obtain ⟨σ6, H6, S6, q6⟩ := hsp
      have K6 : Inv X ((a, o4) :: pins) σ6 H6 s6 := ⟨ok, S6.os, S6.bare, S6.base, S6.loc, S6.cell, S6.free, S6.freeC, fun p hp => S6.pin p (List.mem_append_left _ (by
        rcases List.mem_append.mp hp with h | h
        · exact List.mem_cons_of_mem _ (List.mem_append_left _ h)
        · rcases List.mem_cons.mp h with h | h
          · rw [h]; exact List.mem_cons_self
          · exact List.mem_cons_of_mem _ (List.mem_append_right _ h))), S6.hok, S6.len⟩
      exact gone_ok K6 hN hi hln fun s7 J7 => .inr ⟨a, o4, cls, d, _, H6, J7, z4, ⟨_, d4⟩, q6⟩
    | brk => exact hsp.elim fun _ z => z.elim fun _ z => z.2.elim
    | cont => exact hsp.elim fun _ z => z.elim fun _ z => z.2.elim
    | ret u => exact hsp.elim fun _ z => z.elim fun _ z => z.elim fun _ z => z.2.2.elim
theorem pss_keep {u : TS} (hs : X.stack = X.env :: X.outer) (hf : X.env.frame = some X.env.locals) (hN : X.N.Nodup) (hi : X.N[i]? = some n) (hil : i < X.N.length) (hln : X.env.kindOf n = some .local) (hc : Names X x c)
    (hb : ∀ (W : WX) (pn : List (Addr × Obj)) (xe : Value → Shared → Prop), L2N.Takes (X.tr pn xe) W → PassesOwn (model X.prog X.w) X.A X.env xe → PSs (X.tr pn xe) body (tb W))
    (hsu : ∀ (a : Addr) (oe : Obj) (pn : List (Addr × Obj)), PS (X.suite a ((a, oe) :: pn)) b₀ (tAsg (tVar i) (gName j))) (hr : PSs X rest u)
    (hk : ∀ (a : Addr) (oe : Obj) (cls : Value) (d : Option Addr), L2N.Zn cls d oe → (∃ vs, oe.data = .fields vs) → PSs { X with pn := (a, oe) :: X.pn } rest (tk a cls d)) :
    PSs X (.Try body [.ExceptHandler (some (.Name x np)) (some n) [b₀] pos'] [] [] pos :: rest) (fun D σ H => tb (wKeep X.K c i j tk D) { D with nx := u D } σ H) := by
  refine ⟨fun pins s σ H D I h => wpAny_execs_cons (thn (run_keep hs hf hN hi hil hln hc hb hsu I h) fun f s1 q => ?_)⟩
  cases f with
  | next =>
    rcases q with ⟨σ', H', J, q⟩ | ⟨a, oe, cls, d, σ', H', J, z, w, q⟩
    · exact hr.run pins s1 σ' H' D J q
    · refine thn ((hk a oe cls d z w).run pins s1 σ' H' D (inv_pin J) q) fun f2 s2 hq => ?_
      cases f2 with
      | next => exact hq.elim fun σ2 y => y.elim fun H2 y => ⟨σ2, H2, inv_unpin I.ok y.1, y.2⟩
      | brk => exact hq.elim fun σ2 y => y.elim fun H2 y => ⟨σ2, H2, inv_unpin I.ok y.1, y.2⟩
      | cont => exact hq.elim fun σ2 y => y.elim fun H2 y => ⟨σ2, H2, inv_unpin I.ok y.1, y.2⟩
      | ret u2 => exact hq.elim fun v2 y => y.elim fun σ2 y => y.elim fun H2 y => ⟨v2, σ2, H2, inv_unpin I.ok y.1, y.2.1, y.2.2⟩
  | ret v => exact q
  | brk => exact q
  | cont => exact q
end
def pTryKeep (i j : Nat) (cs : Nat → Option Bool) (pb : PXR → PSt) (pr : PSt) (pk : Nat → PyData → PSt) : PSt := fun D env => pb (fun k d env1 => cs k = some true ∧ pk k d D ((env1.set i .un).set j .un)) { D with nx := pr D } env
section
variable {X : Cx} {E : Ent} {ec : ECl}
theorem set_keep {α : Type} {l : List α} {i j : Nat} {a b : α} (h : i ≠ j) : ((l.set i b).set j b).set i a = (l.set i a).set j b := by
  rw [List.set_comm _ _ h.symm, List.set_set]
theorem ls_tryKeep {x n : Str} {c : Value} {i j : Nat} {body rest : List Stmt} {b₀ : Stmt} {np pos pos' : Pos} {cs : Nat → Option Bool} {pb : PXR → PSt} {pr : PSt} {pk : Nat → PyData → PSt}
    (hs : X.stack = X.env :: X.outer) (hf : X.env.frame = some X.env.locals) (hN : X.N.Nodup) (hi : X.N[i]? = some n) (hln : X.env.kindOf n = some .local) (hc : Names X x c) (hcs : ∀ k C b, ec k = some C → cs k = some b → PySem.W.exmOne X.K (.ref C) c = some b)
    (hij : i ≠ j) (hil : i < X.N.length) (hjl : j < X.N.length) (hfi : E.fix i = none) (hfj : E.fix j = none)
    (hb : ∀ (W : WX) (pn : List (Addr × Obj)) (xe : Value → Shared → Prop) (R : PXR) (E' : Ent), E'.fix = E.fix → L2N.Takes (X.tr pn xe) W → PassesOwn (model X.prog X.w) X.A X.env xe → Lk X.K E' ec X.N.length R W → PSs (X.tr pn xe) body (liftS X.K E' (pb R)))
    (hsu : ∀ (a : Addr) (oe : Obj) (pn : List (Addr × Obj)), PS (X.suite a ((a, oe) :: pn)) b₀ (tAsg (tVar i) (gName j))) (hr : PSs X rest (liftS X.K E pr))
    (hk : ∀ (a dd : Addr) (oe : Obj) (k : Nat) (C : Addr) (v : V) (d : PyData) (E' : Ent), ec k = some C → L2N.Zn (.ref C) (some dd) oe → (∃ vs, oe.data = .fields vs) → ErI E E' j a dd v d → PSs { X with pn := (a, oe) :: X.pn } rest (liftS X.K E' (pk k d))) :
    PSs X (.Try body [.ExceptHandler (some (.Name x np)) (some n) [b₀] pos'] [] [] pos :: rest) (liftS X.K E (pTryKeep i j cs pb pr pk)) := by
  refine ⟨fun pins s σ H D I ⟨F, env, As, D', S, fx, q, kk⟩ => (pss_keep (i := i) (j := j) (c := c) (u := liftS X.K E pr) (tb := fun W D σ H => ∃ R E', E'.fix = E.fix ∧ Lk X.K E' ec X.N.length R W ∧ liftS X.K E' (pb R) D σ H)
    (tk := fun a cls d D σ H => ∃ k C dd v pd E', ec k = some C ∧ cls = .ref C ∧ d = some dd ∧ ErI E E' j a dd v pd ∧ liftS X.K E' (pk k pd) D σ H) hs hf hN hi hil hln hc
    (fun W pn xe t po => ⟨fun pins s σ H D I ⟨R, E', he, lk, l⟩ => (hb W pn xe R E' he t po lk).run pins s σ H D I l⟩) hsu hr
    (fun a oe cls d hz hv => ⟨fun pins s σ H D I ⟨k, C, dd, v, pd, E', hec, ec1, ed, er, l⟩ => by
      subst ec1
      subst ed
      exact (hk a dd oe k C v pd E' hec hz hv er).run pins s σ H D I l⟩)).run pins s σ H D I ?_⟩
  refine ⟨_, reE E F H As, rfl, ?_, F, env, As, { D' with nx := pr D' }, S.re, fx.re, q, ⟨fun σ' F' H' env' As' hl S' f p => ⟨F', env', As', D', S.unre S', fx.to hl, p, kk.to hl f⟩, fun σ' F' H' env' As' hl S' f p => kk.bk σ' F' H' env' As' hl (S.unre S') f p,
    fun σ' F' H' env' As' hl S' f p => kk.ct σ' F' H' env' As' hl (S.unre S') f p, fun σ' F' H' env' As' hl S' f v r ar R p => kk.rt σ' F' H' env' As' hl (S.unre S') f v r ar (RsOk.unre S R) p⟩⟩
  intro k C d v dd F1 H1 σ1 env1 As1 hec hl fi S1 hv hd ⟨h, hR⟩
  refine ⟨hcs k C true hec h, fun a na => ?_⟩
  have S0 := S.unre S1
  have hF : F1 dd = none := by
    cases e : F1 dd with
    | none => rfl
    | some u =>
      rw [S0.sub dd u e] at hd
      cases hd
  have S2 : SR X.K E F1 (errH H1 dd v) σ1 env1 As1 := S0.other hF (fun j hm => S0.live j dd hm hd) (S0.free hd).symm
  have S3 := (S2.blank i).setUn hfi none
  have S4 := (S3.blank j).setUn hfj (some (.ref a))
  rw [set_keep hij]
  have lσ : ((σ1.set i none).set j (some (V.ref a))).length = σ1.length := by rw [List.length_set, List.length_set]
  have gone : ∀ y, dd ∉ setA (setA As1 i []) j [] y := fun y hy => by
    unfold setA at hy
    split at hy
    · cases hy
    · split at hy
      · cases hy
      · exact S0.live y dd hy hd
  refine ⟨k, C, dd, v, d, { reE E F1 (errH H1 dd v) (setA (setA As1 i []) j []) with fix := fun y => if y = j then some (.ref a) else E.fix y }, hec, rfl, rfl, ⟨if_pos rfl, fun y hy => if_neg hy, upd_same, fun ⟨y, hy⟩ => gone y hy, hv⟩, F1, (env1.set i .un).set j .un, setA (setA As1 i []) j [], D', ?_, ?_, hR, ?_⟩
  · have z := S4.re
    refine ⟨z.sub, z.f0, z.grow, z.keep, z.len, z.slot, z.out, z.own, z.nd, z.disj, fun y w e => ?_⟩
    by_cases cy : y = j
    · have e' : (if y = j then some (V.ref a) else E.fix y) = some w := e
      rw [if_pos cy] at e'
      cases e'
      rw [cy]
      exact List.getElem?_set_self (by rw [List.length_set]; omega)
    · have e' : (if y = j then some (V.ref a) else E.fix y) = some w := e
      rw [if_neg cy] at e'
      exact z.fix y w e'
  · intro y w e
    have e' : (if y = j then some (V.ref a) else E.fix y) = some w := e
    rw [lσ]
    by_cases cy : y = j
    · omega
    · rw [if_neg cy] at e'
      exact fi y w e'
  · have back : ∀ {σ' : L2.St} {F' H' : Hp} {env' : PEnv} {As' : Nat → List Addr}, SR X.K { reE E F1 (errH H1 dd v) (setA (setA As1 i []) j []) with fix := fun y => if y = j then some (.ref a) else E.fix y } F' H' σ' env' As' → SR X.K E F' H' σ' env' As' := fun {σ' F' H' env' As'} S' => by
      refine S4.unre (As' := As') ⟨S'.sub, S'.f0, S'.grow, S'.keep, S'.len, S'.slot, S'.out, S'.own, S'.nd, S'.disj, fun y w e => ?_⟩
      have e1 : E.fix y = some w := e
      have cy : y ≠ j := fun z => by
        rw [z, hfj] at e1
        cases e1
      exact S'.fix y w ((if_neg cy).trans e1)
    have ll : ∀ {σ' : L2.St}, σ'.length = ((σ1.set i none).set j (some (V.ref a))).length → σ'.length = σ.length := fun {σ'} z => by rw [z, lσ, hl, I.len]
    have ff : ∀ {F' : Hp}, Same F1 F' → Same F F' := fun z => Same.trans S1.f0 z
    exact ⟨fun σ' F' H' env' As' hl' S' f p => kk.nx _ F' H' _ _ (ll hl') (back S') (ff f) p, fun σ' F' H' env' As' hl' S' f p => kk.bk _ F' H' _ _ (ll hl') (back S') (ff f) p,
      fun σ' F' H' env' As' hl' S' f p => kk.ct _ F' H' _ _ (ll hl') (back S') (ff f) p, fun σ' F' H' env' As' hl' S' f v r ar R p => kk.rt σ' F' H' env' As' (ll hl') (back S') (ff f) v r ar (RsOk.unre S4 R) p⟩
/-- e is None: it isn't -/
def pNoneE : PTt := fun env Q => Q false env
theorem lt_noneE {E0 E' : Ent} {a dd : Addr} {v : V} {d : PyData} {n : Str} {j0 i : Nat} {p2 p3 pos : Pos} (er : ErI E0 E' i a dd v d) (he : PE X (.Name n p2) (tVar i)) : PT X (.Compare (.Name n p2) [.Is] [.Constant .none j0 p3] pos) (liftT X.K E' pNoneE) := by
  refine pt_w (pt_cmpR op_isN he pe_non (nomark _)) fun σ H Q ⟨ts, F, env, As, Q', S, fx, q, k⟩ => ?_
  have e1 := S.fix i _ er.fixi
  rw [List.getElem?_append_left (fx i _ er.fixi)] at e1
  exact ⟨_, e1, rfl, _, rfl, k false F H env As S (Same.refl F) q⟩
end
end PL

/-! the heap-free meanings of the defs of law_k52_whole_texts_and_scripts, printed by gen.py -/
namespace K52
open PySem PL

/-- command_text(command): slots command 0, first 1, last 2 -/
def p_command_text : PSt := (pSeq (pUnp (.tup [(.nm 1), (.nm 2)]) (pName 0))
 (pRet (pV (pIf (pTst (pOp2 eqD (pName 1) (pName 2))) (pE (pCallL strD (pACons (pName 1) pANil))) (pE (pOp2 addD (pE (pOp2 addD (pE (pCallL strD (pACons (pName 1) pANil))) (pC (.str (PySem.Str.ofString "-"))))) (pE (pCallL strD (pACons (pName 2) pANil)))))))))
@[irreducible] def sp_command_text : SpP := spOf [] 2 p_command_text

/-- show_script(commands): slots commands 0, words 1, index 2, command 3, word 4, many 5 -/
def p_show_script : PSt := (pSeq (pSet 1 (pCallL listD pANil))
 (pSeq (pB [2, 3, 4, 5] (pFor (itEnum (pACons (pName 0) pANil)) (.tup [(.nm 2), (.nm 3)]) (pW [2, 3, 4, 5] (pIfS (pAnd (pTst (pOp2 gtD (pName 2) (pC (.int 0)))) (pTst (pOp2 eqD (pName 3) (pIxN 0 (pE (pOp2 subD (pName 2) (pC (.int 1)))))))) (pSeq (pUnp (.tup [(.nm 4), (.nm 5)]) (pMeth0 1 pop0D))
 (pDrop (pV (pMeth 1 appendD (pACons (pE (pCallL tupD (pACons (pName 4) (pACons (pE (pOp2 addD (pName 5) (pC (.int 1)))) pANil)))) pANil)))))
 (pDrop (pV (pMeth 1 appendD (pACons (pE (pCallL tupD (pACons (pE (pCall 1 [] sp_command_text (pACons (pName 3) pANil))) (pACons (pC (.int 1)) pANil)))) pANil))))))))
 (pSeq (pIfS (pBorT [1] (pTst (pOp2 eqD (pName 1) (pE (pCallL listD pANil))))) (pRet (pV (pC (.str (PySem.Str.ofString "none")))))
 pNext)
 (pRet (pTM joinD (pC (.str (PySem.Str.ofString " "))) (pE (pLc (itList (pName 1)) (.tup [(.nm 4), (.nm 5)]) pYes (pE (pOp2 addD (pName 4) (pIf (pTst (pOp2 gtD (pName 5) (pC (.int 1)))) (pE (pOp2 addD (pC (.str (PySem.Str.ofString "*"))) (pE (pCallL strD (pACons (pName 5) pANil))))) (pC (.str (PySem.Str.ofString "")))))) [4, 5])))))))
@[irreducible] def sp_show_script : SpP := spOf [] 5 p_show_script

/-- number_in(word): slots word 0, sign 1 -/
def p_number_in : PSt := (pSeq (pIfS (pOr (pNot (pTst (pChain leD leD (pC (.int 1)) (pLenM 0) (pC (.int 40))))) (pNot (pTst (pCallL allD (pACons (pE (pLc (itStr (pName 0)) (.nm 1) pYes (pE (pOp2 inSD (pName 1) (pC (.str (PySem.Str.ofString "0123456789"))))) [1])) pANil))))) (pRet (pV (pC .none)))
 pNext)
 (pRet (pV (pIf (pAnd (pTst (pOp2 gtD (pLenM 0) (pC (.int 1)))) (pTst (pOp2 eqD (pIxN 0 (pC (.int 0))) (pC (.str (PySem.Str.ofString "0")))))) (pC .none) (pE (pCallL intSD (pACons (pName 0) pANil)))))))
@[irreducible] def sp_number_in : SpP := spOf [] 1 p_number_in

/-- command_in(word): slots word 0, numbers 1, command 2, part 3 -/
def p_command_in : PSt := (pSeq (pSet 1 (pLc (itList (pE (pTM splitD (pName 0) (pC (.str (PySem.Str.ofString "-")))))) (.nm 3) pYes (pE (pCall 1 [] sp_number_in (pACons (pName 3) pANil))) [3]))
 (pSeq (pIfS (pOr (pTst (pOp2 inD (pC .none) (pName 1))) (pTst (pOp2 gtD (pLenM 1) (pC (.int 2))))) (pRet (pV (pC .none)))
 pNext)
 (pSeq (pSet 2 (pCallL tupD (pACons (pIxN 1 (pC (.int 0))) (pACons (pIxN 1 (pE (pOp1 negD (pC (.int 1))))) pANil))))
 (pRet (pV (pIf (pAnd (pTst (pChain leD leD (pC (.int 1)) (pIxN 2 (pC (.int 0))) (pIxN 2 (pC (.int 1))))) (pTst (pOp2 eqD (pE (pCall 1 [] sp_command_text (pACons (pName 2) pANil))) (pName 0)))) (pName 2) (pC .none)))))))
@[irreducible] def sp_command_in : SpP := spOf [] 3 p_command_in

/-- group_in(word): slots word 0, shown 1, more 2, command 3, many 4 -/
def p_group_in : PSt := (pSeq (pUnpStar 1 2 (pE (pTM splitD (pName 0) (pC (.str (PySem.Str.ofString "*"))))))
 (pSeq (pSet 3 (pCall 1 [] sp_command_in (pACons (pName 1) pANil)))
 (pSeq (pSet 4 (pV (pIf (pTst (pOp2 eqD (pLenM 2) (pC (.int 1)))) (pE (pCall 1 [] sp_number_in (pACons (pIxN 2 (pC (.int 0))) pANil))) (pC (.int 1)))))
 (pSeq (pIfS (pOr (pTst (pOp2 isD (pName 3) (pC .none))) (pOr (pTst (pOp2 isD (pName 4) (pC .none))) (pOr (pTst (pOp2 gtD (pLenM 2) (pC (.int 1)))) (pAnd (pTst (pOp2 eqD (pLenM 2) (pC (.int 1)))) (pTst (pOp2 ltD (pName 4) (pC (.int 2)))))))) (pRet (pV (pC .none)))
 pNext)
 (pRet (pCallL tupD (pACons (pName 3) (pACons (pName 4) pANil))))))))
@[irreducible] def sp_group_in : SpP := spOf [] 4 p_group_in

/-- read_script(text): slots text 0, groups 1, found 2, command 3, many 4, word 5, early 6, late 7 -/
def p_read_script (RX : PXR) : PSt := (pSeq (pIfS (pTst (pOp2 eqD (pName 0) (pC (.str (PySem.Str.ofString "none"))))) (pRet (pCallL listD pANil))
 pNext)
 (pSeq (pSet 1 (pLc (itList (pE (pTM splitD (pName 0) (pC (.str (PySem.Str.ofString " ")))))) (.nm 5) pYes (pE (pCall 1 [] sp_group_in (pACons (pName 5) pANil))) [5]))
 (pSeq (pIfS (pOr (pTst (pOp2 inD (pC .none) (pName 1))) (pTst (pCallL anyD (pACons (pE (pLc (itZip (pACons (pName 1) (pACons (pE (pSliceN 1 (pBd (pC (.int 1))) pNoB)) pANil))) (.tup [(.nm 6), (.nm 7)]) pYes (pE (pOp2 eqD (pIxN 6 (pC (.int 0))) (pIxN 7 (pC (.int 0))))) [6, 7])) pANil)))) (pRaise RX 0 (pName 0))
 pNext)
 (pSeq (pSet 2 (pCallL listD pANil))
 (pSeq (pB [0, 3, 4, 5, 6, 7] (pFor (itList (pName 1)) (.tup [(.nm 3), (.nm 4)]) (pW [0, 3, 4, 5, 6, 7] (pDrop (pV (pMeth 2 extendD (pACons (pE (pOp2 mulD (pE (pCallL listD (pACons (pName 3) pANil))) (pName 4))) pANil)))))))
 (pRetName 2))))))
@[irreducible] def sp_read_script : SpX := spOfX [] 7 p_read_script

/-- check_size(size): slots size 0 -/
def p_check_size : PSt := (pIfS (pTst (pOp2 ltD (pName 0) (pC (.int 1)))) pNever
 pNext)
@[irreducible] def sp_check_size : SpP := spOf [] 0 p_check_size

/-- check_script(size, script): slots size 0, script 1, index 2, first 3, last 4 -/
def p_check_script : PSt := (pB [2, 3, 4] (pFor (itEnum (pACons (pName 1) pANil)) (.tup [(.nm 2), (.tup [(.nm 3), (.nm 4)])]) (pW [2, 3, 4] (pIfS (pNot (pTst (pChain3 leD leD leD (pC (.int 1)) (pName 3) (pName 4) (pName 0)))) pNever
 pNext))))
@[irreducible] def sp_check_script : SpP := spOf [] 3 p_check_script

/-- check_arrangement(row): slots row 0, seen 1, index 2, value 3 -/
def p_check_arrangement : PSt := (pSeq (pSet 1 pDNew)
 (pB [2, 3] (pFor (itEnum (pACons (pName 0) pANil)) (.tup [(.nm 2), (.nm 3)]) (pW [2, 3] (pSeq (pIfS (pOr (pNot (pTst (pChain leD leD (pC (.int 1)) (pName 3) (pLenM 0)))) (pTst (pDIn 1 (pName 3)))) pNever
 pNext)
 (pDPut 1 (pName 3) (pC (.bool true))))))))
@[irreducible] def sp_check_arrangement : SpP := spOf [] 3 p_check_arrangement

/-- after_command(row, command): slots row 0, command 1, first 2, last 3 -/
def p_after_command : PSt := (pSeq (pUnp (.tup [(.nm 2), (.nm 3)]) (pName 1))
 (pRet (pCallL listD (pAStar (pE (pSliceN 0 pNoB (pBd (pE (pOp2 subD (pName 2) (pC (.int 1))))))) (pAStar (pE (pCallL sortedD (pACons (pE (pSliceN 0 (pBd (pE (pOp2 subD (pName 2) (pC (.int 1))))) (pBd (pName 3)))) pANil))) (pAStar (pE (pSliceN 0 (pBd (pName 3)) pNoB)) pANil))))))
@[irreducible] def sp_after_command : SpP := spOf [] 2 p_after_command

/-- after_script(row, script): slots row 0, script 1, found 2, command 3 -/
def p_after_script : PSt := (pSeq (pSet 2 (pCallL copyD (pACons (pName 0) pANil)))
 (pSeq (pB [0, 3] (pFor (itList (pName 1)) (.nm 3) (pW [0, 3] (pSet 2 (pCall 2 [] sp_after_command (pACons (pName 2) (pACons (pName 3) pANil)))))))
 (pRetName 2)))
@[irreducible] def sp_after_script : SpP := spOf [] 2 p_after_script

/-- check_run(row, commands): slots row 0, commands 1 -/
def p_check_run : PSt := (pSeq (pDrop (pCall 1 [] sp_check_size (pACons (pLenM 0) pANil)))
 (pDrop (pCall 2 [] sp_check_script (pACons (pLenM 0) (pACons (pName 1) pANil)))))
@[irreducible] def sp_check_run : SpP := spOf [] 0 p_check_run

/-- run(row, commands): slots row 0, commands 1 -/
def p_run : PSt := (pSeq (pDrop (pCall 2 [] sp_check_run (pACons (pName 0) (pACons (pName 1) pANil))))
 (pRet (pCall 2 [] sp_after_script (pACons (pName 0) (pACons (pName 1) pANil)))))
@[irreducible] def sp_run : SpP := spOf [] 0 p_run

/-- stages(row, commands): slots row 0, commands 1, found 2, command 3 -/
def p_stages : GStR := (gSeq (gPlain (pDrop (pCall 2 [] sp_check_run (pACons (pName 0) (pACons (pName 1) pANil)))))
 (gSeq (gPlain (pSet 2 (pCallL copyD (pACons (pName 0) pANil))))
 (gSeq (gYield (pE (pCallL copyD (pACons (pName 2) pANil))))
 (gFor (itList (pName 1)) (.nm 3) (gSeq (gPlain (pSet 2 (pCall 2 [] sp_after_command (pACons (pName 2) (pACons (pName 3) pANil)))))
 (gYield (pE (pCallL copyD (pACons (pName 2) pANil)))))))))
@[irreducible] def sp_stages : SpY := spGn 2 p_stages

/-- descending(size): slots size 0 -/
def p_descending : PSt := (pRet (pListRng (pACons (pName 0) (pACons (pC (.int 0)) (pACons (pE (pOp1 negD (pC (.int 1)))) pANil)))))
@[irreducible] def sp_descending : SpP := spOf [] 0 p_descending

/-- effect_in(size, commands): slots size 0, commands 1 -/
def p_effect_in : PSt := (pRet (pCall 2 [] sp_after_script (pACons (pE (pCall 1 [] sp_descending (pACons (pName 0) pANil))) (pACons (pName 1) pANil))))
@[irreducible] def sp_effect_in : SpP := spOf [] 0 p_effect_in

/-- effect(size, commands): slots size 0, commands 1 -/
def p_effect : PSt := (pSeq (pDrop (pCall 1 [] sp_check_size (pACons (pName 0) pANil)))
 (pSeq (pDrop (pCall 2 [] sp_check_script (pACons (pName 0) (pACons (pName 1) pANil))))
 (pRet (pCall 2 [] sp_effect_in (pACons (pName 0) (pACons (pName 1) pANil))))))
@[irreducible] def sp_effect : SpP := spOf [] 0 p_effect

/-- check_scripts(size, first, second): slots size 0, first 1, second 2 -/
def p_check_scripts : PSt := (pSeq (pDrop (pCall 1 [] sp_check_size (pACons (pName 0) pANil)))
 (pSeq (pDrop (pCall 2 [] sp_check_script (pACons (pName 0) (pACons (pName 1) pANil))))
 (pDrop (pCall 2 [] sp_check_script (pACons (pName 0) (pACons (pName 2) pANil))))))
@[irreducible] def sp_check_scripts : SpP := spOf [] 0 p_check_scripts

/-- same_scripts(size, first, second): slots size 0, first 1, second 2 -/
def p_same_scripts : PSt := (pSeq (pDrop (pCall 3 [] sp_check_scripts (pACons (pName 0) (pACons (pName 1) (pACons (pName 2) pANil)))))
 (pRet (pV (pE (pOp2 eqD (pE (pCall 2 [] sp_effect_in (pACons (pName 0) (pACons (pName 1) pANil)))) (pE (pCall 2 [] sp_effect_in (pACons (pName 0) (pACons (pName 2) pANil)))))))))
@[irreducible] def sp_same_scripts : SpP := spOf [] 0 p_same_scripts

/-- turns_of(size, commands): slots size 0, commands 1, before 2, command 3, after 4 -/
def p_turns_of : GStR := (gSeq (gPlain (pSet 2 (pCall 1 [] sp_descending (pACons (pName 0) pANil))))
 (gFor (itList (pName 1)) (.nm 3) (gSeq (gPlain (pSet 4 (pCall 2 [] sp_after_command (pACons (pName 2) (pACons (pName 3) pANil)))))
 (gSeq (gYield (pE (pCallL tupD (pACons (pName 2) (pACons (pName 4) pANil)))))
 (gPlain (pSet 2 (pV (pName 4))))))))
@[irreducible] def sp_turns_of : SpY := spGn 3 p_turns_of

/-- trimmed(size, commands): slots size 0, commands 1, found 2, before 3, after 4, places 5, place 6 -/
def p_trimmed : PSt := (pSeq (pDrop (pCall 1 [] sp_check_size (pACons (pName 0) pANil)))
 (pSeq (pDrop (pCall 2 [] sp_check_script (pACons (pName 0) (pACons (pName 1) pANil))))
 (pSeq (pSet 2 (pCallL listD pANil))
 (pSeq (pB [3, 4, 5, 6] (pFor (itGen 2 sp_turns_of (pACons (pName 0) (pACons (pName 1) pANil))) (.tup [(.nm 3), (.nm 4)]) (pW [3, 4, 5, 6] (pSeq (pSet 5 (pLc (itRng1 (pACons (pName 0) pANil)) (.nm 6) (pTst (pOp2 neD (pIxN 3 (pName 6)) (pIxN 4 (pName 6)))) (pName 6) [6]))
 (pIfS (pTst (pOp2 neD (pName 5) (pE (pCallL listD pANil)))) (pDrop (pV (pMeth 2 appendD (pACons (pE (pCallL tupD (pACons (pE (pOp2 addD (pIxN 5 (pC (.int 0))) (pC (.int 1)))) (pACons (pE (pOp2 addD (pIxN 5 (pE (pOp1 negD (pC (.int 1))))) (pC (.int 1)))) pANil)))) pANil))))
 pNext)))))
 (pRetName 2)))))
@[irreducible] def sp_trimmed : SpP := spOf [] 5 p_trimmed

/-- exchanges_in(wanted): slots wanted 0, row 1, found 2, last 3, place 4 -/
def p_exchanges_in : PSt := (pSeq (pPar [1, 2] (pOCons (pCallL copyD (pACons (pName 0) pANil)) (pOCons (pCallL listD pANil) pONil)))
 (pSeq (pB [0, 3, 4] (pFor (itRng3 (pACons (pE (pOp2 subD (pLenM 1) (pC (.int 1)))) (pACons (pC (.int 0)) (pACons (pE (pOp1 negD (pC (.int 1)))) pANil)))) (.nm 3) (pW [0, 3, 4] (pB [0, 4] (pFor (itRng1 (pACons (pName 3) pANil)) (.nm 4) (pW [0, 4] (pIfS (pBorT [1, 2, 4] (pTst (pOp2 ltD (pIxN 1 (pName 4)) (pIxN 1 (pE (pOp2 addD (pName 4) (pC (.int 1)))))))) (pSeq (pSet2 1 (pName 4) 1 (pE (pOp2 addD (pName 4) (pC (.int 1)))) (pIxN 1 (pE (pOp2 addD (pName 4) (pC (.int 1))))) (pIxN 1 (pName 4)))
 (pDrop (pV (pMeth 2 appendD (pACons (pE (pCallL tupD (pACons (pE (pOp2 addD (pName 4) (pC (.int 1)))) (pACons (pE (pOp2 addD (pName 4) (pC (.int 2)))) pANil)))) pANil)))))
 pNext)))))))
 (pRet (pOp1 revD (pName 2)))))
@[irreducible] def sp_exchanges_in : SpP := spOf [] 4 p_exchanges_in

/-- exchanges(wanted): slots wanted 0 -/
def p_exchanges : PSt := (pSeq (pDrop (pCall 1 [] sp_check_arrangement (pACons (pName 0) pANil)))
 (pRet (pCall 1 [] sp_exchanges_in (pACons (pName 0) pANil))))
@[irreducible] def sp_exchanges : SpP := spOf [] 0 p_exchanges

/-- _law_rng(script): slots script 0, digits 1, seed 2, cell 3, far 4 -/
def p_law_rng : PSt := (pSeq (pPar [1, 2] (pOCons (pV (pC (.int 0))) (pOCons (pV (pC (.int 88675123))) pONil)))
 (pSeq (pB [3, 4] (pFor (itList (pE (pSliceN 0 pNoB (pBd (pC (.int 63)))))) (.nm 3) (pW [3, 4] (pSeq (pSet 4 (pV (pE (pCallL absD (pACons (pName 3) pANil)))))
 (pSeq (pIfS (pTst (pOp2 geD (pName 4) (pE (pOp2 powD (pC (.int 10)) (pC (.int 18)))))) (pSet 1 (pOp2 addD (pE (pOp2 mulD (pName 1) (pE (pOp2 powD (pC (.int 10)) (pC (.int 60)))))) (pE (pOp2 modD (pName 4) (pE (pOp2 powD (pC (.int 10)) (pC (.int 60))))))))
 pNext)
 (pSet 2 (pOp2 modD (pE (pOp2 addD (pE (pOp2 addD (pE (pOp2 mulD (pName 2) (pC (.int 1000003)))) (pE (pOp2 modD (pName 3) (pC (.int 2305843009213693921)))))) (pC (.int 7)))) (pC (.int 2305843009213693951)))))))))
 (pRet (pCallL listD (pACons (pName 1) (pACons (pName 2) (pACons (pC (.int 0)) pANil)))))))
@[irreducible] def sp_law_rng : SpP := spOf [0] 4 p_law_rng

/-- _law_draw(rng, limit): slots rng 0, limit 1, found 2, mixed 3 -/
def p_law_draw : PSt := (pSeq (pIfS (pBorT [0] (pTst (pOp2 gtD (pIxN 0 (pC (.int 0))) (pC (.int 0))))) (pSeq (pSet 2 (pOp2 modD (pIxN 0 (pC (.int 0))) (pName 1)))
 (pSeq (pSetIx 0 (pC (.int 0)) (pE (pOp2 fdivD (pIxN 0 (pC (.int 0))) (pName 1))))
 (pRetName 2)))
 pNext)
 (pSeq (pSetIx 0 (pC (.int 2)) (pE (pOp2 addD (pIxN 0 (pC (.int 2))) (pC (.int 1)))))
 (pSeq (pSet 3 (pOp2 modD (pE (pOp2 powD (pE (pOp2 addD (pIxN 0 (pC (.int 1))) (pE (pOp2 mulD (pC (.int 998244353)) (pIxN 0 (pC (.int 2))))))) (pC (.int 3)))) (pC (.int 162259276829213363391578010288127))))
 (pSeq (pSet 3 (pOp2 modD (pE (pOp2 powD (pE (pOp2 addD (pName 3) (pE (pOp2 mulD (pC (.int 32452843)) (pIxN 0 (pC (.int 2))))))) (pC (.int 3)))) (pC (.int 170141183460469231731687303715884105727))))
 (pRet (pOp2 modD (pE (pOp2 fdivD (pName 3) (pC (.int 1048576)))) (pName 1)))))))
@[irreducible] def sp_law_draw : SpP := spOf [0] 2 p_law_draw

/-- _law_commands(rng, wide, most): slots rng 0, wide 1, most 2, found 3, turn 4, early 5, late 6, again 7 -/
def p_law_commands : PSt := (pSeq (pSet 3 (pCallL listD pANil))
 (pSeq (pB [4, 5, 6, 7] (pFor (itRng1 (pACons (pE (pCall 2 [0] sp_law_draw (pALend 0 (pACons (pE (pOp2 addD (pName 2) (pC (.int 1)))) pANil)))) pANil)) (.nm 4) (pW [4, 5, 6, 7] (pSeq (pSet 5 (pOp2 addD (pC (.int 1)) (pE (pCall 2 [0] sp_law_draw (pALend 0 (pACons (pName 1) pANil))))))
 (pSeq (pSet 6 (pOp2 ixD (pE (pCallL listD (pACons (pName 5) (pACons (pE (pCallL minD (pACons (pName 1) (pACons (pE (pOp2 addD (pName 5) (pC (.int 1)))) pANil)))) (pACons (pE (pOp2 addD (pName 5) (pE (pCall 2 [0] sp_law_draw (pALend 0 (pACons (pE (pOp2 addD (pE (pOp2 subD (pName 1) (pName 5))) (pC (.int 1)))) pANil)))))) (pACons (pName 1) pANil)))))) (pE (pCall 2 [0] sp_law_draw (pALend 0 (pACons (pC (.int 4)) pANil))))))
 (pSeq (pSet 7 (pV (pBor [3] (pAndV (pE (pOp2 neD (pName 3) (pE (pCallL listD pANil)))) (pE (pOp2 eqD (pE (pCall 2 [0] sp_law_draw (pALend 0 (pACons (pC (.int 5)) pANil)))) (pC (.int 0))))))))
 (pDrop (pV (pMeth 3 appendD (pACons (pIf (pTst (pV (pName 7))) (pIxN 3 (pE (pOp1 negD (pC (.int 1))))) (pE (pCallL tupD (pACons (pName 5) (pACons (pName 6) pANil))))) pANil))))))))))
 (pRetName 3)))
@[irreducible] def sp_law_commands : SpP := spOf [0] 5 p_law_commands

/-- _law_arranged(rng, wide): slots rng 0, wide 1, left 2, found 3 -/
def p_law_arranged : PSt := (pSeq (pPar [2, 3] (pOCons (pListRng (pACons (pC (.int 1)) (pACons (pE (pOp2 addD (pName 1) (pC (.int 1)))) pANil))) (pOCons (pCallL listD pANil) pONil)))
 (pSeq (pB [1] (pWhile (pBorT [0, 2, 3] (pTst (pOp2 neD (pName 2) (pE (pCallL listD pANil))))) (pW [1] (pDrop (pV (pMeth 3 appendD (pACons (pMeth 2 popAtD (pACons (pE (pCall 2 [0] sp_law_draw (pALend 0 (pACons (pLenM 2) pANil)))) pANil)) pANil)))))))
 (pRetName 3)))
@[irreducible] def sp_law_arranged : SpP := spOf [0] 2 p_law_arranged

/-- _law_values(rng, wide): slots rng 0, wide 1, way 2, low 3, many 4, found 5, place 6 -/
def p_law_values : PSt := (pSeq (pSet 2 (pCall 2 [0] sp_law_draw (pALend 0 (pACons (pC (.int 5)) pANil))))
 (pSeq (pIfS (pTst (pOp2 eqD (pName 2) (pC (.int 2)))) (pRet (pCall 2 [0] sp_law_arranged (pALend 0 (pACons (pName 1) pANil))))
 pNext)
 (pSeq (pUnp (.tup [(.nm 3), (.nm 4)]) (pE (pOp2 ixD (pE (pCallL listD (pACons (pE (pCallL tupD (pACons (pC (.int 0)) (pACons (pC (.int 4)) pANil)))) (pACons (pE (pCallL tupD (pACons (pE (pOp2 subD (pC (.int 0)) (pE (pOp2 powD (pC (.int 10)) (pC (.int 30)))))) (pACons (pE (pOp2 addD (pE (pOp2 mulD (pC (.int 2)) (pE (pOp2 powD (pC (.int 10)) (pC (.int 30)))))) (pC (.int 1)))) pANil)))) (pACons (pE (pCallL tupD (pACons (pC (.int 0)) (pACons (pC (.int 1)) pANil)))) (pACons (pE (pCallL tupD (pACons (pC (.int 0)) (pACons (pC (.int 2)) pANil)))) (pACons (pE (pCallL tupD (pACons (pE (pOp2 subD (pC (.int 0)) (pC (.int 3)))) (pACons (pC (.int 7)) pANil)))) pANil))))))) (pName 2))))
 (pSeq (pSet 5 (pLc (itRng1 (pACons (pName 1) pANil)) (.nm 6) pYes (pE (pOp2 addD (pName 3) (pE (pCall 2 [0] sp_law_draw (pALend 0 (pACons (pName 4) pANil)))))) [6]))
 (pRet (pV (pIf (pTst (pOp2 eqD (pName 2) (pC (.int 4)))) (pE (pSortedR (pACons (pName 5) pANil) (pACons (pC (.bool true)) pANil))) (pName 5))))))))
@[irreducible] def sp_law_values : SpP := spOf [0] 5 p_law_values

/-- _law_kept(line): slots line 0, told 1 -/
def p_law_kept : PSt := (pSeq (pTryN (fun k => List.lookup k [(0, true)]) (fun RX => (pSet 1 (pCall 1 [] sp_show_script (pACons (pE (pCallX 2 1 [] sp_read_script RX (pACons (pName 0) pANil))) pANil))))
 (pSet 1 (pV (pName 0))))
 (pRet (pV (pE (pOp2 eqD (pName 1) (pName 0))))))
@[irreducible] def sp_law_kept : SpP := spOf [] 1 p_law_kept

/-- _law_spoilt(rng, line): slots rng 0, line 1, cut 2, sign 3 -/
def p_law_spoilt : PSt := (pSeq (pSet 2 (pCall 2 [0] sp_law_draw (pALend 0 (pACons (pE (pOp2 addD (pLenM 1) (pC (.int 1)))) pANil))))
 (pSeq (pSet 3 (pOp2 mulSD (pE (pOp2 ixD (pC (.str (PySem.Str.ofString "0-* 12none"))) (pE (pCall 2 [0] sp_law_draw (pALend 0 (pACons (pC (.int 10)) pANil)))))) (pE (pCall 2 [0] sp_law_draw (pALend 0 (pACons (pC (.int 2)) pANil))))))
 (pSeq (pSet 3 (pV (pIf (pTst (pOp2 inSD (pC (.str (PySem.Str.ofString "*"))) (pE (pSliceS (pName 1) (pBd (pE (pCallL maxD (pACons (pC (.int 0)) (pACons (pE (pOp2 subD (pName 2) (pC (.int 4)))) pANil))))) (pBd (pName 2)))))) (pC (.str (PySem.Str.ofString ""))) (pName 3))))
 (pRet (pOp2 addD (pE (pOp2 addD (pE (pSliceS (pName 1) pNoB (pBd (pName 2)))) (pName 3))) (pE (pSliceS (pName 1) (pBd (pE (pOp2 addD (pName 2) (pE (pOp2 mulD (pE (pCall 2 [0] sp_law_draw (pALend 0 (pACons (pC (.int 2)) pANil)))) (pE (pCallL intD (pACons (pE (pOp2 neD (pName 3) (pC (.str (PySem.Str.ofString " "))))) pANil)))))))) pNoB)))))))
@[irreducible] def sp_law_spoilt : SpP := spOf [0] 2 p_law_spoilt

/-- _law_is_short(one): slots one 0, word 1 -/
def p_law_is_short : PSt := (pRet (pV (pE (pOp2 eqD (pE (pLc (itList (pE (pTM splitD (pName 0) (pC (.str (PySem.Str.ofString " ")))))) (.nm 1) (pAnd (pTst (pOp2 inSD (pC (.str (PySem.Str.ofString "*"))) (pName 1))) (pTst (pOp2 gtD (pE (pCallL lenD (pACons (pE (pOp2 ixD (pE (pTM splitD (pName 1) (pC (.str (PySem.Str.ofString "*"))))) (pE (pOp1 negD (pC (.int 1)))))) pANil))) (pC (.int 2))))) (pC (.int 1)) [1])) (pE (pCallL listD pANil))))))
@[irreducible] def sp_law_is_short : SpP := spOf [] 1 p_law_is_short

/-- law(script): slots script 0, rng 1, lap 2, wide 3, some 4, other 5, written 6, again 7, spoilt 8, line 9, wanted 10, more 11, back 12 -/
def p_law : PSt := (pSeq (pSet 1 (pCall 1 [0] sp_law_rng (pALend 0 pANil)))
 (pSeq (pB [2, 3, 4, 5, 6, 7, 8, 9, 10, 11, 12] (pFor (itRng1 (pACons (pE (pOp2 addD (pC (.int 6)) (pE (pCallL minD (pACons (pC (.int 12)) (pACons (pLenM 0) pANil)))))) pANil)) (.nm 2) (pW [2, 3, 4, 5, 6, 7, 8, 9, 10, 11, 12] (pSeq (pSet 3 (pOp2 addD (pC (.int 1)) (pE (pCall 2 [0] sp_law_draw (pALend 1 (pACons (pE (pOp2 ixD (pE (pCallL listD (pACons (pC (.int 5)) (pACons (pC (.int 20)) pANil)))) (pE (pCall 2 [0] sp_law_draw (pALend 1 (pACons (pC (.int 2)) pANil)))))) pANil))))))
 (pSeq (pPar [4, 5] (pOCons (pCall 3 [0] sp_law_commands (pALend 1 (pACons (pName 3) (pACons (pE (pOp2 ixD (pE (pCallL listD (pACons (pC (.int 4)) (pACons (pC (.int 60)) pANil)))) (pE (pCall 2 [0] sp_law_draw (pALend 1 (pACons (pC (.int 2)) pANil)))))) pANil)))) (pOCons (pCall 3 [0] sp_law_commands (pALend 1 (pACons (pName 3) (pACons (pC (.int 2)) pANil)))) pONil)))
 (pSeq (pSet 6 (pCall 1 [] sp_show_script (pACons (pName 4) pANil)))
 (pSeq (pSet 7 (pCall 1 [] (noX sp_read_script) (pACons (pName 6) pANil)))
 (pSeq (pIfS (pOr (pTst (pOp2 neD (pE (pCallL reprD (pACons (pName 7) pANil))) (pE (pCallL reprD (pACons (pName 4) pANil))))) (pTst (pOp2 neD (pE (pOp2 eqD (pE (pCall 1 [] sp_show_script (pACons (pName 5) pANil))) (pName 6))) (pE (pOp2 eqD (pName 5) (pName 4)))))) (pRet (pV (pC (.bool false))))
 pNext)
 (pSeq (pSet 8 (pCall 2 [0] sp_law_spoilt (pALend 1 (pACons (pName 6) pANil))))
 (pSeq (pIfS (pAnd (pTst (pCall 1 [] sp_law_is_short (pACons (pName 8) pANil))) (pNot (pTst (pCall 1 [] sp_law_kept (pACons (pName 8) pANil))))) (pRet (pV (pC (.bool false))))
 pNext)
 (pSeq (pSet 9 (pCall 2 [0] sp_law_values (pALend 1 (pACons (pName 3) pANil))))
 (pSeq (pIfS (pOr (pTst (pOp2 neD (pE (pCall 2 [] sp_run (pACons (pName 9) (pACons (pName 7) pANil)))) (pE (pCall 2 [] sp_run (pACons (pName 9) (pACons (pName 4) pANil)))))) (pTst (pOp2 neD (pE (pListG 2 sp_stages (pACons (pName 9) (pACons (pName 7) pANil)))) (pE (pListG 2 sp_stages (pACons (pName 9) (pACons (pName 4) pANil))))))) (pRet (pV (pC (.bool false))))
 pNext)
 (pSeq (pSet 10 (pCall 2 [] sp_effect (pACons (pName 3) (pACons (pName 4) pANil))))
 (pSeq (pIfS (pOr (pTst (pOp2 neD (pE (pCall 2 [] sp_effect (pACons (pName 3) (pACons (pName 7) pANil)))) (pName 10))) (pNot (pTst (pCall 3 [] sp_same_scripts (pACons (pName 3) (pACons (pName 7) (pACons (pName 4) pANil))))))) (pRet (pV (pC (.bool false))))
 pNext)
 (pB [2, 5, 6, 7, 8, 9, 11, 12] (pFor (itList (pE (pCallL listD (pACons (pE (pCall 2 [] sp_trimmed (pACons (pName 3) (pACons (pName 4) pANil)))) (pACons (pE (pCall 1 [] sp_exchanges (pACons (pName 10) pANil))) pANil))))) (.nm 11) (pW [2, 5, 6, 7, 8, 9, 11, 12] (pSeq (pSet 12 (pCall 1 [] (noX sp_read_script) (pACons (pE (pCall 1 [] sp_show_script (pACons (pName 11) pANil))) pANil)))
 (pIfS (pOr (pTst (pOp2 neD (pName 12) (pName 11))) (pTst (pOp2 neD (pE (pCall 2 [] sp_effect (pACons (pName 3) (pACons (pName 12) pANil)))) (pName 10)))) (pRet (pV (pC (.bool false))))
 pNext)))))))))))))))))))
 (pRet (pV (pAndV (pE (pCall 1 [] sp_law_kept (pACons (pC (.str (PySem.Str.ofString "none"))) pANil))) (pAndV (pE (pCall 1 [] sp_law_kept (pACons (pC (.str (PySem.Str.ofString "1*2 3"))) pANil))) (pE (pOp2 eqD (pE (pCall 1 [] (noX sp_read_script) (pACons (pC (.str (PySem.Str.ofString "none"))) pANil))) (pE (pCallL listD pANil))))))))))
@[irreducible] def sp_law : SpP := spOf [0] 12 p_law

end K52

namespace K52
open PySem PL PySem.W L2
local macro_rules | `(tactic| walk_at "go") => `(tactic| ((conv => whnf) <;> first
  | guard_target =~ sel _ _ _
  | (refine Exists.intro _ (And.intro rfl ?_); walk_at "go")
  | (refine And.intro rfl ?_; walk_at "go")
  | (refine And.intro (Exists.intro _ rfl) ?_; walk_at "go")
  | (refine And.intro (a := lentIn _ _ _ = true ∧ (lents _).Nodup) (And.intro rfl ?_) ?_; (focus (simp [lents, perm]; done)); walk_at "go")
  | (refine And.intro (a := okd _ = true ∧ okd _ = true) (And.intro ?_ ?_) ?_; (focus (first | rfl | exact okd_li _ | exact okd_ll _)); (focus (first | rfl | exact okd_li _ | exact okd_ll _)); walk_at "go")
  | (refine And.intro (a := okB _ _ _ = true) ?_ ?_; (focus (simp [okB, allI, frzP, mapI, frzSl, lookS, okSl, flatM, flatD, d_ol, backB]; done)); walk_at "go")
  | (refine And.intro (a := flatD _ = true ∧ okB _ _ _ = true) (And.intro rfl ?_) ?_; (focus (simp [okB, allI, frzP, mapI, frzSl, lookS, okSl, flatM, flatD, d_ol, backB]; done)); walk_at "go")
  | (refine And.intro (And.intro ?_ ?_) ?_; (focus (decide)); (focus (decide)); walk_at "go")
  | (refine And.intro ?_ ?_; (focus (decide)); walk_at "go")
  | (refine And.intro (Nat.le_of_ble_eq_true rfl) ?_; walk_at "go")
  | skip))
local macro_rules | `(tactic| walk_at "nf") => `(tactic| simp only [backA, setDs, setAll, wipeP, backP, mapI, List.set_cons_zero, List.set_cons_succ, List.cons_append, List.nil_append, List.replicate])

/-- a source of draws; how often it was drawn from -/
def Rg (s : Sl) (n : Nat) : Prop := ∃ dg sd ct : Int, s = .m (.ol [.int dg, .int sd, .int ct]) ∧ (0 ≤ sd ∧ sd < 2 ^ 61) ∧ 0 ≤ ct ∧ ct ≤ n
theorem draw_ok {s : Sl} {n : Nat} {l : Int} {Q : Sl → List Sl → Prop} (hs : Rg s n) (hn : n ≤ 2 ^ 40) (h0 : 0 < l) (h1 : l < 2 ^ 250) (k : ∀ r s', 0 ≤ r → r < l → Rg s' (n + 1) → Q (.v (.int r)) [s', .v (.int l)]) : sp_law_draw [s, .v (.int l)] Q := by
  obtain ⟨dg, sd, ct, rfl, ⟨b1, b2⟩, b3, b4⟩ := hs
  unfold sp_law_draw
  have lg : l.natAbs.log2 < 9000 := Nat.lt_trans (log2_lt_of (k := 250) (by omega) (by decide)) (by decide)
  walk_at "go"
  refine sel_by (fun h => ?_) (fun h => ?_)
  · walk_at "go"
    refine ⟨h0, ?_⟩
    walk_at "go"
    refine ⟨⟨h0, lg⟩, ?_⟩
    walk_at "go"
    exact k _ _ (Int.emod_nonneg _ (by omega)) (Int.emod_lt_of_pos _ h0) ⟨_, _, _, rfl, ⟨b1, b2⟩, b3, by omega⟩
  · walk_at "go"
    refine ⟨mul_ok (by decide) (by omega), ?_⟩
    walk_at "go"
    refine ⟨pow_ok (by omega) (by decide) (by decide), ?_⟩
    walk_at "go"
    generalize hm : (sd + 998244353 * (ct + 1)) ^ Int.toNat 3 % 162259276829213363391578010288127 = m
    have m0 : 0 ≤ m := by rw [← hm]; exact Int.emod_nonneg _ (by decide)
    have m1 : m < 162259276829213363391578010288127 := by rw [← hm]; exact Int.emod_lt_of_pos _ (by decide)
    refine ⟨mul_ok (by decide) (by omega), ?_⟩
    walk_at "go"
    refine ⟨pow_ok (by omega) (by decide) (by decide), ?_⟩
    walk_at "go"
    refine ⟨h0, ?_⟩
    walk_at "go"
    exact k _ _ (Int.emod_nonneg _ (by omega)) (Int.emod_lt_of_pos _ h0) ⟨_, _, _, rfl, ⟨b1, b2⟩, by omega, by omega⟩
theorem Rg.m {s : Sl} {n : Nat} (h : Rg s n) : ∃ c, s = .m c := by
  obtain ⟨dg, sd, ct, rfl, _⟩ := h
  exact ⟨_, rfl⟩
theorem Rg.mono {s : Sl} {n m : Nat} (h : Rg s n) (e : n ≤ m) : Rg s m := by
  obtain ⟨dg, sd, ct, rfl, h1, h2, h3⟩ := h
  exact ⟨dg, sd, ct, rfl, h1, h2, by omega⟩
theorem arranged_ok {s : Sl} {n : Nat} {wd : Nat} {Q : Sl → List Sl → Prop} (hs : Rg s n) (hn : n + wd ≤ 2 ^ 30) (hw : wd ≤ 1000) (k : ∀ (p : List Int) s', p.Perm (deck wd) → Rg s' (n + wd) → Q (.m (.ol (p.map .int))) [s', .v (.int wd)]) : sp_law_arranged [s, .v (.int wd)] Q := by
  unfold sp_law_arranged
  walk_at "go"
  refine ⟨RgOk.of_le (by decide) (by omega) (by decide) (by omega), ?_⟩
  walk_at "go"
  refine while_inv (fun m env => ∃ (s' : Sl) (left found : List Int), env = [s', .un, .m (.ol (left.map .int)), .m (.ol (found.map .int))] ∧ Rg s' (n + found.length) ∧ (found ++ left).Perm (deck wd) ∧ m = left.length) wd ?_ ?_
  · refine ⟨s, deck wd, [], ?_, hs, List.Perm.refl _, by simp [deck]⟩
    show [s, Sl.un, Sl.m (.ol (rangeD 1 1 ((wd : Int) + 1 - 1).toNat)), Sl.m (.ol [])] = _
    rw [rangeD_map, show ((wd : Int) + 1 - 1).toNat = wd by omega]
    congr 5
    simp only [deck, List.map_map]
    exact List.map_congr_left fun i _ => by show PyData.int (1 + (i : Nat) * 1) = PyData.int ((i : Int) + 1); congr 1; omega
  · rintro m _ ⟨s', left, found, rfl, h1, h2, rfl⟩
    have g1 := h1
    obtain ⟨dg, sd, ct, rfl, _⟩ := h1
    have hl : found.length + left.length = wd := by
      have := h2.length_eq
      rw [List.length_append] at this
      simpa [deck] using this
    walk_at "go"
    refine sel_by (fun h => ?_) (fun h => ?_)
    · rw [eqv_li_nil] at h
      have ne : left ≠ [] := by simpa using h
      have lp : 0 < left.length := List.length_pos_iff.mpr ne
      walk_at "go"
      rw [List.length_map]
      refine draw_ok g1 (by omega) (by omega) (by omega) fun r s' q0 q1 q2 => ?_
      walk_at "go"
      have hr : r.toNat < left.length := by omega
      refine ⟨⟨by omega, by omega⟩, r.toNat, _, seqIndex_nat q0 (by rw [List.length_map]; exact q1), get_map hr, ?_⟩
      rw [erase_map]
      walk_at "go"
      refine ⟨by rw [List.length_map]; exact Nat.lt_of_le_of_lt (show found.length ≤ 1000 by omega) (by decide), ?_⟩
      walk_at "go"
      refine ⟨left.length - 1, by omega, s', left.eraseIdx r.toNat, found ++ [left[r.toNat]], ?_, q2.mono (by rw [List.length_append]; simp; omega), ?_, ?_⟩
      · rw [List.map_append]
        rfl
      · refine List.Perm.trans ?_ h2
        rw [List.append_assoc]
        exact List.Perm.append_left _ (perm_erase hr)
      · rw [List.length_eraseIdx]
        simp [hr]
    · rw [eqv_li_nil] at h
      have ne : left = [] := by simpa using h
      subst ne
      walk_at "go"
      exact k found _ (by simpa using h2) (g1.mono (by simp at hl; omega))
theorem rng_ok {ns : List Int} {Q : Sl → List Sl → Prop} (k : ∀ s', Rg s' 0 → Q s' [.m (.scr ns)]) : sp_law_rng [.m (.scr ns)] Q := by
  unfold sp_law_rng
  walk_at "go"
  rw [cut_to PyData.int ns (by decide)]
  refine forL_inv (fun i env => ∃ (dg sd : Int), env = [.m (.scr ns), .v (.int dg), .v (.int sd), .un, .un] ∧ (0 ≤ dg ∧ dg.natAbs < 2 ^ (200 * i + 1)) ∧ 0 ≤ sd ∧ sd < 2 ^ 61) ?_ ?_ ?_
  · exact ⟨0, 88675123, rfl, ⟨by decide, by decide⟩, by decide, by decide⟩
  · rintro i d e G hd ⟨dg, sd, rfl, ⟨b0, b1⟩, b2, b3⟩ hG
    obtain ⟨x, hx, rfl⟩ := map_get hd
    have hi : i < 63 := by
      have := (List.getElem?_eq_some_iff.mp hx).1
      rw [List.length_take] at this
      have e : Int.toNat 63 = 63 := rfl
      omega
    have b4 : (2 : Nat) ^ (200 * i + 1) ≤ 2 ^ (200 * (i + 1) + 1) := Nat.pow_le_pow_right (by decide) (by omega)
    have b5 : ((10 : Int) ^ Int.toNat 60).natAbs.log2 < 1000 := by decide
    have b6 := log2_lt_of b1 (by omega)
    walk_at "go"
    refine sel_by (fun h => ?_) (fun h => ?_)
    · walk_at "go"
      refine ⟨by omega, ?_⟩
      walk_at "go"
      refine ⟨mul_ok (by omega) (by decide), ?_⟩
      walk_at "go"
      refine hG _ ⟨_, _, rfl, ⟨?_, ?_⟩, Int.emod_nonneg _ (by decide), Int.lt_trans (Int.emod_lt_of_pos _ (by decide)) (by decide)⟩
      · exact Int.add_nonneg (Int.mul_nonneg b0 (by decide)) (Int.emod_nonneg _ (by decide))
      · generalize (if x < 0 then -x else x) = f
        have c0 : 0 ≤ f % 10 ^ Int.toNat 60 := Int.emod_nonneg _ (by decide)
        have c1 : f % 10 ^ Int.toNat 60 < 10 ^ Int.toNat 60 := Int.emod_lt_of_pos _ (by decide)
        have e1 : ((10 : Int) ^ Int.toNat 60) = 1000000000000000000000000000000000000000000000000000000000000 := by decide
        have e2 : (2 : Nat) ^ (200 * (i + 1) + 1) = 2 ^ (200 * i + 1) * 2 ^ 200 := by rw [← Nat.pow_add]; congr 1
        rw [e1] at c0 c1 ⊢
        rw [e2]
        generalize 2 ^ (200 * i + 1) = u at b1
        generalize f % 1000000000000000000000000000000000000000000000000000000000000 = g at c0 c1
        have e3 : (dg * 1000000000000000000000000000000000000000000000000000000000000 + g).natAbs = dg.natAbs * 1000000000000000000000000000000000000000000000000000000000000 + g.natAbs := by omega
        rw [e3]
        omega
    · walk_at "go"
      refine ⟨mul_ok (by omega) (by decide), ?_⟩
      walk_at "go"
      exact hG _ ⟨_, _, rfl, ⟨b0, by omega⟩, Int.emod_nonneg _ (by decide), Int.lt_trans (Int.emod_lt_of_pos _ (by decide)) (by decide)⟩
  · rintro e ⟨dg, sd, rfl, _, b2, b3⟩
    walk_at "go"
    exact k _ ⟨dg, sd, 0, rfl, ⟨b2, b3⟩, by decide, by decide⟩


theorem values_ok {s : Sl} {n : Nat} {wd : Nat} {Q : Sl → List Sl → Prop} (hs : Rg s n) (hn : n + wd + 1 ≤ 2 ^ 30) (hw : wd ≤ 1000) (k : ∀ (p : List Int) r s', p.length = wd → Small p → Ls r p → Rg s' (n + wd + 1) → Q r [s', .v (.int wd)]) : sp_law_values [s, .v (.int wd)] Q := by
  unfold sp_law_values
  obtain ⟨c, rfl⟩ := hs.m
  walk_at "go"
  refine draw_ok hs (by omega) (by decide) (by decide) fun way s1 w0 w1 g1 => ?_
  obtain ⟨c1, rfl⟩ := g1.m
  walk_at "go"
  refine sel_by (fun h => ?_) (fun h => ?_)
  · walk_at "go"
    refine arranged_ok g1 (by omega) hw fun p s' hp g2 => ?_
    refine k p _ s' (by rw [hp.length_eq]; simp [deck]) (deck_small hw hp) (.inl rfl) (g2.mono (by omega))
  · walk_at "go"
    have tb : ∀ way : Int, 0 ≤ way → way < 5 → ∃ lo mn : Int, atI [PyData.tuple [.int 0, .int 4], .tuple [.int (0 - 10 ^ Int.toNat 30), .int (2 * 10 ^ Int.toNat 30 + 1)], .tuple [.int 0, .int 1], .tuple [.int 0, .int 2], .tuple [.int (0 - 3), .int 7]] way = some (.tuple [.int lo, .int mn]) ∧ 0 < mn ∧ mn < 2 ^ 110 ∧ lo.natAbs < 2 ^ 110 := by
      intro way h0 h1
      have : way = 0 ∨ way = 1 ∨ way = 2 ∨ way = 3 ∨ way = 4 := by omega
      rcases this with rfl | rfl | rfl | rfl | rfl
      · exact ⟨_, _, rfl, by decide, by decide, by decide⟩
      · exact ⟨_, _, rfl, by decide, by decide, by decide⟩
      · exact ⟨_, _, rfl, by decide, by decide, by decide⟩
      · exact ⟨_, _, rfl, by decide, by decide, by decide⟩
      · exact ⟨_, _, rfl, by decide, by decide, by decide⟩
    obtain ⟨lo, mn, ht, b0, b1, b2⟩ := tb way w0 w1
    refine ⟨_, ht, ?_⟩
    walk_at "go"
    refine ⟨⟨by omega, by omega⟩, ?_⟩
    walk_at "go"
    refine compK_inv (fun i acc e => ∃ (s' : Sl) (xs : List Int) (pl : Sl), e = [s', .v (.int wd), .v (.int way), .v (.int lo), .v (.int mn), .un, pl] ∧ acc = xs.map .int ∧ xs.length = i ∧ Small xs ∧ Rg s' (n + 1 + i)) ?_ ?_ ?_
    · exact ⟨_, [], .un, rfl, rfl, rfl, fun x hx => (by cases hx), g1⟩
    · rintro i d acc e G hd ⟨s', xs, pl, rfl, rfl, hx, hsm, g2⟩ hG
      obtain ⟨hi, rfl⟩ := rangeD_at hd
      obtain ⟨c2, rfl⟩ := g2.m
      walk_at "go"
      refine sel_t rfl ?_
      walk_at "go"
      refine draw_ok g2 (by omega) b0 (by omega) fun r s2 r0 r1 g3 => ?_
      walk_at "go"
      refine ⟨⟨lt_line (by rw [List.length_map]; omega), rfl⟩, hG _ _ ⟨s2, xs ++ [lo + r], _, rfl, by rw [List.map_append]; rfl, by rw [List.length_append, hx]; rfl, fun x hx => ?_, g3⟩⟩
      rcases List.mem_append.mp hx with hx | hx
      · exact hsm x hx
      · rw [List.mem_singleton.mp hx]
        omega
    · rintro acc e ⟨s', xs, pl, rfl, rfl, hx, hsm, g2⟩
      rw [rangeD_len] at hx g2
      obtain ⟨c2, rfl⟩ := g2.m
      walk_at "go"
      refine sel_by (fun h => ?_) (fun h => ?_)
      · walk_at "go"
        simp only [intsOf_map]
        walk_at "go"
        exact k (PL.sortI xs).reverse _ _ (by rw [List.length_reverse, (PL.sortI_perm xs).length_eq, hx]; rfl) (hsm.perm ((List.reverse_perm _).trans (PL.sortI_perm xs))) (.inr rfl) (g2.mono (by omega))
      · walk_at "go"
        exact k xs _ _ (by rw [hx]; rfl) hsm (.inr rfl) (g2.mono (by omega))


theorem commands_ok {s : Sl} {n wd most : Nat} {Q : Sl → List Sl → Prop} (hs : Rg s n) (hn : n + 5 * most + 10 ≤ 2 ^ 30) (h0 : 1 ≤ wd) (hw : wd ≤ 1000) (hm : most ≤ 1000)
    (k : ∀ (cs : List (Int × Int)) s', cs.length ≤ most → (∀ c ∈ cs, Fit wd c) → Rg s' (n + 1 + 4 * most) → Q (.m (.ol (cs.map ct))) [s', .v (.int wd), .v (.int most)]) : sp_law_commands [s, .v (.int wd), .v (.int most)] Q := by
  unfold sp_law_commands
  obtain ⟨c0, rfl⟩ := hs.m
  walk_at "go"
  refine draw_ok hs (by omega) (by omega) (by omega) fun laps s3 l0 l1 g3 => ?_
  walk_at "nf"
  walk_at "go"
  refine ⟨⟨by omega, by omega⟩, ?_⟩
  walk_at "go"
  refine forL_inv (fun i env => ∃ (s' : Sl) (cs : List (Int × Int)), env = [s', .v (.int wd), .v (.int most), .m (.ol (cs.map ct)), .un, .un, .un, .un] ∧ cs.length = i ∧ (∀ c ∈ cs, Fit wd c) ∧ Rg s' (n + 1 + 4 * i)) ⟨s3, [], rfl, rfl, fun c hc => (by cases hc), g3.mono (by omega)⟩ ?_ ?_
  · rintro i d e G hd ⟨s', cs, rfl, hl, hf, g⟩ hG
    obtain ⟨hi, rfl⟩ := rangeD_at hd
    have add : ∀ (s4 : Sl) (b e : Int), Rg s4 (n + 1 + 4 * (i + 1)) → Fit wd (b, e) → G [s4, .v (.int wd), .v (.int most), .m (.ol (cs.map ct ++ [ct (b, e)])), .un, .un, .un, .un] := fun s4 b e h1 h2 => by
      refine hG _ ⟨s4, cs ++ [(b, e)], ?_, by rw [List.length_append, hl]; rfl, fun c hc => ?_, h1⟩
      · rw [List.map_append]
        rfl
      · rcases List.mem_append.mp hc with hc | hc
        · exact hf c hc
        · rw [List.mem_singleton.mp hc]
          exact h2
    have ap : (cs.map ct).length < sizeLine := lt_line (by rw [List.length_map]; omega)
    obtain ⟨c4, rfl⟩ := g.m
    walk_at "go"
    refine draw_ok g (by omega) (by omega) (by omega) fun bg s4 a0 a1 g4 => ?_
    obtain ⟨c5, rfl⟩ := g4.m
    walk_at "nf"
    walk_at "go"
    refine draw_ok g4 (by omega) (by omega) (by omega) fun x1 s5 x10 x11 g5 => ?_
    obtain ⟨c6, rfl⟩ := g5.m
    walk_at "nf"
    walk_at "go"
    refine draw_ok g5 (by omega) (by decide) (by decide) fun x2 s6 x20 x21 g6 => ?_
    have tb : ∃ m : Int, atI [PyData.int (1 + bg), .int (if 1 + bg + 1 < (wd : Int) then 1 + bg + 1 else (wd : Int)), .int (1 + bg + x1), .int wd] x2 = some (.int m) ∧ Fit wd (1 + bg, m) := by
      generalize hx : (if 1 + bg + 1 < (wd : Int) then 1 + bg + 1 else (wd : Int)) = mm
      have hmm : 1 + bg ≤ mm ∧ mm ≤ wd := by split at hx <;> omega
      have : x2 = 0 ∨ x2 = 1 ∨ x2 = 2 ∨ x2 = 3 := by omega
      rcases this with rfl | rfl | rfl | rfl
      · exact ⟨_, rfl, by simp only; omega, Int.le_refl _, by simp only; omega⟩
      · exact ⟨_, rfl, by simp only; omega, hmm.1, hmm.2⟩
      · exact ⟨_, rfl, by simp only; omega, by simp only; omega, by simp only; omega⟩
      · exact ⟨_, rfl, by simp only; omega, by simp only; omega, Int.le_refl _⟩
    obtain ⟨m, htb, fit⟩ := tb
    have g6' := g6
    obtain ⟨dg, sd, ctt, rfl, _⟩ := g6
    walk_at "nf"
    walk_at "go"
    refine ⟨_, htb, ?_⟩
    walk_at "go"
    refine ⟨⟨okd_lc _, rfl⟩, ?_⟩
    walk_at "go"
    rw [eqv_lc_nil]
    by_cases e0 : cs = []
    · subst e0
      walk_at "go"
      refine sel_f rfl ?_
      walk_at "go"
      exact add _ _ _ (g6'.mono (by omega)) fit
    · rw [decide_eq_false e0]
      obtain ⟨ini, last, rfl⟩ : ∃ ini last, cs = ini ++ [last] := by
        rcases List.eq_nil_or_concat cs with h | ⟨ini, last, h⟩
        · exact absurd h e0
        · exact ⟨ini, last, by rw [h, List.concat_eq_append]⟩
      walk_at "go"
      refine draw_ok g6' (by omega) (by decide) (by decide) fun x4 s7 x40 x41 g7 => ?_
      have g7' := g7
      obtain ⟨dg2, sd2, ct2, rfl, _⟩ := g7
      walk_at "nf"
      walk_at "go"
      have lx : atI ((ini ++ [last]).map ct) (-1) = some (ct last) := by
        rw [List.map_append]
        exact atI_last
      refine sel_by (fun h => ?_) (fun h => ?_)
      · walk_at "go"
        refine ⟨_, lx, ?_⟩
        walk_at "go"
        refine ⟨ap, ?_⟩
        walk_at "go"
        exact add _ last.1 last.2 (g7'.mono (by omega)) (hf last (by simp))
      · walk_at "go"
        refine ⟨ap, ?_⟩
        walk_at "go"
        exact add _ _ _ (g7'.mono (by omega)) fit
  · rintro e ⟨s', cs, rfl, hl, hf, g⟩
    rw [rangeD_len] at hl g
    walk_at "go"
    exact k cs _ (by omega) hf (g.mono (by omega))


local macro_rules | `(tactic| walk_at "len") => `(tactic| first
  | omega
  | (simp only [List.length_map, List.length_append, List.length_cons, List.length_nil, List.length_take, List.length_drop, List.length_range, List.length_reverse, falls_len, deck_len, rangeD_len, List.length_replicate]; omega))
local macro_rules | `(tactic| walk_at "side") => `(tactic| first
  | walk_at "len"
  | exact lt_line (by walk_at "len")
  | exact le_line (by walk_at "len")
  | exact RgOk.of_le (by omega) (by walk_at "len") (by omega) (by walk_at "len")
  | exact And.intro rfl (RgOk.of_le (by omega) (by omega) (by omega) (by omega))
  | exact mul_ok (by omega) (by omega)
  | exact div_ok (by omega) (by omega)
  | exact pow_ok (by omega) (by omega) (by omega)
  | exact And.intro (by walk_at "len") (And.intro (by walk_at "len") (le_line (by walk_at "len")))
  | exact And.intro (lt_line (by walk_at "len")) (And.intro (by omega) (by omega))
  | exact okd_int _
  | exact And.intro (okd_lc _) (okd_lc _)
  | exact And.intro (okd_ct _) (okd_ct _))
local macro_rules | `(tactic| walk_at "go") => `(tactic| ((conv => whnf) <;> first
  | (guard_target =~ sel _ _ _; first
     | ((with_reducible refine sel_t (c := true) rfl ?_); walk_at "go")
     | ((with_reducible refine sel_f (c := false) rfl ?_); walk_at "go")
     | ((with_reducible refine sel_t (c := !false) Bool.not_false ?_); walk_at "go")
     | ((with_reducible refine sel_f (c := !true) Bool.not_true ?_); walk_at "go")
     | (guard_target =~ sel (isNone _) _ _; first | (refine sel_t rfl ?_; walk_at "go") | (refine sel_f rfl ?_; walk_at "go"))
     | (guard_target =~ sel (!isNone _) _ _; first | (refine sel_t rfl ?_; walk_at "go") | (refine sel_f rfl ?_; walk_at "go"))
     | (refine sel_t (decide_eq_true (by omega)) ?_; walk_at "go")
     | (refine sel_f (decide_eq_false (by omega)) ?_; walk_at "go")
     | (refine sel_t (by decide) ?_; walk_at "go")
     | (refine sel_f (by decide) ?_; walk_at "go")
     | (refine sel_t rfl ?_; walk_at "go")
     | (refine sel_f rfl ?_; walk_at "go")
     | skip)
  | (refine Exists.intro _ (And.intro rfl ?_); walk_at "go")
  | (refine And.intro rfl ?_; walk_at "go")
  | (refine And.intro (Exists.intro _ rfl) ?_; walk_at "go")
  | (refine And.intro (a := lentIn _ _ _ = true ∧ (lents _).Nodup) (And.intro rfl ?_) ?_; (focus (simp [lents, perm]; done)); walk_at "go")
  | (refine And.intro (a := okd _ = true ∧ okd _ = true) (And.intro ?_ ?_) ?_; (focus (first | rfl | exact okd_li _ | exact okd_ll _ | exact okd_lc _ | exact okd_ct _)); (focus (first | rfl | exact okd_li _ | exact okd_ll _ | exact okd_lc _ | exact okd_ct _)); walk_at "go")
  | (refine And.intro (a := okB _ _ _ = true) ?_ ?_; (focus (simp [okB, allI, frzP, mapI, frzSl, lookS, okSl, flatM, flatMs, flatKs, flatD, d_ol, backB]; done)); walk_at "go")
  | (refine And.intro (a := flatD _ = true ∧ okB _ _ _ = true) (And.intro rfl ?_) ?_; (focus (simp [okB, allI, frzP, mapI, frzSl, lookS, okSl, flatM, flatMs, flatKs, flatD, d_ol, backB]; done)); walk_at "go")
  | (refine And.intro (And.intro ?_ ?_) ?_; (focus (decide)); (focus (decide)); walk_at "go")
  | (refine And.intro ?_ ?_; (focus (decide)); walk_at "go")
  | (refine And.intro (Nat.le_of_ble_eq_true rfl) ?_; walk_at "go")
  | (refine And.intro ?_ ?_; (focus (walk_at "side")); walk_at "go")
  | skip))
local macro_rules | `(tactic| walk_at "nf") => `(tactic| simp only [perm, List.filterMap_cons, List.filterMap_nil, List.getElem?_cons_zero, List.getElem?_cons_succ, backA, setDs, setAll, wipeP, List.set_cons_zero, List.set_cons_succ, List.cons_append, List.nil_append, List.replicate])
local macro_rules | `(tactic| walk_at "st") => `(tactic| ((try walk_at "nf"); walk_at "go"))


/-! texts of commands, runs of equal commands -/
abbrev nL (i : Int) : List Nat := TL.numL i.toNat
def tcL (c : Int × Int) : List Nat := if c.1 = c.2 then nL c.1 else nL c.1 ++ 45 :: nL c.2
def wL (p : (Int × Int) × Nat) : List Nat := tcL p.1 ++ (if 1 < p.2 then 42 :: TL.numL p.2 else [])
def Big (c : Int × Int) : Prop := 1 ≤ c.1 ∧ c.1 ≤ c.2 ∧ c.2 < 10000000000000000000000000000000000000000
theorem nS {i : Int} (h : 0 ≤ i) : PySem.Str.ofString (toString i) = SX.S (nL i) := by
  obtain ⟨n, rfl⟩ := Int.eq_ofNat_of_zero_le h
  exact SX.num_S n
theorem nL_len {i : Int} (h0 : 0 ≤ i) (h : i < 10000000000000000000000000000000000000000) : (nL i).length ≤ 40 := TL.numL_len (by decide) (by
  have : (10 : Nat) ^ 40 = 10000000000000000000000000000000000000000 := by decide
  omega)
theorem tcL_len {c : Int × Int} (h : Big c) : (tcL c).length ≤ 81 := by
  obtain ⟨h1, h2, h3⟩ := h
  have a := nL_len (i := c.1) (by omega) (by omega)
  have b := nL_len (i := c.2) (by omega) h3
  unfold tcL
  split
  · omega
  · rw [List.length_append, List.length_cons]
    omega
theorem numL_len5 {n : Nat} (h : n < 100000) : (TL.numL n).length ≤ 5 := TL.numL_len (by decide) h
theorem wL_len {p : (Int × Int) × Nat} (h : Big p.1) (hm : p.2 < 100000) : (wL p).length ≤ 90 := by
  have a := tcL_len h
  have b := numL_len5 hm
  unfold wL
  rw [List.length_append]
  split
  · rw [List.length_cons]
    omega
  · rw [List.length_nil]
    omega
theorem tcL_codes (c : Int × Int) : ∀ x ∈ tcL c, x = 45 ∨ (48 ≤ x ∧ x ≤ 57) := by
  intro x hx
  unfold tcL at hx
  split at hx
  · exact .inr (TL.numL_digits _ x hx)
  · rcases List.mem_append.mp hx with hx | hx
    · exact .inr (TL.numL_digits _ x hx)
    · rcases List.mem_cons.mp hx with hx | hx
      · exact .inl hx
      · exact .inr (TL.numL_digits _ x hx)
theorem wL_codes (p : (Int × Int) × Nat) : ∀ x ∈ wL p, x = 45 ∨ x = 42 ∨ (48 ≤ x ∧ x ≤ 57) := by
  intro x hx
  unfold wL at hx
  rcases List.mem_append.mp hx with hx | hx
  · rcases tcL_codes _ x hx with h | h
    · exact .inl h
    · exact .inr (.inr h)
  · split at hx
    · rcases List.mem_cons.mp hx with hx | hx
      · exact .inr (.inl hx)
      · exact .inr (.inr (TL.numL_digits _ x hx))
    · cases hx
theorem tcL_ne (c : Int × Int) : tcL c ≠ [] := by
  unfold tcL
  split
  · exact TL.numL_ne _
  · simp
theorem wL_ne (p : (Int × Int) × Nat) : wL p ≠ [] := by
  unfold wL
  intro h
  exact tcL_ne _ (List.append_eq_nil_iff.mp h).1
/-! runs -/
def stp (acc : List ((Int × Int) × Nat)) (c : Int × Int) : List ((Int × Int) × Nat) := match acc.getLast? with
  | some p => if p.1 = c then acc.dropLast ++ [(p.1, p.2 + 1)] else acc ++ [(c, 1)]
  | none => [(c, 1)]
def rl (cs : List (Int × Int)) : List ((Int × Int) × Nat) := cs.foldl stp []
theorem stp_nil (c : Int × Int) : stp [] c = [(c, 1)] := rfl
theorem stp_same (ini : List ((Int × Int) × Nat)) (d : Int × Int) (m : Nat) : stp (ini ++ [(d, m)]) d = ini ++ [(d, m + 1)] := by
  unfold stp
  rw [List.getLast?_append, List.getLast?_singleton]
  show (if d = d then _ else _) = _
  rw [if_pos rfl, List.dropLast_concat]
theorem stp_diff {ini : List ((Int × Int) × Nat)} {c d : Int × Int} {m : Nat} (h : d ≠ c) : stp (ini ++ [(d, m)]) c = ini ++ [(d, m)] ++ [(c, 1)] := by
  unfold stp
  rw [List.getLast?_append, List.getLast?_singleton]
  show (if d = c then _ else _) = _
  rw [if_neg h]
theorem rl_nil : rl [] = [] := rfl
theorem rl_snoc (xs : List (Int × Int)) (c : Int × Int) : rl (xs ++ [c]) = stp (rl xs) c := by
  unfold rl
  rw [List.foldl_append]
  rfl
theorem rl_last (ys : List (Int × Int)) (d : Int × Int) : ∃ ini m, 1 ≤ m ∧ rl (ys ++ [d]) = ini ++ [(d, m)] := by
  rw [rl_snoc]
  rcases List.eq_nil_or_concat (rl ys) with h | ⟨ini, p, h⟩
  · rw [h, stp_nil]
    exact ⟨[], 1, Nat.le_refl 1, rfl⟩
  · rw [h, List.concat_eq_append]
    obtain ⟨e, m⟩ := p
    by_cases q : e = d
    · subst q
      rw [stp_same]
      exact ⟨ini, m + 1, by omega, rfl⟩
    · rw [stp_diff q]
      exact ⟨ini ++ [(e, m)], 1, Nat.le_refl 1, rfl⟩
/-- a run of equal commands behind other ones -/
theorem rl_rep {xs : List (Int × Int)} {c : Int × Int} (h : ∀ ys d, xs = ys ++ [d] → d ≠ c) : ∀ m : Nat, rl (xs ++ List.replicate (m + 1) c) = rl xs ++ [(c, m + 1)]
  | 0 => by
    show rl (xs ++ [c]) = _
    rw [rl_snoc]
    rcases List.eq_nil_or_concat xs with e | ⟨ys, d, e⟩
    · rw [e]
      rfl
    · rw [List.concat_eq_append] at e
      obtain ⟨ini, m, _, z⟩ := rl_last ys d
      rw [e, z, stp_diff (h ys d e)]
  | m + 1 => by
    rw [List.replicate_succ', ← List.append_assoc, rl_snoc, rl_rep h m, stp_same]
theorem rl_len : ∀ (cs : List (Int × Int)), (rl cs).length ≤ cs.length ∧ (∀ p ∈ rl cs, p.2 ≤ cs.length ∧ 1 ≤ p.2) ∧ ∀ p ∈ rl cs, p.1 ∈ cs := by
  intro cs
  have z : ∀ n : Nat, ∀ cs : List (Int × Int), cs.length = n → (rl cs).length ≤ cs.length ∧ (∀ p ∈ rl cs, p.2 ≤ cs.length ∧ 1 ≤ p.2) ∧ ∀ p ∈ rl cs, p.1 ∈ cs := by
    intro n
    induction n with
    | zero =>
      intro cs h
      rw [List.length_eq_zero_iff.mp h]
      exact ⟨Nat.le_refl _, fun p hp => (by cases hp), fun p hp => (by cases hp)⟩
    | succ n ih =>
      intro cs h
      rcases List.eq_nil_or_concat cs with e | ⟨ys, d, e⟩
      · rw [e] at h
        cases h
      · rw [List.concat_eq_append] at e
        subst e
        have hy : ys.length = n := by rw [List.length_append] at h; simp at h; exact h
        obtain ⟨a1, a2, a3⟩ := ih ys hy
        rw [rl_snoc, List.length_append]
        rcases List.eq_nil_or_concat (rl ys) with e | ⟨ini, p, e⟩
        · rw [e, stp_nil]
          refine ⟨by simp, fun p hp => ?_, fun p hp => ?_⟩
          · rw [List.mem_singleton.mp hp]
            simp
          · rw [List.mem_singleton.mp hp]
            simp
        · rw [List.concat_eq_append] at e
          obtain ⟨f, m⟩ := p
          rw [e] at a1 a2 a3
          rw [List.length_append] at a1
          have a4 := a2 (f, m) (by simp)
          have a5 := a3 (f, m) (by simp)
          rw [e]
          by_cases q : f = d
          · subst q
            rw [stp_same]
            refine ⟨by rw [List.length_append]; simp at a1 ⊢; omega, fun p hp => ?_, fun p hp => ?_⟩
            · rcases List.mem_append.mp hp with hp | hp
              · have := a2 p (List.mem_append_left _ hp)
                simp
                omega
              · rw [List.mem_singleton.mp hp]
                simp at a4 ⊢
                omega
            · rcases List.mem_append.mp hp with hp | hp
              · exact List.mem_append_left _ (a3 p (List.mem_append_left _ hp))
              · rw [List.mem_singleton.mp hp]
                simp
          · rw [stp_diff q]
            refine ⟨by rw [List.length_append, List.length_append]; simp at a1 ⊢; omega, fun p hp => ?_, fun p hp => ?_⟩
            · rcases List.mem_append.mp hp with hp | hp
              · have := a2 p hp
                simp
                omega
              · rw [List.mem_singleton.mp hp]
                simp
            · rcases List.mem_append.mp hp with hp | hp
              · exact List.mem_append_left _ (a3 p hp)
              · rw [List.mem_singleton.mp hp]
                simp
  exact z _ cs rfl
theorem rl_eq_nil {cs : List (Int × Int)} (h : rl cs = []) : cs = [] := by
  rcases List.eq_nil_or_concat cs with e | ⟨ys, d, e⟩
  · exact e
  · rw [List.concat_eq_append] at e
    obtain ⟨ini, m, _, z⟩ := rl_last ys d
    rw [e, z] at h
    simp at h
/-- the text of a script -/
def jn (cs : List (Int × Int)) : Str := if cs = [] then PySem.Str.ofString "none" else Txt.join (PySem.Str.ofString " ") ((rl cs).map fun p => SX.S (wL p))
abbrev wd (p : (Int × Int) × Nat) : PyData := .tuple [.str (SX.S (tcL p.1)), .int p.2]
theorem wd_eq (acc : List ((Int × Int) × Nat)) : PyData.list (acc.map wd) = Datum.toD (acc.map fun p => ((SX.S (tcL p.1), (p.2 : Int)) : Str × Int)) := by
  show PyData.list _ = PyData.list _
  rw [List.map_map]
  rfl
theorem okd_wd (acc : List ((Int × Int) × Nat)) : okd (.list (acc.map wd)) = true := by
  rw [wd_eq]
  exact okd_datum (by decide) _
theorem eqv_wd_nil (acc : List ((Int × Int) × Nat)) : PyData.eqv (.list (acc.map wd)) (.list []) = decide (acc = []) := by
  rw [wd_eq]
  refine (Datum.eqv _ ([] : List (Str × Int))).trans ?_
  cases acc <;> rfl


theorem check_size_ok {n : Int} {Q : Sl → List Sl → Prop} (h : 1 ≤ n) (k : Q (.v .none) [.v (.int n)]) : sp_check_size [.v (.int n)] Q := by
  unfold sp_check_size
  walk_at "go"
  exact k
theorem check_script_ok {n : Nat} {cs : List (Int × Int)} {Q : Sl → List Sl → Prop} (h : ∀ c ∈ cs, Fit n c) (k : Q (.v .none) [.v (.int n), .v (lc cs)]) : sp_check_script [.v (.int n), .v (lc cs)] Q := by
  unfold sp_check_script
  walk_at "go"
  refine forL_inv (fun i env => env = [.v (.int n), .v (lc cs), .un, .un, .un]) rfl ?_ ?_
  · rintro i d e G hd rfl hG
    obtain ⟨c, hc, rfl⟩ := enumD_at hd
    obtain ⟨h1, h2, h3⟩ := h c (List.mem_of_getElem? hc)
    walk_at "go"
    rw [decide_eq_true h1]
    walk_at "go"
    rw [decide_eq_true h2]
    walk_at "go"
    rw [decide_eq_true h3]
    refine sel_f rfl ?_
    walk_at "go"
    exact hG _ rfl
  · rintro e rfl
    walk_at "go"
    exact k
theorem after_command_ok {row : List Int} {n : Nat} {c : Int × Int} {Q : Sl → List Sl → Prop} (hl : row.length ≤ 1000) (h : Fit n c) (k : Q (.m (.ol ((stretch row c).map .int))) [.v (li row), .v (ct c)]) : sp_after_command [.v (li row), .v (ct c)] Q := by
  obtain ⟨h1, h2, h3⟩ := h
  unfold sp_after_command
  walk_at "go"
  rw [cut_mid PyData.int row (by omega) (by omega), intsOf_map]
  walk_at "go"
  rw [cut_to PyData.int row (by omega), cut_from PyData.int row (by omega), agD_star, agD_star, agD_star0]
  have e2 : (row.take (c.1 - 1).toNat).map PyData.int ++ ((PL.sortI ((row.take c.2.toNat).drop (c.1 - 1).toNat)).map PyData.int ++ ((row.drop c.2.toNat).map PyData.int ++ [])) = (stretch row c).map PyData.int := by
    unfold stretch
    rw [List.append_nil, List.map_append, List.map_append, List.append_assoc]
  show listD ((row.take (c.1 - 1).toNat).map PyData.int ++ ((PL.sortI ((row.take c.2.toNat).drop (c.1 - 1).toNat)).map PyData.int ++ ((row.drop c.2.toNat).map PyData.int ++ []))) _
  rw [e2]
  have hlen : (stretch row c).length = row.length := (stretch_perm ⟨h1, h2⟩).length_eq
  refine ⟨le_line (by rw [List.length_map]; omega), ?_⟩
  exact k
theorem after_script_ok {row : List Int} {n : Nat} {cs : List (Int × Int)} {Q : Sl → List Sl → Prop} (hl : row.length ≤ 1000) (h : ∀ c ∈ cs, Fit n c) (k : Q (.m (.ol ((runs row cs).map .int))) [.v (li row), .v (lc cs)]) : sp_after_script [.v (li row), .v (lc cs)] Q := by
  unfold sp_after_script
  walk_at "go"
  refine forL_inv (fun i env => (env = [.un, .v (lc cs), .m (.ol ((runs row (cs.take i)).map .int)), .un])) rfl ?_ ?_
  · rintro i d e G hd rfl hG
    obtain ⟨c, hc, rfl⟩ := map_get hd
    walk_at "go"
    refine after_command_ok (by rw [runs_len (fit_take h i)]; exact hl) (h c (List.mem_of_getElem? hc)) ?_
    walk_at "st"
    rw [runs_step hc]
    exact hG _ rfl
  · rintro e rfl
    rw [List.length_map, List.take_length]
    walk_at "go"
    exact k


theorem check_run_ok {row : List Int} {n : Nat} {cs : List (Int × Int)} {Q : Sl → List Sl → Prop} (hl : row.length = n) (h0 : 1 ≤ n) (h : ∀ c ∈ cs, Fit n c) (k : Q (.v .none) [.v (li row), .v (lc cs)]) : sp_check_run [.v (li row), .v (lc cs)] Q := by
  unfold sp_check_run
  walk_at "go"
  rw [List.length_map, hl]
  refine check_size_ok (by omega) ?_
  walk_at "st"
  rw [List.length_map, hl]
  refine check_script_ok h ?_
  walk_at "st"
  exact k
theorem run_ok {row : List Int} {n : Nat} {cs : List (Int × Int)} {Q : Sl → List Sl → Prop} (hl : row.length = n) (h0 : 1 ≤ n) (hn : n ≤ 1000) (h : ∀ c ∈ cs, Fit n c) (k : Q (.m (.ol ((runs row cs).map .int))) [.v (li row), .v (lc cs)]) : sp_run [.v (li row), .v (lc cs)] Q := by
  unfold sp_run
  walk_at "go"
  refine check_run_ok hl h0 h ?_
  walk_at "st"
  exact after_script_ok (by omega) h k


theorem descending_ok {n : Nat} {Q : Sl → List Sl → Prop} (hn : n ≤ 1000) (k : Q (.m (.ol ((falls n).map .int))) [.v (.int n)]) : sp_descending [.v (.int n)] Q := by
  unfold sp_descending
  walk_at "go"
  rw [down_falls]
  exact k
theorem effect_in_ok {n : Nat} {cs : List (Int × Int)} {Q : Sl → List Sl → Prop} (hn : n ≤ 1000) (h : ∀ c ∈ cs, Fit n c) (k : Q (.m (.ol ((runs (falls n) cs).map .int))) [.v (.int n), .v (lc cs)]) : sp_effect_in [.v (.int n), .v (lc cs)] Q := by
  unfold sp_effect_in
  walk_at "go"
  refine descending_ok hn ?_
  walk_at "st"
  refine after_script_ok (by rw [falls_len]; exact hn) h ?_
  exact k
theorem effect_ok {n : Nat} {cs : List (Int × Int)} {Q : Sl → List Sl → Prop} (h0 : 1 ≤ n) (hn : n ≤ 1000) (h : ∀ c ∈ cs, Fit n c) (k : Q (.m (.ol ((runs (falls n) cs).map .int))) [.v (.int n), .v (lc cs)]) : sp_effect [.v (.int n), .v (lc cs)] Q := by
  unfold sp_effect
  walk_at "go"
  refine check_size_ok (by omega) ?_
  walk_at "st"
  refine check_script_ok h ?_
  walk_at "st"
  exact effect_in_ok hn h k


/-- check_arrangement raises nothing at an arrangement -/
theorem check_ok {p : List Int} {n : Nat} {Q : Sl → List Sl → Prop} (hp : Arr n p) (hn : n ≤ 1000) (k : Q (.v .none) [.v (li p)]) : sp_check_arrangement [.v (li p)] Q := by
  have hl : p.length = n := hp.len
  have nd : p.Nodup := hp.nodup
  unfold sp_check_arrangement
  walk_at "go"
  refine forL_inv (fun i env => ∃ ms : List (Key × MO), env = [.v (li p), .m (.dk ms), .un, .un] ∧ ms.length ≤ i ∧ ∀ v : Int, (getK ms (.inl v)).isSome = decide (v ∈ p.take i)) ?_ ?_ ?_
  · exact ⟨[], rfl, Nat.le_refl _, fun v => by simp [getK]⟩
  · rintro i d e G hd ⟨ms, rfl, h1, h2⟩ hG
    obtain ⟨v, hv, rfl⟩ := enumD_at hd
    have hi := (List.getElem?_eq_some_iff.mp hv).1
    have vm := hp.mem.mp (List.mem_of_getElem? hv)
    have c1 : decide (1 ≤ v) = true := decide_eq_true vm.1
    have c2 : decide (v ≤ ((p.map PyData.int).length : Nat)) = true := decide_eq_true (by rw [List.length_map]; omega)
    have c3 : v ∉ p.take i := fun h => by
      obtain ⟨j, hj, e⟩ := List.mem_iff_getElem.mp h
      rw [List.length_take] at hj
      rw [List.getElem_take] at e
      obtain ⟨hi', e2⟩ := List.getElem?_eq_some_iff.mp hv
      exact List.pairwise_iff_getElem.mp nd j i (by omega) hi (by omega) (e.trans e2.symm)
    walk_at "go"
    rw [c1]
    walk_at "go"
    rw [c2]
    walk_at "go"
    refine sel_f (by rw [h2]; exact decide_eq_false c3) ?_
    walk_at "go"
    refine hG _ ⟨_, rfl, Nat.le_trans (setK_le ..) (by omega), fun u => ?_⟩
    rw [getK_put, List.take_add_one, hv]
    by_cases e : u = v
    · subst e
      simp
    · have ne : ¬ ((Sum.inl u : Key) = Sum.inl v) := fun z => e (Sum.inl.inj z)
      rw [if_neg ne, h2]
      simp [e]
  · rintro e ⟨ms, rfl, _, _⟩
    walk_at "go"
    exact k


/-! ### turns, idle commands -/
def pairs : List Int → List (Int × Int) → List (List Int × List Int)
  | _, [] => []
  | r, c :: cs => (r, stretch r c) :: pairs (stretch r c) cs
def pairD (p : List Int × List Int) : PyData := .tuple [li p.1, li p.2]
theorem pairs_len : ∀ (cs : List (Int × Int)) (r : List Int), (pairs r cs).length = cs.length
  | [], _ => rfl
  | c :: cs, r => by
    rw [pairs, List.length_cons, pairs_len cs, List.length_cons]
theorem pairs_get : ∀ {cs : List (Int × Int)} {r : List Int} {i : Nat}, i < cs.length → (pairs r cs)[i]? = some (runs r (cs.take i), runs r (cs.take (i + 1)))
  | c :: cs, r, 0, _ => rfl
  | c :: cs, r, i + 1, h => by
    rw [pairs, List.getElem?_cons_succ, pairs_get (by simpa using h)]
    rfl
theorem turns_of_ok {n : Nat} {cs : List (Int × Int)} (hn : n ≤ 1000) (h : ∀ c ∈ cs, Fit n c) : sp_turns_of [.v (.int n), .v (lc cs)] ((pairs (falls n) cs).map pairD) := by
  unfold sp_turns_of
  walk_at "go"
  refine descending_ok hn ?_
  walk_at "st"
  refine gForL_inv (fun i ds e => ds = (pairs (runs (falls n) (cs.take i)) (cs.drop i)).map pairD ∧ ∃ x a b, e = [.v (.int n), .v (lc cs), x, a, b] ∧ (x = .m (.ol ((runs (falls n) (cs.take i)).map .int)) ∨ x = .v (li (runs (falls n) (cs.take i))))) ⟨rfl, _, _, _, rfl, .inl rfl⟩ ?_ ?_
  · rintro i d ds e R hd ⟨rfl, x, a, b, rfl, hx⟩ hR
    obtain ⟨c, hc, rfl⟩ := map_get hd
    have hl := (List.getElem?_eq_some_iff.mp hc).1
    have ec : cs.drop i = c :: cs.drop (i + 1) := by
      rw [List.drop_eq_getElem_cons hl]
      rw [(List.getElem?_eq_some_iff.mp hc).2]
    rw [ec]
    have er : runs (falls n) (cs.take (i + 1)) = stretch (runs (falls n) (cs.take i)) c := (runs_step hc).symm
    have lr : (runs (falls n) (cs.take i)).length ≤ 1000 := by rw [runs_len (fit_take h i), falls_len]; exact hn
    rcases hx with rfl | rfl
    all_goals
      walk_at "go"
      refine after_command_ok lr (h c (List.mem_of_getElem? hc)) ?_
      walk_at "st"
      refine hR _ _ ⟨?_, _, _, _, rfl, .inr ?_⟩
      · rw [er]
      · rw [er]
  · rintro ds e ⟨rfl, x, a, b, rfl, _⟩
    rw [List.length_map, List.drop_length]
    rfl
/-- the places of the commands at whose turn nothing changes -/
def idles (r : List Int) (cs : List (Int × Int)) : List Int := (((pairs r cs).zipIdx).filter fun p => decide (p.1.1 = p.1.2)).map fun p => (p.2 : Int)
theorem enum_pairs : ∀ (ps : List (List Int × List Int)) (k : Nat), enumD k (ps.map pairD) = (ps.zipIdx k).map fun p => .tuple [.int (p.2 : Int), pairD p.1]
  | [], _ => rfl
  | p :: ps, k => by
    rw [List.map_cons, enumD, enum_pairs ps (k + 1), List.zipIdx_cons, List.map_cons]

theorem check_scripts_ok {n : Nat} {a b : List (Int × Int)} {Q : Sl → List Sl → Prop} (h0 : 1 ≤ n) (ha : ∀ c ∈ a, Fit n c) (hb : ∀ c ∈ b, Fit n c) (k : Q (.v .none) [.v (.int n), .v (lc a), .v (lc b)]) : sp_check_scripts [.v (.int n), .v (lc a), .v (lc b)] Q := by
  unfold sp_check_scripts
  walk_at "go"
  refine check_size_ok (by omega) ?_
  walk_at "st"
  refine check_script_ok ha ?_
  walk_at "st"
  refine check_script_ok hb ?_
  walk_at "st"
  exact k
theorem same_scripts_ok {n : Nat} {a b : List (Int × Int)} {Q : Sl → List Sl → Prop} (h0 : 1 ≤ n) (hn : n ≤ 1000) (ha : ∀ c ∈ a, Fit n c) (hb : ∀ c ∈ b, Fit n c) (k : Q (.v (.bool (decide (runs (falls n) a = runs (falls n) b)))) [.v (.int n), .v (lc a), .v (lc b)]) : sp_same_scripts [.v (.int n), .v (lc a), .v (lc b)] Q := by
  unfold sp_same_scripts
  walk_at "go"
  refine check_scripts_ok h0 ha hb ?_
  walk_at "st"
  refine effect_in_ok hn ha ?_
  walk_at "st"
  refine effect_in_ok hn hb ?_
  walk_at "st"
  rw [eqv_li]
  exact k

/-- sorted where the counts of each value are as great as can be -/
theorem thr_iff {n : Nat} {cs : List (Int × Int)} {row : List Int} (h : ∀ c ∈ cs, Fit n c) (hl : row.length = n) (v : Int) :
    (∀ p, zc (lifts (deck n) cs) (cntv row v : Nat) p ≤ zc row v p) ↔ (∀ p, zc (runs row cs) v p = min p (cntv row v)) := by
  have hc : cntv row v ≤ n := by have := cntv_le row v; omega
  have ed : zc (deck n) (cntv row v : Nat) = fun p => min p (cntv row v) := by
    funext p
    exact zc_deck hc
  have hw : Zf (fun p => min p (cntv row v)) := by rw [← ed]; exact zc_zf _ _
  rw [zc_lifts h (deck_len n), ed, zc_runs h hl]
  refine (czs_lzs h (zc_zf row v) hw).symm.trans ⟨fun k p => Nat.le_antisymm ?_ (k p), fun k p => Nat.le_of_eq (k p).symm⟩
  have z := zc_zf (runs row cs) v
  rw [← zc_runs h hl]
  have h1 := z.le p
  have h2 : zc (runs row cs) v p ≤ cntv row v := by
    rw [← cntv_perm (runs_perm h)]
    by_cases hp : p ≤ (runs row cs).length
    · have := (z.to hp).1
      rwa [zc_all v (Nat.le_refl (runs row cs).length)] at this
    · rw [zc_all v (by omega)]
      exact Nat.le_refl _
  omega
theorem sorted_iff {row s : List Int} (hp : s.Perm row) : s = PL.sortI row ↔ ∀ v p, zc s v p = min p (cntv row v) := by
  constructor
  · rintro rfl v p
    rw [take_sorted v (PL.sortI_sorted _), cntv_perm (PL.sortI_perm _)]
  · intro h
    refine zc_ext (by rw [hp.length_eq, (PL.sortI_perm _).length_eq]) fun v p _ => ?_
    rw [h, take_sorted v (PL.sortI_sorted _), cntv_perm (PL.sortI_perm _)]
/-- the places of the values up to v -/
def pl (row : List Int) (v : Int) : List Int := ((row.zipIdx).filter fun p => decide (p.1 ≤ v)).map fun p => (p.2 : Int)
theorem zipIdx_inc : ∀ (l : List Int) (k : Nat), (l.zipIdx k).Pairwise fun a b => a.2 < b.2
  | [], _ => .nil
  | x :: l, k => by
    rw [List.zipIdx_cons]
    refine .cons (fun b hb => ?_) (zipIdx_inc l (k + 1))
    have := (List.mem_zipIdx hb).1
    show k < b.2
    omega
theorem pl_inc (row : List Int) (v : Int) : (pl row v).Pairwise (· < ·) := by
  unfold pl
  rw [List.pairwise_map]
  exact ((zipIdx_inc row 0).filter _).imp fun h => by omega
theorem cnt_from (v : Int) : ∀ (l : List Int) (k p : Nat), ((l.zipIdx k).filter fun q => decide (q.1 ≤ v)).countP (fun q => decide ((q.2 : Int) < ((k + p : Nat) : Int))) = cntv (l.take p) v
  | [], k, p => by rw [List.take_nil]; rfl
  | x :: l, k, 0 => by
    rw [List.take_zero, List.countP_eq_zero.mpr fun q hq => ?_]
    · rfl
    · have := (List.mem_zipIdx (List.mem_filter.mp hq).1).1
      simp
      omega
  | x :: l, k, p + 1 => by
    have ih := cnt_from v l (k + 1) p
    rw [show k + 1 + p = k + (p + 1) by omega] at ih
    rw [List.zipIdx_cons, List.take_succ_cons, cntv_cons, List.filter_cons]
    by_cases e : x ≤ v
    · rw [if_pos (show decide ((x, k).1 ≤ v) = true from decide_eq_true e), List.countP_cons, ih, if_pos e, if_pos (decide_eq_true (by show ((k : Nat) : Int) < _; omega))]
    · rw [if_neg (show ¬ decide ((x, k).1 ≤ v) = true by simpa using e), ih, if_neg e]
      rfl
theorem zc_pl (row : List Int) (v : Int) (p : Nat) : (pl row v).countP (fun x => decide (x < (p : Int))) = zc row v p := by
  have := cnt_from v row 0 p
  rw [Nat.zero_add] at this
  unfold pl zc
  rw [List.countP_map]
  exact this
theorem pl_len (row : List Int) (v : Int) : (pl row v).length = cntv row v := by
  have := zc_pl row v row.length
  rw [zc_all v (Nat.le_refl _), List.countP_eq_length.mpr fun x hx => ?_] at this
  · exact this
  · unfold pl at hx
    obtain ⟨q, hq, rfl⟩ := List.mem_map.mp hx
    have := (List.mem_zipIdx (List.mem_filter.mp hq).1).2.1
    exact decide_eq_true (by omega)
theorem zip_le_iff : ∀ {A B : List Int}, A.Pairwise (· < ·) → B.Pairwise (· < ·) → A.length = B.length → ((∀ q ∈ A.zip B, q.1 ≤ q.2) ↔ ∀ p : Int, B.countP (fun x => decide (x < p)) ≤ A.countP fun x => decide (x < p))
  | [], [], _, _, _ => by simp
  | [], _ :: _, _, _, h => by cases h
  | _ :: _, [], _, _, h => by cases h
  | a :: A, b :: B, hA, hB, hl => by
    obtain ⟨a1, a2⟩ := List.pairwise_cons.mp hA
    obtain ⟨b1, b2⟩ := List.pairwise_cons.mp hB
    have ih := zip_le_iff a2 b2 (by simpa using hl)
    rw [List.zip_cons_cons]
    constructor
    · intro h p
      have h0 : a ≤ b := h (a, b) List.mem_cons_self
      have h1 := ih.mp (fun q hq => h q (List.mem_cons_of_mem _ hq)) p
      rw [List.countP_cons, List.countP_cons]
      by_cases e : b < p
      · rw [if_pos (decide_eq_true e), if_pos (decide_eq_true (by omega))]
        omega
      · rw [if_neg (by simpa using e)]
        omega
    · intro h
      have h0 : a ≤ b := by
        have := h (b + 1)
        rw [List.countP_cons, if_pos (decide_eq_true (by omega))] at this
        have pos : 0 < (a :: A).countP fun x => decide (x < b + 1) := by omega
        obtain ⟨x, hx, e⟩ := List.countP_pos_iff.mp pos
        have e := of_decide_eq_true e
        rcases List.mem_cons.mp hx with rfl | hx
        · omega
        · have := a1 x hx; omega
      have h1 := ih.mpr fun p => by
        have := h p
        rw [List.countP_cons, List.countP_cons] at this
        by_cases e : b < p
        · rw [if_pos (decide_eq_true e), if_pos (decide_eq_true (show a < p by omega))] at this
          omega
        · have z : B.countP (fun x => decide (x < p)) = 0 := by
            rw [List.countP_eq_zero]
            intro x hx
            have := b1 x hx
            simp
            omega
          omega
      intro q hq
      rcases List.mem_cons.mp hq with rfl | hq
      · exact h0
      · exact h1 q hq
/-- what unsorted_value asks at a value -/
theorem pl_iff {row g : List Int} {v w : Int} (he : cntv row v = cntv g w) : (∀ q ∈ (pl row v).zip (pl g w), q.1 ≤ q.2) ↔ ∀ p, zc g w p ≤ zc row v p := by
  rw [zip_le_iff (pl_inc row v) (pl_inc g w) (by rw [pl_len, pl_len, he])]
  constructor
  · intro h p
    rw [← zc_pl, ← zc_pl]
    exact h p
  · intro h p
    by_cases hp : 0 ≤ p
    · obtain ⟨k, rfl⟩ : ∃ k : Nat, p = k := ⟨p.toNat, by omega⟩
      rw [zc_pl, zc_pl]
      exact h k
    · rw [List.countP_eq_zero.mpr fun x hx => ?_]
      · exact Nat.zero_le _
      · unfold pl at hx
        obtain ⟨q, _, rfl⟩ := List.mem_map.mp hx
        simp
        omega
/-- the greatest value up to v stands for v -/
theorem stand_for {row : List Int} {v : Int} (h : 0 < cntv row v) : ∃ u ∈ row, zc row v = zc row u := by
  obtain ⟨x, hx, hxv⟩ := List.countP_pos_iff.mp h
  have : ∃ u ∈ row, u ≤ v ∧ ∀ y ∈ row, y ≤ v → y ≤ u := by
    have key : ∀ (l : List Int), (∃ x ∈ l, x ≤ v) → ∃ u ∈ l, u ≤ v ∧ ∀ y ∈ l, y ≤ v → y ≤ u := by
      intro l
      induction l with
      | nil => rintro ⟨x, hx, _⟩; cases hx
      | cons x l ih =>
        intro hex
        by_cases e : ∃ y ∈ l, y ≤ v
        · obtain ⟨u, hu, u1, u2⟩ := ih e
          by_cases c : x ≤ v ∧ u < x
          · refine ⟨x, List.mem_cons_self, c.1, fun y hy yv => ?_⟩
            rcases List.mem_cons.mp hy with rfl | hy
            · exact Int.le_refl _
            · have := u2 y hy yv; omega
          · refine ⟨u, List.mem_cons_of_mem _ hu, u1, fun y hy yv => ?_⟩
            rcases List.mem_cons.mp hy with rfl | hy
            · omega
            · exact u2 y hy yv
        · obtain ⟨w, hw, wv⟩ := hex
          have hx : w = x := by
            rcases List.mem_cons.mp hw with z | z
            · exact z
            · exact absurd ⟨w, z, wv⟩ e
          subst hx
          refine ⟨w, List.mem_cons_self, wv, fun y hy yv => ?_⟩
          rcases List.mem_cons.mp hy with rfl | hy
          · exact Int.le_refl _
          · exact absurd ⟨y, hy, yv⟩ e
    exact key row ⟨x, hx, of_decide_eq_true hxv⟩
  obtain ⟨u, hu, u1, u2⟩ := this
  refine ⟨u, hu, funext fun p => ?_⟩
  unfold zc cntv
  refine List.countP_congr fun y hy => ?_
  have := List.mem_of_mem_take hy
  simp only [decide_eq_true_eq]
  exact ⟨fun h => u2 y this h, fun h => Int.le_trans h u1⟩
/-- a row gets sorted where each of its values does -/
theorem gets_iff {n : Nat} {cs : List (Int × Int)} {row : List Int} (h : ∀ c ∈ cs, Fit n c) (hl : row.length = n) : runs row cs = PL.sortI row ↔ ∀ v ∈ row, ∀ p, zc (lifts (deck n) cs) (cntv row v : Nat) p ≤ zc row v p := by
  rw [sorted_iff (runs_perm h)]
  constructor
  · exact fun k v _ => (thr_iff h hl v).mpr (k v)
  · intro k v p
    by_cases c : 0 < cntv row v
    · obtain ⟨u, hu, e⟩ := stand_for c
      have e2 : cntv row v = cntv row u := by
        have := congrFun e row.length
        rwa [zc_all v (Nat.le_refl _), zc_all u (Nat.le_refl _)] at this
      have e3 : zc (runs row cs) v = zc (runs row cs) u := by rw [zc_runs h hl, zc_runs h hl, e]
      rw [e2, e3]
      exact (thr_iff h hl u).mp (k u hu) p
    · have z : cntv (runs row cs) v = 0 := by rw [cntv_perm (runs_perm h)]; omega
      have := cntv_perm (runs_perm h (row := row)) v
      have z2 : zc (runs row cs) v p ≤ cntv (runs row cs) v := by
        by_cases hp : p ≤ (runs row cs).length
        · have := ((zc_zf (runs row cs) v).to hp).1
          rwa [zc_all v (Nat.le_refl (runs row cs).length)] at this
        · rw [zc_all v (by omega)]
          exact Nat.le_refl _
      omega


theorem zc_pre {a b : List Int} {v : Int} {p : Nat} (h : ∀ j : Nat, j < p → a[j]? = b[j]?) : zc a v p = zc b v p := by
  unfold zc
  congr 1
  refine List.ext_getElem? fun j => ?_
  by_cases hj : j < p
  · rw [List.getElem?_take_of_lt hj, List.getElem?_take_of_lt hj, h j hj]
  · rw [List.getElem?_eq_none (by rw [List.length_take]; omega), List.getElem?_eq_none (by rw [List.length_take]; omega)]
theorem zc_suf {a b : List Int} {v : Int} {p : Nat} (hp : a.Perm b) (h : ∀ j : Nat, p ≤ j → a[j]? = b[j]?) : zc a v p = zc b v p := by
  have e : a.drop p = b.drop p := by
    refine List.ext_getElem? fun j => ?_
    rw [List.getElem?_drop, List.getElem?_drop, h _ (by omega)]
  have t : ∀ l : List Int, cntv l v = zc l v p + cntv (l.drop p) v := fun l => by
    unfold zc
    rw [← cntv_app, List.take_append_drop]
  have h1 := t a
  have h2 := t b
  rw [e] at h1
  have := cntv_perm hp v
  omega
theorem stretch_out {n : Nat} {row : List Int} {c : Int × Int} (h : Fit n c) (hl : row.length = n) {j : Nat} (hj : j < lo c ∨ hi c ≤ j) : (stretch row c)[j]? = row[j]? := by
  have hh := h.le
  have ls : (PL.sortI ((row.take (hi c)).drop (lo c))).length = hi c - lo c := by rw [(PL.sortI_perm _).length_eq, List.length_drop, List.length_take]; omega
  show (row.take (lo c) ++ PL.sortI ((row.take (hi c)).drop (lo c)) ++ row.drop (hi c))[j]? = _
  rcases hj with hj | hj
  · rw [List.append_assoc, List.getElem?_append_left (by rw [List.length_take]; omega), List.getElem?_take_of_lt hj]
  · rw [List.getElem?_append_right (by rw [List.length_append, List.length_take, ls]; omega), List.length_append, List.length_take, ls, List.getElem?_drop]
    congr 1
    omega
theorem falls_get {n j : Nat} (h : j < n) : (falls n)[j]? = some ((n : Int) - j) := by
  unfold falls
  rw [List.getElem?_reverse (by rw [deck_len]; exact h), deck_len, deck_get (by omega)]
  congr 1
  omega
/-- the first and the last of the places that are asked for -/
structure Span (l : List Int) (keep : Int × Nat → Bool) (b e : Nat) : Prop where
  b1 : 1 ≤ b
  be : b ≤ e
  el : e ≤ l.length
  kb : ∃ x, l[b - 1]? = some x ∧ keep (x, b) = true
  ke : ∃ x, l[e - 1]? = some x ∧ keep (x, e) = true
  all : ∀ (j : Nat) x, 1 ≤ j → l[j - 1]? = some x → keep (x, j) = true → b ≤ j ∧ j ≤ e
theorem span_of {l : List Int} {keep : Int × Nat → Bool} {q r : Int × Nat} (hq : ((l.zipIdx 1).filter keep)[0]? = some q) (hr : ((l.zipIdx 1).filter keep)[((l.zipIdx 1).filter keep).length - 1]? = some r) : Span l keep q.2 r.2 := by
  have inc : ((l.zipIdx 1).filter keep).Pairwise fun a b => a.2 < b.2 := (zipIdx_inc l 1).filter _
  have mem : ∀ (p : Int × Nat), p ∈ (l.zipIdx 1).filter keep ↔ (1 ≤ p.2 ∧ l[p.2 - 1]? = some p.1) ∧ keep p = true := fun p => by
    rw [List.mem_filter]
    have := List.mk_mem_zipIdx_iff_le_and_getElem?_sub (k := 1) (x := p.1) (i := p.2) (l := l)
    exact and_congr_left fun _ => this
  have mq := (mem q).mp (List.mem_of_getElem? hq)
  have mr := (mem r).mp (List.mem_of_getElem? hr)
  have bnd : ∀ p ∈ (l.zipIdx 1).filter keep, q.2 ≤ p.2 ∧ p.2 ≤ r.2 := by
    intro p hp
    obtain ⟨i, hi⟩ := List.mem_iff_getElem?.mp hp
    generalize (l.zipIdx 1).filter keep = F at *
    obtain ⟨i1, i2⟩ := List.getElem?_eq_some_iff.mp hi
    obtain ⟨q1, q2⟩ := List.getElem?_eq_some_iff.mp hq
    obtain ⟨r1, r2⟩ := List.getElem?_eq_some_iff.mp hr
    have pw := List.pairwise_iff_getElem.mp inc
    constructor
    · by_cases z : i = 0
      · subst z; rw [← i2, ← q2]; exact Nat.le_refl _
      · have := pw 0 i q1 i1 (by omega)
        rw [i2, q2] at this
        omega
    · by_cases z : i = F.length - 1
      · subst z; rw [← i2, ← r2]; exact Nat.le_refl _
      · have := pw i (F.length - 1) i1 r1 (by omega)
        rw [i2, r2] at this
        omega
  refine ⟨mq.1.1, (bnd r (List.mem_of_getElem? hr)).1, ?_, ⟨q.1, mq.1.2, mq.2⟩, ⟨r.1, mr.1.2, mr.2⟩, fun j x h1 h2 h3 => bnd (x, j) ((mem (x, j)).mpr ⟨⟨h1, h2⟩, h3⟩)⟩
  have := (List.getElem?_eq_some_iff.mp mr.1.2).1
  have := mr.1.1
  omega
theorem lo_nat (b e : Nat) : lo ((b : Int), (e : Int)) = b - 1 := by show ((b : Int) - 1).toNat = b - 1; omega
theorem hi_nat (b e : Nat) : hi ((b : Int), (e : Int)) = e := by show ((e : Int)).toNat = e; omega
/-- a stretch that holds all wrong places puts the row in order -/
theorem stretch_deck {n b e : Nat} {E : List Int} (hE : Arr n E) (hb : 1 ≤ b) (hbe : b ≤ e) (he : e ≤ n) (out : ∀ j : Nat, j + 1 < b ∨ e ≤ j → E[j]? = (deck n)[j]?) : stretch E ((b : Int), (e : Int)) = deck n := by
  have f : Fit n ((b : Int), (e : Int)) := ⟨by show (1 : Int) ≤ b; omega, by show (b : Int) ≤ e; omega, by show (e : Int) ≤ n; omega⟩
  have hS : Arr n (stretch E ((b : Int), (e : Int))) := (stretch_perm ⟨f.1, f.2.1⟩).trans hE
  have z1 : ∀ v p, p ≤ b - 1 → zc E v p = zc (deck n) v p := fun v p hp => zc_pre fun j hj => out j (.inl (by omega))
  have z2 : ∀ v p, e ≤ p → zc E v p = zc (deck n) v p := fun v p hp => zc_suf hE fun j hj => out j (.inr (by omega))
  refine below_antisymm (by rw [hS.len, deck_len]) (below_arr hS (List.Perm.refl _) fun v p hv hp => ?_) (deck_below hS)
  rw [zc_stretch f hE.len, lo_nat, hi_nat]
  by_cases h1 : p ≤ b - 1 ∨ e ≤ p
  · rw [cz_out h1]
    rcases h1 with h1 | h1
    · rw [z1 v p h1]; exact Nat.le_refl _
    · rw [z2 v p h1]; exact Nat.le_refl _
  · rw [cz_in (zc_zf E v) (by omega) (by omega), z2 v e (Nat.le_refl e), z1 v (b - 1) (Nat.le_refl _), zc_deck hv, zc_deck hv, zc_deck hv]
    omega
theorem stretch_not_deck {n : Nat} {c : Int × Int} {E : List Int} (hE : Arr n E) (f : Fit n c) {j : Nat} (hj : j < lo c ∨ hi c ≤ j) (ne : E[j]? ≠ (deck n)[j]?) : stretch E c ≠ deck n := fun e => by
  have := stretch_out f hE.len hj
  rw [e] at this
  exact ne this.symm
/-- a stretch of the falling row that holds all places where G does not fall -/
theorem stretch_below {n b e : Nat} {G : List Int} (hG : Arr n G) (hb : 1 ≤ b) (hbe : b ≤ e) (he : e ≤ n) (out : ∀ j : Nat, j + 1 < b ∨ e ≤ j → G[j]? = (falls n)[j]?) : below (stretch (falls n) ((b : Int), (e : Int))) G := by
  have f : Fit n ((b : Int), (e : Int)) := ⟨by show (1 : Int) ≤ b; omega, by show (b : Int) ≤ e; omega, by show (e : Int) ≤ n; omega⟩
  intro v p
  have z1 : ∀ p, p ≤ b - 1 → zc G v p = zc (falls n) v p := fun p hp => zc_pre fun j hj => out j (.inl (by omega))
  have z2 : ∀ p, e ≤ p → zc G v p = zc (falls n) v p := fun p hp => zc_suf (hG.trans (falls_perm n).symm) fun j hj => out j (.inr (by omega))
  rw [zc_stretch f (falls_len n), lo_nat, hi_nat]
  by_cases h1 : p ≤ b - 1 ∨ e ≤ p
  · rw [cz_out h1]
    rcases h1 with h1 | h1
    · rw [z1 p h1]; exact Nat.le_refl _
    · rw [z2 p h1]; exact Nat.le_refl _
  · rw [cz_in (zc_zf _ v) (by omega) (by omega), ← z2 e (Nat.le_refl e), ← z1 (b - 1) (Nat.le_refl _)]
    have a1 := (zc_zf G v).to (show b - 1 ≤ p by omega)
    have a2 := (zc_zf G v).to (show p ≤ e by omega)
    omega
theorem not_below_front {n b : Nat} {c : Int × Int} {G : List Int} (hG : Arr n G) (f : Fit n c) (hb : 1 ≤ b) (hbn : b ≤ n) (hc : b ≤ lo c) (pre : ∀ j : Nat, j + 1 < b → G[j]? = (falls n)[j]?) (ne : G[b - 1]? ≠ (falls n)[b - 1]?) : ¬ below (stretch (falls n) c) G := by
  intro h
  have lg := hG.len
  have gb : G[b - 1]? = some G[b - 1] := List.getElem?_eq_getElem (by omega)
  generalize hv : G[b - 1] = v at gb
  have fb := falls_get (n := n) (j := b - 1) (by omega)
  have X : ∀ j : Nat, j < b → (stretch (falls n) c)[j]? = (falls n)[j]? := fun j hj => stretch_out f (falls_len n) (.inl (by omega))
  have hx : (stretch (falls n) c)[b - 1]? = some ((n : Int) - (b - 1 : Nat)) := by rw [X _ (by omega), fb]
  have s1 := zc_succ v gb
  have s2 := zc_succ v hx
  rw [show b - 1 + 1 = b by omega] at s1 s2
  have e1 : zc G v (b - 1) = zc (falls n) v (b - 1) := zc_pre fun j hj => pre j (by omega)
  have e2 : zc (stretch (falls n) c) v (b - 1) = zc (falls n) v (b - 1) := zc_pre fun j hj => X j (by omega)
  have := h v b
  have le : (n : Int) - (b - 1 : Nat) ≤ v := by
    refine Classical.byContradiction fun q => ?_
    rw [if_neg q] at s2
    rw [if_pos (Int.le_refl v)] at s1
    omega
  have nv : v ≠ (n : Int) - (b - 1 : Nat) := fun e => ne (by rw [gb, fb, e])
  have vm := hG.mem.mp (List.mem_of_getElem? gb)
  obtain ⟨k, hk⟩ : ∃ k : Nat, v = (n : Int) - k := ⟨((n : Int) - v).toNat, by omega⟩
  have gk : G[k]? = some v := by rw [pre k (by omega), falls_get (by omega), hk]
  have nd := hG.nodup
  obtain ⟨k1, k2⟩ := List.getElem?_eq_some_iff.mp gk
  have := List.pairwise_iff_getElem.mp (List.nodup_iff_pairwise_ne.mp nd) k (b - 1) k1 (by omega) (by omega)
  exact this (by rw [k2, hv])
theorem not_below_back {n e : Nat} {c : Int × Int} {G : List Int} (hG : Arr n G) (f : Fit n c) (he1 : 1 ≤ e) (he : e ≤ n) (hc : hi c < e) (suf : ∀ j : Nat, e ≤ j → G[j]? = (falls n)[j]?) (ne : G[e - 1]? ≠ (falls n)[e - 1]?) : ¬ below (stretch (falls n) c) G := by
  intro h
  have lg := hG.len
  have ge : G[e - 1]? = some G[e - 1] := List.getElem?_eq_getElem (by omega)
  generalize hu : G[e - 1] = u at ge
  have fe := falls_get (n := n) (j := e - 1) (by omega)
  obtain ⟨w, hw⟩ : ∃ w : Nat, (n : Int) - (e - 1 : Nat) = w := ⟨n - (e - 1), by omega⟩
  have Xp : (stretch (falls n) c).Perm (falls n) := stretch_perm ⟨f.1, f.2.1⟩
  have x1 : zc (stretch (falls n) c) w (e - 1) = zc (falls n) w (e - 1) := zc_suf Xp fun j hj => stretch_out f (falls_len n) (.inr (by omega))
  have x2 : zc G w e = zc (falls n) w e := zc_suf (hG.trans (falls_perm n).symm) suf
  have zf : ∀ p, p ≤ n → zc (falls n) w p = p - (n - w) := fun p hp => by
    have := zc_falls (n := n) (t := n - w) (by omega) hp
    rwa [show n - (n - w) = w by omega] at this
  rw [zf _ (by omega)] at x1 x2
  have s := zc_succ (w : Int) ge
  rw [show e - 1 + 1 = e by omega] at s
  have := h w (e - 1)
  have le : u ≤ w := by
    refine Classical.byContradiction fun q => ?_
    rw [if_neg q] at s
    omega
  have nu : u ≠ w := fun z => ne (by rw [ge, fe, hw, z])
  have um := hG.mem.mp (List.mem_of_getElem? ge)
  obtain ⟨k, hk⟩ : ∃ k : Nat, u = (n : Int) - k := ⟨((n : Int) - u).toNat, by omega⟩
  have gk : G[k]? = some u := by rw [suf k (by omega), falls_get (by omega), hk]
  have nd := hG.nodup
  obtain ⟨k1, k2⟩ := List.getElem?_eq_some_iff.mp gk
  have := List.pairwise_iff_getElem.mp (List.nodup_iff_pairwise_ne.mp nd) (e - 1) k (by omega) k1 (by omega)
  exact this (by rw [k2, hu])


/-! ### trimmed scripts -/
def dif (a b : List Int) : List Nat := (List.range a.length).filter fun i => decide (a[i]? ≠ b[i]?)
theorem dif_mem {a b : List Int} {i : Nat} : i ∈ dif a b ↔ i < a.length ∧ a[i]? ≠ b[i]? := by
  unfold dif
  rw [List.mem_filter, List.mem_range, decide_eq_true_eq]
theorem dif_nil {a b : List Int} (hl : a.length = b.length) : dif a b = [] ↔ a = b := by
  constructor
  · intro h
    refine List.ext_getElem? fun i => Classical.byContradiction fun ne => ?_
    by_cases hi : i < a.length
    · have : i ∈ dif a b := dif_mem.mpr ⟨hi, ne⟩
      rw [h] at this
      cases this
    · exact ne (by rw [List.getElem?_eq_none (by omega), List.getElem?_eq_none (by omega)])
  · rintro rfl
    unfold dif
    exact List.filter_eq_nil_iff.mpr fun i _ => by simp
/-- the first and the last place that differ, from 1 on -/
def en (a b : List Int) : Int × Int := (((dif a b).headD 0 : Nat) + 1, ((dif a b).getLastD 0 : Nat) + 1)
structure En (n : Nat) (a b : List Int) (i j : Nat) : Prop where
  eq : en a b = ((i : Int) + 1, (j : Int) + 1)
  ij : i ≤ j
  jn : j < n
  di : a[i]? ≠ b[i]?
  dj : a[j]? ≠ b[j]?
  out : ∀ k : Nat, k < i ∨ j < k → a[k]? = b[k]?
  ex : ∃ r, dif a b = i :: r
  el : ∃ r, dif a b = r ++ [j]
theorem en_of {n : Nat} {a b : List Int} (la : a.length = n) (lb : b.length = n) (ne : a ≠ b) : ∃ i j, En n a b i j := by
  have inc : (dif a b).Pairwise (· < ·) := List.pairwise_lt_range.filter _
  have nn : dif a b ≠ [] := fun h => ne ((dif_nil (by omega)).mp h)
  obtain ⟨i, r, hi⟩ := List.exists_cons_of_ne_nil nn
  have hj : ∃ r j, dif a b = r ++ [j] := ⟨_, _, (List.dropLast_concat_getLast nn).symm⟩
  obtain ⟨r2, j, hj⟩ := hj
  have mi : i ∈ dif a b := by rw [hi]; exact List.mem_cons_self
  have mj : j ∈ dif a b := by rw [hj]; exact List.mem_append_right _ (List.mem_singleton_self _)
  have lo' : ∀ k ∈ dif a b, i ≤ k := fun k hk => by
    rw [hi] at hk inc
    rcases List.mem_cons.mp hk with z | z
    · omega
    · have := (List.pairwise_cons.mp inc).1 k z
      omega
  have hi' : ∀ k ∈ dif a b, k ≤ j := fun k hk => by
    rw [hj] at hk inc
    rcases List.mem_append.mp hk with z | z
    · have := (List.pairwise_append.mp inc).2.2 k z j (List.mem_singleton_self _)
      omega
    · rw [List.mem_singleton.mp z]
      exact Nat.le_refl _
  obtain ⟨i1, i2⟩ := dif_mem.mp mi
  obtain ⟨j1, j2⟩ := dif_mem.mp mj
  refine ⟨i, j, ?_, lo' j mj, by omega, i2, j2, fun k hk => Classical.byContradiction fun z => ?_, ⟨_, hi⟩, ⟨_, hj⟩⟩
  · unfold en
    have e1 : (dif a b).headD 0 = i := by rw [hi]; rfl
    have e2 : (dif a b).getLastD 0 = j := by rw [hj, List.getLastD_concat]
    rw [e1, e2]
  · by_cases hk2 : k < a.length
    · have mk : k ∈ dif a b := dif_mem.mpr ⟨hk2, z⟩
      have := lo' k mk
      have := hi' k mk
      omega
    · exact z (by rw [List.getElem?_eq_none (by omega), List.getElem?_eq_none (by omega)])
theorem en_stretch {n i j : Nat} {a : List Int} {c : Int × Int} (f : Fit n c) (la : a.length = n) (e : En n a (stretch a c) i j) :
    i < j ∧ lo c ≤ i ∧ j + 1 ≤ hi c ∧ Fit n ((i : Int) + 1, (j : Int) + 1) ∧ stretch a ((i : Int) + 1, (j : Int) + 1) = stretch a c := by
  have hh := f.le
  have i1 : lo c ≤ i := Nat.le_of_not_lt fun z => e.di (stretch_out f la (.inl z)).symm
  have j1 : j + 1 ≤ hi c := Nat.lt_of_not_le fun z => e.dj (stretch_out f la (.inr z)).symm
  have ij := e.ij
  have jn := e.jn
  have f2 : Fit n ((i : Int) + 1, (j : Int) + 1) := ⟨by show (1 : Int) ≤ (i : Int) + 1; omega, by show (i : Int) + 1 ≤ (j : Int) + 1; omega, by show (j : Int) + 1 ≤ n; omega⟩
  have el : lo ((i : Int) + 1, (j : Int) + 1) = i := by show ((i : Int) + 1 - 1).toNat = i; omega
  have eh : hi ((i : Int) + 1, (j : Int) + 1) = j + 1 := by show ((j : Int) + 1).toNat = j + 1; omega
  have pm : a.Perm (stretch a c) := (stretch_perm ⟨f.1, f.2.1⟩).symm
  have eq : stretch a ((i : Int) + 1, (j : Int) + 1) = stretch a c := by
    refine zc_ext ?_ fun v p hp => ?_
    · rw [(stretch_perm ⟨f2.1, f2.2.1⟩).length_eq, (stretch_perm ⟨f.1, f.2.1⟩).length_eq]
    · have z1 : zc a v i = zc (stretch a c) v i := zc_pre fun k hk => e.out k (.inl hk)
      have z2 : zc a v (j + 1) = zc (stretch a c) v (j + 1) := zc_suf pm fun k hk => e.out k (.inr (by omega))
      have zf : Zf (zc a v) := zc_zf a v
      rw [zc_stretch f2 la, el, eh]
      by_cases c1 : p ≤ i
      · rw [cz_out (.inl c1)]
        exact zc_pre fun k hk => e.out k (.inl (by omega))
      · by_cases c2 : j + 1 ≤ p
        · rw [cz_out (.inr c2)]
          exact zc_suf pm fun k hk => e.out k (.inr (by omega))
        · rw [zc_stretch f la, cz_in zf (by omega) (by omega)] at z1 z2 ⊢
          rw [cz_in zf (by omega) (by omega), z1, z2]
          omega
  refine ⟨Nat.lt_of_le_of_ne ij fun z => ?_, i1, j1, f2, eq⟩
  subst z
  have : stretch a ((i : Int) + 1, (i : Int) + 1) = a := by
    refine zc_ext ((stretch_perm ⟨f2.1, f2.2.1⟩).length_eq) fun v p hp => ?_
    rw [zc_stretch f2 la, el, eh]
    exact cz_out (by omega)
  rw [this] at eq
  exact e.di (by rw [← eq])
/-- at whose turn something changes -/
def acts (r : List Int) (cs : List (Int × Int)) : List Nat := (List.range cs.length).filter fun i => decide (runs r (cs.take i) ≠ runs r (cs.take (i + 1)))
def tr (r : List Int) (cs : List (Int × Int)) : List (Int × Int) := (acts r cs).map fun i => en (runs r (cs.take i)) (runs r (cs.take (i + 1)))
theorem tr_cons (r : List Int) (c : Int × Int) (cs : List (Int × Int)) : tr r (c :: cs) = if r = stretch r c then tr (stretch r c) cs else en r (stretch r c) :: tr (stretch r c) cs := by
  have e : acts r (c :: cs) = (if r = stretch r c then [] else [0]) ++ (acts (stretch r c) cs).map (· + 1) := by
    unfold acts
    rw [List.length_cons, List.range_succ_eq_map, List.filter_cons, List.filter_map]
    by_cases h : r = stretch r c
    · rw [if_pos h]
      have : decide (runs r ((c :: cs).take 0) ≠ runs r ((c :: cs).take (0 + 1))) = false := decide_eq_false fun z => z h
      rw [this]
      rfl
    · rw [if_neg h]
      have : decide (runs r ((c :: cs).take 0) ≠ runs r ((c :: cs).take (0 + 1))) = true := decide_eq_true h
      rw [this]
      rfl
  unfold tr
  rw [e, List.map_append, List.map_map]
  by_cases h : r = stretch r c
  · rw [if_pos h, if_pos h]
    rfl
  · rw [if_neg h, if_neg h]
    rfl
theorem tr_all {n : Nat} : ∀ {cs : List (Int × Int)} {r : List Int}, r.length = n → (∀ c ∈ cs, Fit n c) →
    (∀ c ∈ tr r cs, Fit n c) ∧ runs r (tr r cs) = runs r cs ∧ acts r (tr r cs) = List.range (tr r cs).length
  | [], r, _, _ => ⟨(fun c hc => by cases hc), rfl, rfl⟩
  | c :: cs, r, hl, h => by
    have f := h c List.mem_cons_self
    have ls : (stretch r c).length = n := by rw [(stretch_perm ⟨f.1, f.2.1⟩).length_eq, hl]
    obtain ⟨a1, a2, a3⟩ := tr_all ls fun x hx => h x (List.mem_cons_of_mem _ hx)
    rw [tr_cons]
    by_cases q : r = stretch r c
    · rw [if_pos q]
      have a2' : runs (stretch r c) (tr (stretch r c) cs) = runs r (c :: cs) := a2
      rw [← q] at a1 a2' a3 ⊢
      exact ⟨a1, a2', a3⟩
    · rw [if_neg q]
      obtain ⟨i, j, e⟩ := en_of hl ls q
      obtain ⟨h1, h2, h3, h4, h5⟩ := en_stretch f hl e
      rw [e.eq]
      refine ⟨fun x hx => ?_, ?_, ?_⟩
      · rcases List.mem_cons.mp hx with z | z
        · rw [z]; exact h4
        · exact a1 x z
      · show runs (stretch r ((i : Int) + 1, (j : Int) + 1)) _ = runs (stretch r c) cs
        rw [h5]
        exact a2
      · have e3 : ∀ (x : Int × Int) (l : List (Int × Int)), r ≠ stretch r x → acts (stretch r x) l = List.range l.length → acts r (x :: l) = List.range (x :: l).length := fun x l hx hl => by
          unfold acts
          rw [List.length_cons, List.range_succ_eq_map, List.filter_cons, List.filter_map]
          have : decide (runs r ((x :: l).take 0) ≠ runs r ((x :: l).take (0 + 1))) = true := decide_eq_true hx
          rw [this]
          show 0 :: List.map Nat.succ (acts (stretch r x) l) = _
          rw [hl]
        exact e3 _ _ (by rw [h5]; exact q) (by rw [h5]; exact a3)
theorem acts_len (r : List Int) (cs : List (Int × Int)) : (acts r cs).length ≤ cs.length := by
  have := List.length_filter_le (fun i => decide (runs r (cs.take i) ≠ runs r (cs.take (i + 1)))) (List.range cs.length)
  rw [List.length_range] at this
  exact this
theorem acts_next {r : List Int} {cs : List (Int × Int)} {i : Nat} (hi : i < cs.length) : (acts r cs).filter (fun j => decide (j < i + 1)) = (acts r cs).filter (fun j => decide (j < i)) ++ if runs r (cs.take i) = runs r (cs.take (i + 1)) then [] else [i] := by
  have e : ∀ k, k ≤ cs.length → (acts r cs).filter (fun j => decide (j < k)) = (List.range k).filter fun i => decide (runs r (cs.take i) ≠ runs r (cs.take (i + 1))) := fun k hk => by
    unfold acts
    rw [List.filter_filter, show List.range cs.length = List.range (k + (cs.length - k)) by rw [Nat.add_sub_cancel' hk], List.range_add, List.filter_append]
    have z : ((List.range (cs.length - k)).map fun x => k + x).filter (fun a => decide (a < k) && decide (runs r (cs.take a) ≠ runs r (cs.take (a + 1)))) = [] := List.filter_eq_nil_iff.mpr fun a ha => by
      obtain ⟨b, hb, rfl⟩ := List.mem_map.mp ha
      rw [decide_eq_false (show ¬ k + b < k by omega)]
      exact Bool.false_ne_true
    rw [z, List.append_nil]
    refine List.filter_congr fun a ha => ?_
    have := List.mem_range.mp ha
    simp [this]
  rw [e _ hi, e _ (Nat.le_of_lt hi), List.range_succ, List.filter_append]
  by_cases q : runs r (cs.take i) = runs r (cs.take (i + 1))
  · rw [if_pos q]
    simp [q]
  · rw [if_neg q]
    simp [q]
theorem trimmed_ok {n : Nat} {cs : List (Int × Int)} {Q : Sl → List Sl → Prop} (h0 : 1 ≤ n) (hn : n ≤ 1000) (hl : cs.length ≤ 100000) (h : ∀ c ∈ cs, Fit n c) (k : Q (.m (.ol ((tr (falls n) cs).map ct))) [.v (.int n), .v (lc cs)]) : sp_trimmed [.v (.int n), .v (lc cs)] Q := by
  unfold sp_trimmed
  walk_at "go"
  refine check_size_ok (by omega) ?_
  walk_at "st"
  refine check_script_ok h ?_
  walk_at "st"
  refine ⟨_, turns_of_ok hn h, ?_⟩
  walk_at "go"
  refine forL_inv (fun i env => env = [.v (.int n), .v (lc cs), .m (.ol ((((acts (falls n) cs).filter fun j => decide (j < i)).map fun i => en (runs (falls n) (cs.take i)) (runs (falls n) (cs.take (i + 1)))).map ct)), .un, .un, .un, .un]) ?_ ?_ ?_
  · rw [show (acts (falls n) cs).filter (fun j => decide (j < 0)) = [] from List.filter_eq_nil_iff.mpr fun j _ => by simp]
    rfl
  · rintro i d e G hd rfl hG
    obtain ⟨p, hp, rfl⟩ := map_get hd
    have hi : i < cs.length := by
      have := (List.getElem?_eq_some_iff.mp hp).1
      rw [pairs_len] at this
      exact this
    rw [pairs_get hi] at hp
    obtain rfl := Option.some.inj hp
    walk_at "go"
    have lr : (runs (falls n) (cs.take i)).length = n := by rw [runs_len (fit_take h i), falls_len]
    have lr2 : (runs (falls n) (cs.take (i + 1))).length = n := by rw [runs_len (fit_take h (i + 1)), falls_len]
    rw [rangeD_map, List.map_map]
    refine compK_pure (List.range n) (fun j => .int (0 + (j : Nat) * 1)) (fun j => decide ((runs (falls n) (cs.take i))[j]? ≠ (runs (falls n) (cs.take (i + 1)))[j]?)) (fun j => .int (j : Int)) (fun e => ∃ x y, e = [.v (.int n), .v (lc cs), .m (.ol ((((acts (falls n) cs).filter fun j => decide (j < i)).map fun i => en (runs (falls n) (cs.take i)) (runs (falls n) (cs.take (i + 1)))).map ct)), .v (li (runs (falls n) (cs.take i))), .v (li (runs (falls n) (cs.take (i + 1)))), x, y] ∧ (∀ c, x ≠ .m c) ∧ ∀ c, y ≠ .m c) ⟨_, _, rfl, by simp, by simp⟩ (by rw [List.length_range]; exact le_line' (by omega)) ?_ ?_
    · rintro j hj e ⟨x, y, rfl, hx, _⟩ A B hA hB
      have hj := List.mem_range.mp hj
      have g1 : (runs (falls n) (cs.take i))[j]? = some (runs (falls n) (cs.take i))[j] := List.getElem?_eq_getElem (by omega)
      have g2 : (runs (falls n) (cs.take (i + 1)))[j]? = some (runs (falls n) (cs.take (i + 1)))[j] := List.getElem?_eq_getElem (by omega)
      rw [g1, g2] at hA hB
      have zi : (0 : Int) + (j : Int) * 1 = j := by omega
      rw [zi]
      walk_at "go"
      refine ⟨_, by rw [atI_map, atI_nat (by omega) (by omega), Int.toNat_natCast, g1]; rfl, ?_⟩
      walk_at "go"
      refine ⟨_, by rw [atI_map, atI_nat (by omega) (by omega), Int.toNat_natCast, g2]; rfl, ?_⟩
      walk_at "go"
      rw [eqv_int]
      refine sel_by (fun q => ?_) (fun q => ?_)
      · walk_at "go"
        exact hB (by simpa using q) _ ⟨_, _, rfl, hx, by simp⟩ rfl
      · exact hA (by simpa using q) _ ⟨_, _, rfl, hx, by simp⟩ rfl
    · rintro e ⟨x, y, rfl, _⟩
      have ed : (List.range n).filter (fun j => decide ((runs (falls n) (cs.take i))[j]? ≠ (runs (falls n) (cs.take (i + 1)))[j]?)) = dif (runs (falls n) (cs.take i)) (runs (falls n) (cs.take (i + 1))) := by
        unfold dif
        rw [lr]
      rw [ed]
      have em : (dif (runs (falls n) (cs.take i)) (runs (falls n) (cs.take (i + 1)))).map (fun j : Nat => PyData.int (j : Int)) = ((dif (runs (falls n) (cs.take i)) (runs (falls n) (cs.take (i + 1)))).map fun j : Nat => (j : Int)).map .int := by
        rw [List.map_map]
        rfl
      rw [em]
      have ea : (acts (falls n) cs).filter (fun j => decide (j < i + 1)) = (acts (falls n) cs).filter (fun j => decide (j < i)) ++ if runs (falls n) (cs.take i) = runs (falls n) (cs.take (i + 1)) then [] else [i] := acts_next hi
      walk_at "go"
      rw [eqv_li_nil]
      refine sel_by (fun q => ?_) (fun q => ?_)
      · have ne : runs (falls n) (cs.take i) ≠ runs (falls n) (cs.take (i + 1)) := fun z => by
          rw [z, (dif_nil rfl).mpr rfl] at q
          cases q
        obtain ⟨a, b, e⟩ := en_of lr lr2 ne
        obtain ⟨r1, h1⟩ := e.ex
        obtain ⟨r2, h2⟩ := e.el
        walk_at "go"
        refine ⟨.int a, by rw [h1]; exact atI_nat (Int.le_refl 0) (by simp), ?_⟩
        walk_at "go"
        refine ⟨.int b, by rw [h2, List.map_append, List.map_append]; exact atI_last, ?_⟩
        walk_at "go"
        refine ⟨?_, hG _ ?_⟩
        · rw [List.length_map, List.length_map]
          have := List.length_filter_le (fun j => decide (j < i)) (acts (falls n) cs)
          have := acts_len (falls n) cs
          exact lt_line (by omega)
        rw [if_neg ne] at ea
        rw [ea, List.map_append, List.map_append]
        rw [show List.map ct (List.map (fun i => en (runs (falls n) (cs.take i)) (runs (falls n) (cs.take (i + 1)))) [i]) = [ct (en (runs (falls n) (cs.take i)) (runs (falls n) (cs.take (i + 1))))] from rfl, e.eq]
        rfl
      · have ne : runs (falls n) (cs.take i) = runs (falls n) (cs.take (i + 1)) := Classical.byContradiction fun z => by
          obtain ⟨a, b, e⟩ := en_of lr lr2 z
          obtain ⟨r1, h1⟩ := e.ex
          rw [h1] at q
          cases q
        refine hG _ ?_
        rw [if_pos ne, List.append_nil] at ea
        rw [ea]
        rfl
  · rintro e rfl
    rw [List.length_map, pairs_len, show (acts (falls n) cs).filter (fun j => decide (j < cs.length)) = acts (falls n) cs from List.filter_eq_self.mpr fun j hj => decide_eq_true (List.mem_range.mp (List.mem_filter.mp hj).1)]
    walk_at "go"
    exact k


/-- pairs that descend -/
def invs : List Int → Nat
  | [] => 0
  | x :: l => l.countP (fun y => decide (y < x)) + invs l
theorem invs_swap {x y : Int} (h : y < x) : ∀ (P S : List Int), invs (P ++ x :: y :: S) = invs (P ++ y :: x :: S) + 1
  | [], S => by
    show (y :: S).countP (fun z => decide (z < x)) + (S.countP (fun z => decide (z < y)) + invs S) = (x :: S).countP (fun z => decide (z < y)) + (S.countP (fun z => decide (z < x)) + invs S) + 1
    rw [List.countP_cons, List.countP_cons, if_pos (decide_eq_true h), if_neg (by simp; omega)]
    omega
  | p :: P, S => by
    show (P ++ x :: y :: S).countP (fun z => decide (z < p)) + invs (P ++ x :: y :: S) = (P ++ y :: x :: S).countP (fun z => decide (z < p)) + invs (P ++ y :: x :: S) + 1
    have hp : (P ++ x :: y :: S).Perm (P ++ y :: x :: S) := List.Perm.append_left P (List.Perm.swap _ _ _)
    rw [invs_swap h P S, hp.countP_eq]
    omega
/-- two neighbours exchanged -/
def swp (l : List Int) (a : Nat) : List Int := l.take a ++ l.getD (a + 1) 0 :: l.getD a 0 :: l.drop (a + 2)
theorem swp_parts {l : List Int} {a : Nat} (h : a + 1 < l.length) : l = l.take a ++ l[a] :: l[a + 1] :: l.drop (a + 2) := by
  have h1 : l.drop a = l[a] :: l[a + 1] :: l.drop (a + 2) := by
    rw [List.drop_eq_getElem_cons (by omega), List.drop_eq_getElem_cons h]
  have h2 := List.take_append_drop a l
  rw [h1] at h2
  exact h2.symm
theorem swp_eq {l : List Int} {a : Nat} (h : a + 1 < l.length) : swp l a = l.take a ++ l[a + 1] :: l[a] :: l.drop (a + 2) := by
  unfold swp
  rw [List.getD_eq_getElem?_getD, List.getD_eq_getElem?_getD, List.getElem?_eq_getElem h, List.getElem?_eq_getElem (show a < l.length by omega)]
  rfl
theorem swp_perm {l : List Int} {a : Nat} (h : a + 1 < l.length) : (swp l a).Perm l := by
  rw [swp_eq h]
  refine List.Perm.trans ?_ (List.Perm.of_eq (swp_parts h).symm)
  exact List.Perm.append_left _ (List.Perm.swap _ _ _)
theorem swp_len {l : List Int} {a : Nat} (h : a + 1 < l.length) : (swp l a).length = l.length := (swp_perm h).length_eq
theorem swp_get {l : List Int} {a : Nat} (h : a + 1 < l.length) (j : Nat) : (swp l a)[j]? = if j = a then some l[a + 1] else if j = a + 1 then some l[a] else l[j]? := by
  have la : (l.take a).length = a := by rw [List.length_take]; omega
  rw [swp_eq h]
  by_cases j1 : j < a
  · rw [if_neg (by omega), if_neg (by omega), List.getElem?_append_left (by omega), List.getElem?_take_of_lt j1]
  · rw [List.getElem?_append_right (by omega), la]
    by_cases j2 : j = a
    · subst j2
      rw [if_pos rfl, Nat.sub_self]
      rfl
    · rw [if_neg j2]
      by_cases j3 : j = a + 1
      · subst j3
        rw [if_pos rfl, show a + 1 - a = 1 by omega]
        rfl
      · rw [if_neg j3]
        obtain ⟨k, rfl⟩ : ∃ k, j = a + 2 + k := ⟨j - a - 2, by omega⟩
        rw [show a + 2 + k - a = k + 2 by omega, List.getElem?_cons_succ, List.getElem?_cons_succ, List.getElem?_drop]
theorem set_swp {l : List Int} {a : Nat} (h : a + 1 < l.length) : (l.set a l[a + 1]).set (a + 1) l[a] = swp l a := by
  refine List.ext_getElem? fun j => ?_
  rw [swp_get h]
  by_cases j2 : j = a
  · subst j2
    rw [if_pos rfl, List.getElem?_set_ne (by omega), List.getElem?_set_self (by omega)]
  · rw [if_neg j2]
    by_cases j3 : j = a + 1
    · subst j3
      rw [if_pos rfl, List.getElem?_set_self (by rw [List.length_set]; omega)]
    · rw [if_neg j3, List.getElem?_set_ne (by omega), List.getElem?_set_ne (by omega)]
theorem invs_down {l : List Int} {a : Nat} (h : a + 1 < l.length) (d : l[a + 1] < l[a]) : invs l = invs (swp l a) + 1 := by
  rw [swp_eq h]
  conv => lhs; rw [swp_parts h]
  exact invs_swap d _ _
theorem invs_up {l : List Int} {a : Nat} (h : a + 1 < l.length) (d : l[a] < l[a + 1]) : invs (swp l a) = invs l + 1 := by
  rw [swp_eq h]
  conv => rhs; rw [swp_parts h]
  exact invs_swap d _ _
theorem swp_swp {l : List Int} {a : Nat} (h : a + 1 < l.length) : swp (swp l a) a = l := by
  have h2 : a + 1 < (swp l a).length := by rw [swp_len h]; exact h
  refine List.ext_getElem? fun j => ?_
  have g1 := swp_get h (a + 1)
  have g0 := swp_get h a
  rw [if_pos rfl] at g0
  rw [if_neg (by omega), if_pos rfl] at g1
  rw [List.getElem?_eq_getElem h2] at g1
  rw [List.getElem?_eq_getElem (show a < (swp l a).length by omega)] at g0
  rw [swp_get h2, Option.some.inj g1, Option.some.inj g0, swp_get h]
  by_cases j2 : j = a
  · subst j2
    rw [if_pos rfl, List.getElem?_eq_getElem (by omega)]
  · rw [if_neg j2, if_neg j2]
    by_cases j3 : j = a + 1
    · subst j3
      rw [if_pos rfl, List.getElem?_eq_getElem (by omega)]
    · rw [if_neg j3, if_neg j3]
/-- the command of two neighbours -/
def nb (a : Nat) : Int × Int := ((a : Int) + 1, (a : Int) + 2)
theorem nb_fit {n a : Nat} (h : a + 1 < n) : Fit n (nb a) := ⟨by show (1 : Int) ≤ (a : Int) + 1; omega, by show (a : Int) + 1 ≤ (a : Int) + 2; omega, by show (a : Int) + 2 ≤ n; omega⟩
theorem stretch_nb {l : List Int} {a : Nat} (h : a + 1 < l.length) : stretch l (nb a) = l.take a ++ PL.sortI [l[a], l[a + 1]] ++ l.drop (a + 2) := by
  have e1 : ((nb a).1 - 1).toNat = a := by show ((a : Int) + 1 - 1).toNat = a; omega
  have e2 : (nb a).2.toNat = a + 2 := by show ((a : Int) + 2).toNat = a + 2; omega
  unfold stretch
  rw [e1, e2]
  congr 3
  rw [List.drop_take, show a + 2 - a = 2 by omega, List.drop_eq_getElem_cons (show a < l.length by omega), List.drop_eq_getElem_cons h]
  rfl
theorem stretch_nb_up {l : List Int} {a : Nat} (h : a + 1 < l.length) (d : l[a] ≤ l[a + 1]) : stretch l (nb a) = l := by
  rw [stretch_nb h]
  show l.take a ++ PL.insI l[a] (PL.insI l[a + 1] []) ++ l.drop (a + 2) = l
  rw [show PL.insI l[a + 1] [] = [l[a + 1]] from rfl]
  show l.take a ++ (if l[a] ≤ l[a + 1] then _ else _) ++ l.drop (a + 2) = l
  rw [if_pos d, List.append_assoc]
  exact (swp_parts h).symm
theorem stretch_nb_down {l : List Int} {a : Nat} (h : a + 1 < l.length) (d : l[a + 1] < l[a]) : stretch l (nb a) = swp l a := by
  rw [stretch_nb h, swp_eq h]
  show l.take a ++ PL.insI l[a] (PL.insI l[a + 1] []) ++ l.drop (a + 2) = _
  rw [show PL.insI l[a + 1] [] = [l[a + 1]] from rfl]
  show l.take a ++ (if l[a] ≤ l[a + 1] then _ else _) ++ l.drop (a + 2) = _
  rw [if_neg (by omega), List.append_assoc]
  rfl
theorem lift_nb {l : List Int} {a : Nat} (h : a + 1 < l.length) : lift1 l (nb a) = l.take a ++ (PL.sortI [l[a], l[a + 1]]).reverse ++ l.drop (a + 2) := by
  have e1 : ((nb a).1 - 1).toNat = a := by show ((a : Int) + 1 - 1).toNat = a; omega
  have e2 : (nb a).2.toNat = a + 2 := by show ((a : Int) + 2).toNat = a + 2; omega
  unfold lift1
  rw [e1, e2]
  congr 4
  rw [List.drop_take, show a + 2 - a = 2 by omega, List.drop_eq_getElem_cons (show a < l.length by omega), List.drop_eq_getElem_cons h]
  rfl
/-- one exchange changes the pairs by one at most -/
theorem invs_stretch {l : List Int} {a : Nat} (h : a + 1 < l.length) : invs l ≤ invs (stretch l (nb a)) + 1 := by
  by_cases d : l[a] ≤ l[a + 1]
  · rw [stretch_nb_up h d]; omega
  · rw [stretch_nb_down h (by omega), invs_down h (by omega)]
    exact Nat.le_refl _
theorem invs_lift {l : List Int} {a : Nat} (h : a + 1 < l.length) : invs (lift1 l (nb a)) ≤ invs l + 1 := by
  rw [lift_nb h]
  have e : PL.sortI [l[a], l[a + 1]] = if l[a] ≤ l[a + 1] then [l[a], l[a + 1]] else [l[a + 1], l[a]] := rfl
  rw [e]
  by_cases d : l[a] ≤ l[a + 1]
  · rw [if_pos d]
    show invs (l.take a ++ [l[a + 1], l[a]] ++ l.drop (a + 2)) ≤ _
    rw [List.append_assoc]
    show invs (l.take a ++ l[a + 1] :: l[a] :: l.drop (a + 2)) ≤ _
    rw [← swp_eq h]
    by_cases q : l[a] = l[a + 1]
    · have : swp l a = l := by
        rw [swp_eq h]
        conv => rhs; rw [swp_parts h]
        rw [q]
      rw [this]; omega
    · rw [invs_up h (by omega)]
      exact Nat.le_refl _
  · rw [if_neg d]
    show invs (l.take a ++ [l[a], l[a + 1]] ++ l.drop (a + 2)) ≤ _
    rw [List.append_assoc]
    show invs (l.take a ++ l[a] :: l[a + 1] :: l.drop (a + 2)) ≤ _
    rw [← swp_parts h]
    omega
/-- scripts of exchanges -/
def Nbs (n : Nat) (cs : List (Int × Int)) : Prop := ∀ c ∈ cs, ∃ a, a + 1 < n ∧ c = nb a
theorem Nbs.fit {n : Nat} {cs : List (Int × Int)} (h : Nbs n cs) : ∀ c ∈ cs, Fit n c := fun c hc => by
  obtain ⟨a, ha, rfl⟩ := h c hc
  exact nb_fit ha
theorem Nbs.nil {n : Nat} : Nbs n [] := fun c hc => by cases hc
theorem Nbs.app {n : Nat} {a b : List (Int × Int)} (h : Nbs n a) (k : Nbs n b) : Nbs n (a ++ b) := fun c hc => (List.mem_append.mp hc).elim (h c) (k c)
theorem Nbs.one {n a : Nat} (h : a + 1 < n) : Nbs n [nb a] := fun c hc => ⟨a, h, List.mem_singleton.mp hc⟩
theorem Nbs.rev {n : Nat} {cs : List (Int × Int)} (h : Nbs n cs) : Nbs n cs.reverse := fun c hc => h c (List.mem_reverse.mp hc)
theorem invs_runs {n : Nat} : ∀ {cs : List (Int × Int)} {l : List Int}, Nbs n cs → l.length = n → invs l ≤ invs (runs l cs) + cs.length
  | [], _, _, _ => Nat.le_refl _
  | c :: cs, l, h, hl => by
    obtain ⟨a, ha, rfl⟩ := h c List.mem_cons_self
    have h1 := invs_stretch (l := l) (a := a) (by omega)
    have hf := nb_fit ha
    have h2 := invs_runs (cs := cs) (l := stretch l (nb a)) (fun x hx => h x (List.mem_cons_of_mem _ hx)) (by rw [stretch_len ⟨hf.1, hf.2.1⟩]; exact hl)
    rw [runs_cons, List.length_cons]
    omega
theorem invs_lifts {n : Nat} : ∀ {cs : List (Int × Int)} {l : List Int}, Nbs n cs → l.length = n → invs (lifts l cs) ≤ invs l + cs.length
  | [], _, _, _ => Nat.le_refl _
  | c :: cs, l, h, hl => by
    obtain ⟨a, ha, rfl⟩ := h c List.mem_cons_self
    have h' : Nbs n cs := fun x hx => h x (List.mem_cons_of_mem _ hx)
    have h1 := invs_lift (l := lifts l cs) (a := a) (by rw [lifts_len h'.fit]; omega)
    have h2 := invs_lifts (cs := cs) (l := l) h' hl
    rw [lifts_cons, List.length_cons]
    omega
theorem invs_sorted : ∀ {l : List Int}, l.Pairwise (· ≤ ·) → invs l = 0
  | [], _ => rfl
  | x :: l, h => by
    obtain ⟨h1, h2⟩ := List.pairwise_cons.mp h
    show l.countP _ + invs l = 0
    rw [invs_sorted h2, List.countP_eq_zero.mpr fun y hy => by have := h1 y hy; simp; omega]
theorem invs_falling : ∀ {l : List Int}, l.Pairwise (fun a b => b < a) → 2 * invs l = l.length * (l.length - 1)
  | [], _ => rfl
  | x :: l, h => by
    obtain ⟨h1, h2⟩ := List.pairwise_cons.mp h
    have ih := invs_falling h2
    show 2 * (l.countP _ + invs l) = _
    rw [List.countP_eq_length.mpr fun y hy => decide_eq_true (h1 y hy), Nat.mul_add, ih, List.length_cons, Nat.add_sub_cancel]
    cases hL : l.length with
    | zero => rfl
    | succ m => rw [Nat.add_sub_cancel]; simp only [Nat.add_mul, Nat.mul_add, Nat.one_mul, Nat.mul_one]; omega
theorem falls_strict (n : Nat) : (falls n).Pairwise (fun a b => b < a) := by
  unfold falls
  rw [List.pairwise_reverse]
  unfold deck
  rw [List.pairwise_map]
  exact List.Pairwise.imp (fun h => by omega) List.pairwise_lt_range
theorem invs_falls (n : Nat) : 2 * invs (falls n) = n * (n - 1) := by
  have := invs_falling (falls_strict n)
  rwa [falls_len] at this


/-- from place L on each one stands right to all before -/
def Tl (R : Int → Int → Prop) (L : Nat) (row : List Int) : Prop := ∀ (a b : Nat) x y, a < b → L ≤ b → row[a]? = some x → row[b]? = some y → R x y
/-- the one at p stands right to all before -/
def Hd (R : Int → Int → Prop) (p : Nat) (row : List Int) : Prop := ∀ (a : Nat) x y, a < p → row[a]? = some x → row[p]? = some y → R x y
theorem Hd.stay {R : Int → Int → Prop} (tr : ∀ a b c, R a b → R b c → R a c) {p : Nat} {row : List Int} (h : Hd R p row) (hp : p + 1 < row.length) (r : R row[p] row[p + 1]) : Hd R (p + 1) row := by
  intro a x y ha hx hy
  rw [List.getElem?_eq_getElem hp] at hy
  cases hy
  by_cases e : a = p
  · subst e
    rw [List.getElem?_eq_getElem (by omega)] at hx
    cases hx
    exact r
  · exact tr _ _ _ (h a x row[p] (by omega) hx (List.getElem?_eq_getElem (by omega))) r
theorem Hd.swap {R : Int → Int → Prop} {p : Nat} {row : List Int} (h : Hd R p row) (hp : p + 1 < row.length) (r : R row[p + 1] row[p]) : Hd R (p + 1) (swp row p) := by
  intro a x y ha hx hy
  rw [swp_get hp] at hx hy
  rw [if_neg (by omega), if_pos rfl] at hy
  cases hy
  by_cases e : a = p
  · rw [if_pos e] at hx
    cases hx
    exact r
  · rw [if_neg e, if_neg (by omega)] at hx
    exact h a x row[p] (by omega) hx (List.getElem?_eq_getElem (by omega))
theorem Tl.swap {R : Int → Int → Prop} {p L : Nat} {row : List Int} (h : Tl R L row) (hp : p + 1 < row.length) (hL : p + 1 < L) : Tl R L (swp row p) := by
  intro a b x y hab hb hx hy
  rw [swp_get hp] at hx hy
  rw [if_neg (by omega), if_neg (by omega)] at hy
  by_cases e : a = p
  · rw [if_pos e] at hx
    exact h (p + 1) b x y (by omega) hb (by rw [List.getElem?_eq_getElem hp]; exact hx) hy
  · rw [if_neg e] at hx
    by_cases e2 : a = p + 1
    · rw [if_pos e2] at hx
      exact h p b x y (by omega) hb (by rw [List.getElem?_eq_getElem (by omega)]; exact hx) hy
    · rw [if_neg e2] at hx
      exact h a b x y hab hb hx hy
theorem Tl.more {R : Int → Int → Prop} {L : Nat} {row : List Int} (h : Tl R (L + 1) row) (k : Hd R L row) : Tl R L row := by
  intro a b x y hab hb hx hy
  by_cases e : b = L
  · subst e
    exact k a x y hab hx hy
  · exact h a b x y hab (by omega) hx hy
theorem Tl.all {R : Int → Int → Prop} {row : List Int} (h : Tl R 1 row) : row.Pairwise R := by
  rw [List.pairwise_iff_getElem]
  intro i j hi hj hij
  exact h i j _ _ hij (by omega) (List.getElem?_eq_getElem hi) (List.getElem?_eq_getElem hj)
theorem Tl.none {R : Int → Int → Prop} {row : List Int} {L : Nat} (h : row.length ≤ L) : Tl R L row := by
  intro a b x y _ hb _ hy
  rw [List.getElem?_eq_none (by omega)] at hy
  cases hy
theorem Hd.zero {R : Int → Int → Prop} {row : List Int} : Hd R 0 row := fun a _ _ h => absurd h (Nat.not_lt_zero a)
theorem invs_bound : ∀ l : List Int, invs l ≤ l.length * l.length
  | [] => Nat.le_refl _
  | x :: l => by
    have ih := invs_bound l
    show l.countP _ + invs l ≤ (l.length + 1) * (l.length + 1)
    have h1 : l.countP (fun y => decide (y < x)) ≤ l.length := List.countP_le_length
    have h2 : (l.length + 1) * (l.length + 1) = l.length * l.length + l.length + l.length + 1 := by
      rw [Nat.add_mul, Nat.mul_add, Nat.one_mul, Nat.mul_one]; omega
    omega
theorem invs_bound2 : ∀ l : List Int, 2 * invs l ≤ l.length * (l.length - 1)
  | [] => Nat.le_refl _
  | x :: l => by
    have ih := invs_bound2 l
    show 2 * (l.countP _ + invs l) ≤ (l.length + 1) * (l.length + 1 - 1)
    have h1 : l.countP (fun y => decide (y < x)) ≤ l.length := List.countP_le_length
    rw [Nat.add_sub_cancel]
    cases hL : l.length with
    | zero => rw [hL] at ih h1; omega
    | succ m =>
      rw [hL] at ih h1
      rw [Nat.add_sub_cancel] at ih
      have e1 : (m + 1) * m = m * m + m := by rw [Nat.add_mul, Nat.one_mul]
      have e2 : (m + 1 + 1) * (m + 1) = m * m + m + m + m + 1 + 1 := by simp only [Nat.add_mul, Nat.mul_add, Nat.one_mul, Nat.mul_one]; omega
      omega
/-- exchanges found while a row is put in order -/
structure Bub (n : Nat) (E row : List Int) (found : List (Int × Int)) : Prop where
  len : row.length = n
  nbs : Nbs n found
  run : runs E found = row
  cnt : invs row + found.length = invs E
  prm : row.Perm E
theorem Bub.step {n p : Nat} {E row : List Int} {found : List (Int × Int)} (h : Bub n E row found) (hp : p + 1 < n) (d : row[p + 1]'(by rw [h.len]; exact hp) < row[p]'(by rw [h.len]; omega)) : Bub n E (swp row p) (found ++ [nb p]) := by
  have hl : p + 1 < row.length := by rw [h.len]; exact hp
  refine ⟨by rw [swp_len hl, h.len], h.nbs.app (.one hp), ?_, ?_, (swp_perm hl).trans h.prm⟩
  · rw [runs_app, h.run, runs_one, stretch_nb_down hl d]
  · have := invs_down hl d
    have := h.cnt
    rw [List.length_append, List.length_singleton]
    omega
/-- exchanges found backward, while a row is put in falling order -/
structure Bup (n : Nat) (wanted row : List Int) (found : List (Int × Int)) : Prop where
  len : row.length = n
  nbs : Nbs n found
  run : runs row found.reverse = wanted
  cnt : invs row = invs wanted + found.length
  prm : row.Perm wanted
theorem Bup.step {n p : Nat} {wanted row : List Int} {found : List (Int × Int)} (h : Bup n wanted row found) (hp : p + 1 < n) (d : row[p]'(by rw [h.len]; omega) < row[p + 1]'(by rw [h.len]; exact hp)) : Bup n wanted (swp row p) (found ++ [nb p]) := by
  have hl : p + 1 < row.length := by rw [h.len]; exact hp
  have hl2 : p + 1 < (swp row p).length := by rw [swp_len hl]; exact hl
  have g0 := swp_get hl p
  have g1 := swp_get hl (p + 1)
  rw [if_pos rfl, List.getElem?_eq_getElem (by omega)] at g0
  rw [if_neg (by omega), if_pos rfl, List.getElem?_eq_getElem hl2] at g1
  refine ⟨by rw [swp_len hl, h.len], h.nbs.app (.one hp), ?_, ?_, (swp_perm hl).trans h.prm⟩
  · rw [List.reverse_append, List.reverse_singleton]
    show runs (stretch (swp row p) (nb p)) found.reverse = wanted
    rw [stretch_nb_down hl2 (by rw [Option.some.inj g0, Option.some.inj g1]; exact d), swp_swp hl, h.run]
  · have := invs_up hl d
    have := h.cnt
    rw [List.length_append, List.length_singleton]
    omega
theorem invs_sum {row : List Int} : ∀ (l : List Int) (k : Nat), row.drop k = l → ((l.zipIdx k).map fun p => (row.drop (p.2 + 1)).countP fun y => decide (y < p.1)).sum = invs l
  | [], _, _ => rfl
  | x :: l, k, h => by
    have h2 : row.drop (k + 1) = l := by rw [← List.drop_drop, h]; rfl
    rw [List.zipIdx_cons, List.map_cons, List.sum_cons, invs_sum l (k + 1) h2]
    show (row.drop (k + 1)).countP _ + _ = _
    rw [h2]
    rfl
theorem sorted_deck {n : Nat} {row : List Int} (h : Arr n row) (s : row.Pairwise (· ≤ ·)) : row = deck n := by
  rw [PL.sortI_eq h s]
  exact (PL.sortI_eq (List.Perm.refl _) (deck_sorted n)).symm
theorem falling_falls {n : Nat} {row : List Int} (h : Arr n row) (s : row.Pairwise (· ≥ ·)) : row = falls n := by
  rw [PL.sortI_rev (h.trans (falls_perm n).symm) s, ← PL.sortI_rev (List.Perm.refl (falls n)) (falls_sorted n)]


theorem half {n : Nat} : ((n : Int) * ((n : Int) - 1)) / 2 = (invs (falls n) : Nat) := by
  have h := invs_falls n
  cases n with
  | zero => rw [Nat.zero_mul] at h; rw [show invs (falls 0) = 0 by omega]; decide
  | succ m =>
    rw [Nat.add_sub_cancel] at h
    have e : (((m + 1 : Nat) : Int) * (((m + 1 : Nat) : Int) - 1)) = ((2 * invs (falls (m + 1)) : Nat) : Int) := by
      rw [h, show (((m + 1 : Nat) : Int) - 1) = (m : Int) by omega]
      exact (Int.natCast_mul _ _).symm
    rw [e]
    omega
theorem sqr {n : Nat} (h : n ≤ 300) : n * n ≤ 90000 := Nat.le_trans (Nat.mul_le_mul h h) (by decide)
theorem exchanges_in_ok {n : Nat} {p : List Int} {Q : Sl → List Sl → Prop} (h0 : 1 ≤ n) (hn : n ≤ 300) (hp : Arr n p)
    (k : ∀ ds : List (Int × Int), Nbs n ds → runs (falls n) ds = p → invs p + ds.length = invs (falls n) → Q (.m (.ol (ds.map ct))) [.v (li p)]) : sp_exchanges_in [.v (li p)] Q := by
  have hl0 := hp.len
  have eb := invs_bound (falls n)
  rw [falls_len] at eb
  have sq := sqr hn
  unfold sp_exchanges_in
  walk_at "go"
  rw [List.length_map, hl0, show (n : Int) - 1 - 0 = ((n - 1 : Nat) : Int) by omega]
  walk_at "go"
  refine forL_inv (fun i env => ∃ (row : List Int) (found : List (Int × Int)), env = [.un, .m (.ol (row.map .int)), .m (.ol (found.map ct)), .un, .un] ∧ Bup n p row found ∧ Tl (· ≥ ·) (n - i) row) ⟨p, [], rfl, ⟨hl0, .nil, rfl, rfl, List.Perm.refl _⟩, .none (by omega)⟩ ?_ ?_
  · rintro i d e G hd ⟨row, found, rfl, hb, ht⟩ hG
    obtain ⟨hi, rfl⟩ := rangeD_at hd
    obtain ⟨L, hL⟩ : ∃ L : Nat, n - i = L + 1 := ⟨n - i - 1, by omega⟩
    rw [hL] at ht
    rw [show (n : Int) - 1 + (i : Nat) * (-1) = (L : Int) by omega]
    walk_at "go"
    refine forL_inv (fun q env => ∃ (row : List Int) (found : List (Int × Int)), env = [.un, .m (.ol (row.map .int)), .m (.ol (found.map ct)), .v (.int L), .un] ∧ Bup n p row found ∧ Tl (· ≥ ·) (L + 1) row ∧ Hd (· ≥ ·) q row) ⟨row, found, rfl, hb, ht, .zero⟩ ?_ ?_
    · clear hb ht
      rintro q d e G2 hd2 ⟨row, found, rfl, hb, ht, hh⟩ hG2
      obtain ⟨hq, rfl⟩ := rangeD_at hd2
      rw [show (0 : Int) + (q : Nat) * 1 = (q : Int) by omega]
      have hl := hb.len
      have hp1 : q + 1 < row.length := by omega
      have hp0 : q < row.length := by omega
      have fl : found.length ≤ 90000 := by
        have h1 := hb.cnt
        have h2 := invs_bound row
        rw [hl] at h2
        omega
      walk_at "go"
      refine ⟨_, atI_at (n := q) (by omega) (List.getElem?_eq_getElem hp0), ?_⟩
      walk_at "go"
      refine ⟨_, atI_at (n := q + 1) (by omega) (List.getElem?_eq_getElem hp1), ?_⟩
      walk_at "go"
      refine sel_by (fun c => ?_) (fun c => ?_)
      · have c := of_decide_eq_true c
        walk_at "go"
        refine ⟨_, atI_at (n := q + 1) (by omega) (List.getElem?_eq_getElem hp1), ?_⟩
        walk_at "go"
        refine ⟨_, atI_at (n := q) (by omega) (List.getElem?_eq_getElem hp0), ?_⟩
        walk_at "go"
        refine ⟨_, setM_at (n := q) (by omega) hp0, ?_⟩
        walk_at "go"
        refine ⟨_, setM_at (n := q + 1) (by omega) (by rw [List.length_set]; exact hp1), ?_⟩
        rw [set_swp hp1]
        walk_at "go"
        have ef : found.map ct ++ [.tuple [.int ((q : Int) + 1), .int ((q : Int) + 2)]] = (found ++ [nb q]).map ct := by rw [List.map_append]; rfl
        rw [ef]
        exact hG2 _ ⟨_, _, rfl, hb.step (by omega) c, ht.swap hp1 (by omega), hh.swap hp1 (Int.le_of_lt c)⟩
      · walk_at "go"
        exact hG2 _ ⟨_, _, rfl, hb, ht, hh.stay (R := fun a b => a ≥ b) (fun _ _ _ h1 h2 => Int.le_trans h2 h1) hp1 (by have := of_decide_eq_false c; show _ ≤ _; omega)⟩
    · rintro e ⟨row, found, rfl, hb, ht, hh⟩
      rw [rangeD_len] at hh
      walk_at "go"
      refine hG _ ⟨_, _, rfl, hb, ?_⟩
      rw [show n - (i + 1) = L by omega]
      exact ht.more hh
  · rintro e ⟨row, found, rfl, hb, ht⟩
    rw [rangeD_len] at ht
    walk_at "go"
    have hs : row.Pairwise (· ≥ ·) := by
      by_cases h1 : n = 1
      · have hl := hb.len
        rw [h1] at hl
        exact (Tl.none (L := 1) (by omega)).all
      · have e1 : n - (((n - 1 : Nat) : Int)).toNat = 1 := by omega
        rw [e1] at ht
        exact ht.all
    have hd := falling_falls (hb.prm.trans hp) hs
    rw [← List.map_reverse]
    refine k found.reverse hb.nbs.rev (by rw [← hd]; exact hb.run) ?_
    have := hb.cnt
    rw [List.length_reverse, ← hd]
    omega
theorem exchanges_ok {n : Nat} {p : List Int} {Q : Sl → List Sl → Prop} (h0 : 1 ≤ n) (hn : n ≤ 300) (hp : Arr n p)
    (k : ∀ ds : List (Int × Int), Nbs n ds → runs (falls n) ds = p → invs p + ds.length = invs (falls n) → Q (.m (.ol (ds.map ct))) [.v (li p)]) : sp_exchanges [.v (li p)] Q := by
  unfold sp_exchanges
  walk_at "go"
  refine check_ok hp (by omega) ?_
  walk_at "st"
  refine exchanges_in_ok h0 hn hp fun ds h1 h2 h3 => ?_
  walk_at "st"
  exact k ds h1 h2 h3

theorem ctext_ok {c : Int × Int} {Q : Sl → List Sl → Prop} (h : Big c) (k : Q (.v (.str (SX.S (tcL c)))) [.v (ct c)]) : sp_command_text [.v (ct c)] Q := by
  have h0 := h
  obtain ⟨h1, h2, h3⟩ := h
  have l1 : c.1.natAbs.log2 < 1920 := Nat.lt_trans (log2_lt_of (k := 250) (by omega) (by decide)) (by decide)
  have l2 : c.2.natAbs.log2 < 1920 := Nat.lt_trans (log2_lt_of (k := 250) (by omega) (by decide)) (by decide)
  have s1 := nS (i := c.1) (by omega)
  have s2 := nS (i := c.2) (by omega)
  have n1 := nL_len (i := c.1) (by omega) (by omega)
  have n2 := nL_len (i := c.2) (by omega) h3
  have e45 : PySem.Str.ofString "-" = SX.S [45] := by decide
  unfold sp_command_text
  walk_at "go"
  rw [eqv_int]
  by_cases e : c.1 = c.2
  · refine sel_t (decide_eq_true e) ?_
    walk_at "go"
    rw [s1]
    have z : tcL c = nL c.1 := if_pos e
    rw [z] at k
    exact k
  · refine sel_f (decide_eq_false e) ?_
    walk_at "go"
    rw [s1, e45]
    refine ⟨le_line (by rw [SX.S_len, SX.S_len]; simp; omega), ?_⟩
    walk_at "go"
    rw [s2, SX.S_cat]
    refine ⟨le_line (by rw [SX.S_len, SX.S_len]; simp; omega), ?_⟩
    rw [SX.S_cat]
    walk_at "go"
    have z : tcL c = nL c.1 ++ [45] ++ nL c.2 := by unfold tcL; rw [if_neg e]; simp
    rw [z] at k
    exact k
theorem join_size {cs : List (Int × Int)} (hc : ∀ c ∈ cs, Big c) (hl : cs.length ≤ 60000) : (((rl cs).map fun p => SX.S (wL p)).map (·.length)).sum + ((rl cs).map fun p => SX.S (wL p)).length * (PySem.Str.ofString " ").length ≤ 6000000 := by
  obtain ⟨a1, a2, a3⟩ := rl_len cs
  have e1 : (PySem.Str.ofString " ").length = 1 := by decide
  rw [e1, List.length_map, List.map_map]
  have z : ∀ l : List ((Int × Int) × Nat), (∀ p ∈ l, (wL p).length ≤ 90) → (l.map ((fun x : Str => x.length) ∘ fun p => SX.S (wL p))).sum ≤ 90 * l.length := by
    intro l
    induction l with
    | nil => intro _; exact Nat.le_refl _
    | cons p l ih =>
      intro h
      have i1 := h p List.mem_cons_self
      have i2 := ih fun q hq => h q (List.mem_cons_of_mem _ hq)
      rw [List.map_cons, List.sum_cons, List.length_cons]
      show (SX.S (wL p)).length + _ ≤ _
      rw [SX.S_len]
      omega
  have := z (rl cs) fun p hp => wL_len (hc _ (a3 p hp)) (by have := (a2 p hp).1; omega)
  omega
theorem atI_prev {α : Type} {f : α → PyData} {xs : List α} {i : Nat} {d : α} (h : xs[i - 1]? = some d) (h0 : 0 < i) : atI (xs.map f) ((i : Int) - 1) = some (f d) := atI_at (n := i - 1) (by omega) h
theorem show_ok {cs : List (Int × Int)} {Q : Sl → List Sl → Prop} (hc : ∀ c ∈ cs, Big c) (hl : cs.length ≤ 60000) (k : Q (.v (.str (jn cs))) [.v (lc cs)]) : sp_show_script [.v (lc cs)] Q := by
  unfold sp_show_script
  walk_at "go"
  refine forL_inv (fun i env => env = [.v (lc cs), .m (.ol ((rl (cs.take i)).map wd)), .un, .un, .un, .un]) rfl ?_ ?_
  · rintro i d e G hd rfl hG
    obtain ⟨c, hci, rfl⟩ := enumD_at hd
    have hi := (List.getElem?_eq_some_iff.mp hci).1
    have ht : cs.take (i + 1) = cs.take i ++ [c] := by
      rw [List.take_add_one, hci]
      rfl
    have hb0 : Big c := hc c (List.mem_of_getElem? hci)
    have hlen : ((rl (cs.take i)).map wd).length ≤ 60000 := by
      rw [List.length_map]
      have := (rl_len (cs.take i)).1
      rw [List.length_take] at this
      omega
    have hG' : G [.v (lc cs), .m (.ol ((stp (rl (cs.take i)) c).map wd)), .un, .un, .un, .un] := hG _ (by rw [ht, rl_snoc])
    clear hG ht
    rcases Nat.eq_zero_or_pos i with h0 | h0
    · subst h0
      rw [List.take_zero, rl_nil, stp_nil] at hG'
      rw [List.take_zero, rl_nil]
      walk_at "go"
      refine ctext_ok hb0 ?_
      walk_at "go"
      exact hG'
    · have hp : i - 1 < cs.length := by omega
      have hq : cs[i - 1]? = some cs[i - 1] := List.getElem?_eq_getElem hp
      have htk : cs.take i = cs.take (i - 1) ++ [cs[i - 1]] := by
        conv => lhs; rw [show i = i - 1 + 1 by omega]
        rw [List.take_add_one, hq]
        rfl
      generalize cs[i - 1] = d at hq htk
      obtain ⟨ini, m, hm, hr⟩ := rl_last (cs.take (i - 1)) d
      rw [htk, hr] at hG' hlen ⊢
      rw [List.map_append] at hlen ⊢
      walk_at "go"
      refine ⟨_, atI_prev hq h0, ?_⟩
      walk_at "go"
      rw [eqv_ct]
      have hl2 : ini.length + 1 ≤ 60000 := by
        rw [List.length_append, List.length_map] at hlen
        exact hlen
      by_cases q : d = c
      · subst q
        rw [stp_same] at hG'
        refine sel_t (decide_eq_true rfl) ?_
        walk_at "go"
        refine ⟨wd (d, m), by simp, ?_⟩
        show tgP _ _ _ _
        rw [show (List.map wd ini ++ List.map wd [(d, m)]).dropLast = List.map wd ini from List.dropLast_concat]
        walk_at "go"
        rw [List.map_append] at hG'
        exact hG'
      · rw [stp_diff q] at hG'
        refine sel_f (decide_eq_false fun z => q z.symm) ?_
        walk_at "go"
        refine ctext_ok hb0 ?_
        walk_at "go"
        rw [List.map_append, List.map_append] at hG'
        exact hG'
  · rintro e rfl
    rw [show (enumD 0 (cs.map ct)).length = cs.length by rw [enumD_eq, List.length_map, List.length_zipIdx, List.length_map], List.take_length]
    walk_at "go"
    refine ⟨⟨okd_wd _, rfl⟩, ?_⟩
    walk_at "go"
    rw [eqv_wd_nil]
    by_cases h : rl cs = []
    · refine sel_t (decide_eq_true h) ?_
      walk_at "go"
      rw [show jn cs = PySem.Str.ofString "none" from if_pos (rl_eq_nil h)] at k
      exact k
    · refine sel_f (decide_eq_false h) ?_
      walk_at "go"
      obtain ⟨a1, a2, a3⟩ := rl_len cs
      refine compK_m (rl cs) wd (fun p => .str (SX.S (wL p))) (le_line (by omega)) ?_ ?_
      · intro p hp B hB
        have b1 := hc _ (a3 p hp)
        have b2 := a2 p hp
        have b3 := tcL_len b1
        have b4 : (nL (p.2 : Int)).length ≤ 5 := numL_len5 (by omega)
        have e42 : PySem.Str.ofString "*" = SX.S [42] := by decide
        have lg : (p.2 : Int).natAbs.log2 < 1920 := Nat.lt_trans (log2_lt_of (k := 250) (by omega) (by decide)) (by decide)
        walk_at "go"
        by_cases q : 1 < p.2
        · refine sel_t (decide_eq_true (by omega)) ?_
          walk_at "go"
          rw [nS (by omega), e42]
          refine ⟨le_line (by rw [SX.S_len, SX.S_len]; simp; omega), ?_⟩
          rw [SX.S_cat]
          walk_at "go"
          refine ⟨le_line (by rw [SX.S_len, SX.S_len]; simp; omega), ?_⟩
          rw [SX.S_cat]
          walk_at "go"
          have z : wL p = tcL p.1 ++ ([42] ++ TL.numL (p.2 : Int).toNat) := by unfold wL; rw [if_pos q]; rfl
          rw [← z]
          exact hB _ rfl rfl
        · refine sel_f (decide_eq_false (by omega)) ?_
          walk_at "go"
          refine ⟨le_line (by rw [SX.S_len]; show _ + 0 ≤ _; omega), ?_⟩
          have z : wL p = tcL p.1 ++ [] := by unfold wL; rw [if_neg q]
          have e0 : PySem.Str.ofString "" = SX.S [] := by decide
          rw [e0, SX.S_cat, ← z]
          walk_at "go"
          exact hB _ rfl rfl
      · intro e he
        walk_at "go"
        have js := join_size hc hl
        refine ⟨(rl cs).map fun p => SX.S (wL p), by rw [List.map_map]; rfl, by omega, ?_⟩
        walk_at "go"
        rw [he]
        rw [show jn cs = Txt.join (PySem.Str.ofString " ") ((rl cs).map fun p => SX.S (wL p)) from if_neg fun z => h (by rw [z]; rfl)] at k
        exact k
theorem sz {a b : List Nat} (h : a.length + b.length ≤ 100000) : (SX.S a).length + (SX.S b).length ≤ sizeLine := by
  rw [SX.S_len, SX.S_len]
  exact le_line h


theorem rd_bigI {x : Int} {k B : Nat} (h0 : 0 ≤ x) (h : x < 10000000000000000000000000000000000000000) : PL.RD (.int x) k B := by
  refine ⟨?_, rfl, Nat.zero_le _, ?_, Nat.zero_le _⟩
  · rw [PyData.showable]
    exact decide_eq_true (Nat.lt_trans (log2_lt_of (k := 250) (by omega) (by decide)) (by decide))
  · rw [PyData.leavesShort]
    refine decide_eq_true ?_
    rw [PyData.shown]
    show (PySem.Str.ofString (toString x)).length ≤ 200
    rw [nS h0, SX.S_len]
    exact Nat.le_trans (nL_len h0 h) (by decide)
theorem mem_joinL {x : Nat} : ∀ {l : List (List Nat)}, x ∈ TL.joinL [32] l → x = 32 ∨ ∃ p ∈ l, x ∈ p
  | [], h => by cases h
  | [p], h => .inr ⟨p, List.mem_cons_self, h⟩
  | p :: q :: l, h => by
    have h' : x ∈ p ++ ([32] ++ TL.joinL [32] (q :: l)) := h
    rcases List.mem_append.mp h' with h1 | h1
    · exact .inr ⟨p, List.mem_cons_self, h1⟩
    · rcases List.mem_append.mp h1 with h2 | h1
      · exact .inl (List.mem_singleton.mp h2)
      rcases mem_joinL h1 with h2 | ⟨r, h2, h3⟩
      · exact .inl h2
      · exact .inr ⟨r, List.mem_cons_of_mem _ h2, h3⟩
theorem e32 : PySem.Str.ofString " " = SX.S [32] := by decide
theorem jn_S {cs : List (Int × Int)} (h : cs ≠ []) : jn cs = SX.S (TL.joinL [32] ((rl cs).map wL)) := by
  unfold jn
  rw [if_neg h, e32, ← SX.join_S, List.map_map]
  rfl
theorem jn_codes (cs : List (Int × Int)) : ∀ c ∈ (jn cs).cps.toList, c < 16 ^ 8 := by
  intro x hx
  by_cases h : cs = []
  · rw [show jn cs = PySem.Str.ofString "none" from if_pos h] at hx
    have : ∀ c ∈ (PySem.Str.ofString "none").cps.toList, c < 16 ^ 8 := by decide
    exact this x hx
  · rw [jn_S h] at hx
    have hx' : x ∈ TL.joinL [32] ((rl cs).map wL) := hx
    rcases mem_joinL hx' with h1 | ⟨p, h1, h2⟩
    · omega
    · obtain ⟨q, _, rfl⟩ := List.mem_map.mp h1
      have := wL_codes q x h2
      omega
theorem numL_head {n : Nat} : ∀ c r, 1 ≤ n → TL.numL n = c :: r → c ≠ 48 := by
  induction n using Nat.strongRecOn with
  | _ n ih =>
    intro c r h1 h
    by_cases h2 : n < 10
    · rw [TL.numL_lt h2] at h
      cases h
      omega
    · rw [TL.numL_step (by omega)] at h
      cases e : TL.numL (n / 10) with
      | nil => exact absurd e (TL.numL_ne _)
      | cons c' r' =>
        rw [e] at h
        cases h
        exact ih (n / 10) (by omega) _ _ (by omega) e
theorem eDig : PySem.Str.ofString "0123456789" = SX.S [48, 49, 50, 51, 52, 53, 54, 55, 56, 57] := by decide
theorem number_ok {n : Nat} {Q : Sl → List Sl → Prop} (h1 : 1 ≤ n) (h : (TL.numL n).length ≤ 40) (k : Q (.v (.int n)) [.v (.str (SX.S (TL.numL n)))]) : sp_number_in [.v (.str (SX.S (TL.numL n)))] Q := by
  obtain ⟨c, r, e⟩ : ∃ c r, TL.numL n = c :: r := by
    cases e : TL.numL n with
    | nil => exact absurd e (TL.numL_ne _)
    | cons c r => exact ⟨c, r, rfl⟩
  have hh := numL_head c r h1 e
  have hd := TL.numL_digits n
  have hv : PySem.intText? (SX.S (TL.numL n)) = some (n : Int) := by
    rw [← SX.num_S]
    exact TL.int_num (by omega)
  have hlen : (SX.S (TL.numL n)).length = (TL.numL n).length := SX.S_len _
  have hp : 0 < (TL.numL n).length := by rw [e]; simp
  unfold sp_number_in
  generalize TL.numL n = l at *
  walk_at "go"
  rw [decide_eq_true (show 1 ≤ (((SX.S l).length : Nat) : Int) by omega)]
  walk_at "go"
  rw [decide_eq_true (show (((SX.S l).length : Nat) : Int) ≤ 40 by omega)]
  walk_at "go"
  refine compK_m l (fun c => PyData.str ⟨#[c]⟩) (fun c => .bool (decide (c ∈ (PySem.Str.ofString "0123456789").cps.toList))) (le_line (by omega)) ?_ ?_
  · intro x hx B hB
    walk_at "go"
    exact hB _ rfl rfl
  · intro e2 he2
    walk_at "go"
    rw [blsOf_f]
    have hall : (l.map fun c => decide (c ∈ (PySem.Str.ofString "0123456789").cps.toList)).all id = true := by
      rw [List.all_eq_true]
      intro b hb
      obtain ⟨x, hx, rfl⟩ := List.mem_map.mp hb
      have := hd x hx
      rw [eDig]
      refine decide_eq_true ?_
      show x ∈ [48, 49, 50, 51, 52, 53, 54, 55, 56, 57]
      have z : x = 48 ∨ x = 49 ∨ x = 50 ∨ x = 51 ∨ x = 52 ∨ x = 53 ∨ x = 54 ∨ x = 55 ∨ x = 56 ∨ x = 57 := by omega
      simp only [List.mem_cons, List.not_mem_nil, or_false]
      exact z
    walk_at "go"
    rw [hall, he2]
    walk_at "go"
    by_cases q : 1 < l.length
    · refine sel_t (decide_eq_true (by omega)) ?_
      walk_at "go"
      refine ⟨c, by rw [e]; exact atI_0, ?_⟩
      walk_at "go"
      rw [eqv_str]
      have ne : (⟨#[c]⟩ : Str) ≠ PySem.Str.ofString "0" := by
        intro z
        have e0 : PySem.Str.ofString "0" = SX.S [48] := by decide
        rw [e0] at z
        exact hh (by have := SX.S_inj (a := [c]) (b := [48]) z; exact (List.cons.inj this).1)
      refine sel_f (decide_eq_false ne) ?_
      walk_at "go"
      refine ⟨_, hv, by omega, ?_⟩
      walk_at "go"
      exact k
    · refine sel_f (decide_eq_false (by omega)) ?_
      walk_at "go"
      refine ⟨_, hv, by omega, ?_⟩
      walk_at "go"
      exact k
theorem split_dash (l : List Nat) : Txt.split (SX.S l) (PySem.Str.ofString "-") = (TL.spl [45] 0 [] l).map SX.S := by
  have e45 : PySem.Str.ofString "-" = SX.S [45] := by decide
  rw [e45]
  exact SX.split_S (by simp) (by decide)
theorem split_star (l : List Nat) : Txt.split (SX.S l) (PySem.Str.ofString "*") = (TL.spl [42] 0 [] l).map SX.S := by
  have e42 : PySem.Str.ofString "*" = SX.S [42] := by decide
  rw [e42]
  exact SX.split_S (by simp) (by decide)
theorem split_blank (l : List Nat) : Txt.split (SX.S l) (PySem.Str.ofString " ") = (TL.spl [32] 0 [] l).map SX.S := by
  rw [e32]
  exact SX.split_S (by simp) (by decide)
theorem spl_two {s : Nat} {p q : List Nat} (h : s ∉ p) (h2 : s ∉ q) : TL.spl [s] 0 [] (p ++ s :: q) = [p, q] := by
  have z := TL.spl_part1 (s := s) (S := []) (rest := q) (acc := []) h
  rw [List.nil_append] at z
  rw [show p ++ s :: q = p ++ ([s] ++ q) from rfl, z, TL.spl_last1 h2]
  rfl
theorem spl_one {s : Nat} {p : List Nat} (h : s ∉ p) : TL.spl [s] 0 [] p = [p] := by
  have z := TL.spl_last1 (s := s) (S := []) (acc := []) h
  rw [List.nil_append] at z
  exact z
theorem nat_of {i : Int} (h : 1 ≤ i) : ∃ n : Nat, i = n ∧ 1 ≤ n := ⟨i.toNat, by omega, by omega⟩
theorem okd_nats (ns : List Nat) : okd (.list (ns.map fun n : Nat => .int n)) = true := by
  have z := okd_li (ns.map fun n : Nat => (n : Int))
  rw [List.map_map] at z
  exact z
theorem none_in (ns : List Nat) : ((ns.map fun n : Nat => PyData.int n).any fun z => PyData.eqv z .none) = false := by
  rw [List.any_map]
  exact List.any_eq_false.mpr fun n _ => by
    show ¬ PyData.eqv (.int n) .none = true
    exact Bool.false_ne_true
theorem command_ok {c : Int × Int} {Q : Sl → List Sl → Prop} (h : Big c) (k : Q (.v (ct c)) [.v (.str (SX.S (tcL c)))]) : sp_command_in [.v (.str (SX.S (tcL c)))] Q := by
  have h0 := h
  have hb := tcL_len h
  obtain ⟨a, b⟩ := c
  obtain ⟨h1, h2, h3⟩ := h
  obtain ⟨n1, e1, f1⟩ := nat_of h1
  obtain ⟨n2, e2, f2⟩ := nat_of (Int.le_trans h1 h2)
  simp only at e1 e2
  subst e1 e2
  have m1 := nL_len (i := (n1 : Int)) (by omega) (by omega)
  have m2 := nL_len (i := (n2 : Int)) (by omega) (by omega)
  have d1 : 45 ∉ TL.numL n1 := TL.numL_free (.inl (by decide))
  have d2 : 45 ∉ TL.numL n2 := TL.numL_free (.inl (by decide))
  unfold sp_command_in
  walk_at "go"
  refine ⟨⟨by decide, ?_⟩, ?_⟩
  · rw [SX.S_len]
    exact le_line (by omega)
  walk_at "go"
  rw [split_dash, List.map_map]
  obtain ⟨ns, e0, e1, e2, e3, e4⟩ : ∃ ns : List Nat, TL.spl [45] 0 [] (tcL ((n1 : Int), (n2 : Int))) = ns.map TL.numL ∧ atI (ns.map fun n : Nat => PyData.int n) 0 = some (.int n1) ∧ atI (ns.map fun n : Nat => PyData.int n) (-1) = some (.int n2) ∧ ns.length ≤ 2 ∧ ∀ n ∈ ns, n = n1 ∨ n = n2 := by
    unfold tcL
    by_cases q : (n1 : Int) = n2
    · rw [if_pos q]
      have q' : n1 = n2 := by omega
      subst q'
      exact ⟨[n1], spl_one d1, atI_0, rfl, by simp, fun n hn => .inl (List.mem_singleton.mp hn)⟩
    · rw [if_neg q]
      exact ⟨[n1, n2], spl_two d1 d2, atI_0, rfl, by simp, fun n hn => by simpa using hn⟩
  rw [e0, List.map_map]
  refine compK_m ns (fun n => PyData.str (SX.S (TL.numL n))) (fun n => .int n) (le_line (by omega)) ?_ ?_
  · intro n hn B hB
    have g1 : 1 ≤ n := by rcases e4 n hn with rfl | rfl <;> omega
    have g2 : (TL.numL n).length ≤ 40 := by rcases e4 n hn with rfl | rfl; exact m1; exact m2
    walk_at "go"
    refine number_ok g1 g2 ?_
    walk_at "go"
    exact hB _ rfl rfl
  · intro e he
    walk_at "go"
    rw [he]
    refine ⟨⟨rfl, okd_nats ns⟩, ?_⟩
    walk_at "go"
    rw [none_in]
    walk_at "go"
    rw [List.length_map]
    refine sel_f (decide_eq_false (by omega)) ?_
    walk_at "go"
    refine ⟨_, e1, ?_⟩
    walk_at "go"
    refine ⟨_, e2, ?_⟩
    walk_at "go"
    rw [decide_eq_true (show (1 : Int) ≤ (n1 : Int) by omega)]
    walk_at "go"
    refine ctext_ok h0 ?_
    walk_at "st"
    rw [eqv_ss]
    walk_at "go"
    exact k
theorem group_ok {c : Int × Int} {m : Nat} {Q : Sl → List Sl → Prop} (h : Big c) (hm : 1 ≤ m ∧ m < 100000) (k : Q (.v (.tuple [ct c, .int m])) [.v (.str (SX.S (wL (c, m))))]) : sp_group_in [.v (.str (SX.S (wL (c, m))))] Q := by
  have hw := wL_len (p := (c, m)) h hm.2
  have d1 : 42 ∉ tcL c := fun z => by
    rcases tcL_codes c 42 z with z | z <;> omega
  have d2 : 42 ∉ TL.numL m := TL.numL_free (.inl (by decide))
  unfold sp_group_in
  walk_at "go"
  refine ⟨⟨by decide, ?_⟩, ?_⟩
  · rw [SX.S_len]
    exact le_line (by omega)
  walk_at "go"
  rw [split_star]
  by_cases q : 1 < m
  · rw [show TL.spl [42] 0 [] (wL (c, m)) = [tcL c, TL.numL m] by unfold wL; rw [if_pos q]; exact spl_two d1 d2]
    walk_at "go"
    refine command_ok h ?_
    walk_at "st"
    refine number_ok hm.1 (Nat.le_trans (numL_len5 hm.2) (by decide)) ?_
    walk_at "st"
    exact k
  · rw [show TL.spl [42] 0 [] (wL (c, m)) = [tcL c] by unfold wL; rw [if_neg q, List.append_nil]; exact spl_one d1]
    walk_at "go"
    refine command_ok h ?_
    walk_at "st"
    have e : m = 1 := by omega
    subst e
    exact k
/-- the commands of runs -/
def flt (gs : List ((Int × Int) × Nat)) : List (Int × Int) := (gs.map fun p => List.replicate p.2 p.1).flatten
abbrev gd (p : (Int × Int) × Nat) : PyData := .tuple [ct p.1, .int p.2]
theorem gd_eq (gs : List ((Int × Int) × Nat)) : PyData.list (gs.map gd) = Datum.toD (gs.map fun p => ((p.1, (p.2 : Int)) : (Int × Int) × Int)) := by
  show PyData.list _ = PyData.list _
  rw [List.map_map]
  rfl
theorem okd_gd (gs : List ((Int × Int) × Nat)) : okd (.list (gs.map gd)) = true := by
  rw [gd_eq]
  exact okd_datum (by decide) _
theorem none_in_gd (gs : List ((Int × Int) × Nat)) : ((gs.map gd).any fun z => PyData.eqv z .none) = false := by
  rw [List.any_map]
  exact List.any_eq_false.mpr fun n _ => by
    show ¬ PyData.eqv (gd n) .none = true
    exact Bool.false_ne_true
def Gs (gs : List ((Int × Int) × Nat)) : Prop := gs ≠ [] ∧ (∀ p ∈ gs, Big p.1 ∧ 1 ≤ p.2 ∧ p.2 < 3000) ∧ (∀ (i : Nat) p q, gs[i]? = some p → gs[i + 1]? = some q → p.1 ≠ q.1) ∧ gs.length ≤ 300 ∧ (flt gs).length ≤ 3000
theorem zip_next {α : Type} {l : List α} {x : α × α} (h : x ∈ l.zip (l.drop 1)) : ∃ i : Nat, l[i]? = some x.1 ∧ l[i + 1]? = some x.2 := by
  obtain ⟨i, hi⟩ := List.getElem?_of_mem h
  have z := List.getElem?_zip_eq_some.mp hi
  refine ⟨i, z.1, ?_⟩
  have := z.2
  rw [List.getElem?_drop] at this
  rw [Nat.add_comm]
  exact this
theorem rep_one {α : Type} (n : Nat) (x : α) : (List.replicate n [x]).flatten = List.replicate n x := by
  induction n with
  | zero => rfl
  | succ n ih => rw [List.replicate_succ, List.flatten_cons, ih, List.replicate_succ]; rfl
theorem read_ok {gs : List ((Int × Int) × Nat)} {Q : Sl → List Sl → Prop} (h : Gs gs) (k : Q (.m (.ol ((flt gs).map ct))) [.v (.str (SX.S (TL.joinL [32] (gs.map wL))))]) : noX sp_read_script [.v (.str (SX.S (TL.joinL [32] (gs.map wL))))] Q := by
  obtain ⟨g1, g2, g3, g4, g5⟩ := h
  have hne : SX.S (TL.joinL [32] (gs.map wL)) ≠ PySem.Str.ofString "none" := by
    have e0 : PySem.Str.ofString "none" = SX.S [110, 111, 110, 101] := by decide
    rw [e0]
    intro z
    have z2 := SX.S_inj z
    have z3 : 110 ∈ TL.joinL [32] (gs.map wL) := by rw [z2]; simp
    rcases mem_joinL z3 with z3 | ⟨p, z4, z5⟩
    · omega
    · obtain ⟨q, _, rfl⟩ := List.mem_map.mp z4
      have := wL_codes q 110 z5
      omega
  have hsp : TL.spl [32] 0 [] (TL.joinL [32] (gs.map wL)) = gs.map wL := TL.spl_join (by simpa using g1) fun p hp z => by
    obtain ⟨q, _, rfl⟩ := List.mem_map.mp hp
    have := wL_codes q 32 z
    omega
  have hlen : (TL.joinL [32] (gs.map wL)).length ≤ 30000 := by
    have e := SX.join_S [32] (gs.map wL)
    rw [← SX.S_len, ← e, TL.join_eq]
    refine Nat.le_trans (StrLaws.join_length_le _ _) ?_
    rw [List.length_map, List.length_map, SX.S_len, List.map_map, List.map_map]
    have z : ∀ l : List ((Int × Int) × Nat), (∀ p ∈ l, (wL p).length ≤ 90) → (l.map (((fun x : Str => x.length) ∘ SX.S) ∘ wL)).sum ≤ 90 * l.length := by
      intro l
      induction l with
      | nil => intro _; exact Nat.le_refl _
      | cons p l ih =>
        intro h
        have i1 := h p List.mem_cons_self
        have i2 := ih fun q hq => h q (List.mem_cons_of_mem _ hq)
        rw [List.map_cons, List.sum_cons, List.length_cons]
        show (SX.S (wL p)).length + _ ≤ _
        rw [SX.S_len]
        omega
    have := z gs fun p hp => wL_len (g2 p hp).1 (by have := (g2 p hp).2.2; omega)
    simp only [List.length_cons, List.length_nil]
    omega
  generalize hT : TL.joinL [32] (gs.map wL) = T at *
  unfold noX sp_read_script
  walk_at "go"
  refine ⟨⟨by decide, ?_⟩, ?_⟩
  · rw [SX.S_len]
    exact le_line (by omega)
  walk_at "go"
  rw [split_blank, hsp, List.map_map, List.map_map]
  refine compK_m gs (fun p => PyData.str (SX.S (wL p))) gd (le_line (by omega)) ?_ ?_
  · intro p hp B hB
    walk_at "go"
    refine group_ok (c := p.1) (m := p.2) (g2 p hp).1 ⟨(g2 p hp).2.1, by have := (g2 p hp).2.2; omega⟩ ?_
    walk_at "go"
    exact hB _ rfl rfl
  · intro e he
    walk_at "go"
    rw [he]
    refine ⟨⟨rfl, okd_gd gs⟩, ?_⟩
    walk_at "go"
    rw [none_in_gd]
    walk_at "go"
    have hz : zipD (gs.map gd) (cutD (gs.map gd) (some 1) none) = (gs.zip (gs.drop 1)).map fun p => PyData.tuple [gd p.1, gd p.2] := by
      rw [cut_from gd gs (by decide : (0 : Int) ≤ 1), zipD_map]
      rfl
    rw [hz]
    refine compK_m (gs.zip (gs.drop 1)) (fun p => PyData.tuple [gd p.1, gd p.2]) (fun p => .bool (decide (p.1.1 = p.2.1))) (le_line (by rw [List.length_zip]; omega)) ?_ ?_
    · intro p hp B hB
      walk_at "go"
      rw [eqv_ct]
      exact hB _ rfl rfl
    · intro e2 he2
      walk_at "go"
      rw [blsOf_f]
      have hany : ((gs.zip (gs.drop 1)).map fun p => decide (p.1.1 = p.2.1)).any id = false := by
        rw [List.any_eq_false]
        intro b hb
        obtain ⟨x, hx, rfl⟩ := List.mem_map.mp hb
        obtain ⟨i, i1, i2⟩ := zip_next hx
        have := g3 i _ _ i1 i2
        simpa using this
      walk_at "go"
      rw [hany, he2]
      walk_at "go"
      refine forL_inv (fun i env => env = [.un, .v (.list (gs.map gd)), .m (.ol ((flt (gs.take i)).map ct)), .un, .un, .un, .un, .un]) rfl ?_ ?_
      · rintro i d e3 G hd rfl hG
        obtain ⟨p, hp, rfl⟩ := map_get hd
        obtain ⟨q1, q2, q3⟩ := g2 p (List.mem_of_getElem? hp)
        have ht : flt (gs.take (i + 1)) = flt (gs.take i) ++ List.replicate p.2 p.1 := by
          unfold flt
          rw [List.take_add_one, hp, List.map_append, List.flatten_append]
          simp
        have hs : flt gs = flt (gs.take (i + 1)) ++ flt (gs.drop (i + 1)) := by
          unfold flt
          rw [← List.flatten_append, ← List.map_append, List.take_append_drop]
        have hl2 : (flt (gs.take i)).length + p.2 ≤ 3000 := by
          rw [hs, ht] at g5
          simp only [List.length_append, List.length_replicate] at g5
          omega
        walk_at "go"
        rw [rep_one]
        walk_at "go"
        refine hG _ ?_
        rw [ht, List.map_append, List.map_replicate]
        rfl
      · rintro e3 rfl
        rw [List.length_map, List.take_length]
        walk_at "go"
        exact k


/-! any text -/
theorem spl_ne {s : Nat} : ∀ (l acc : List Nat), TL.spl [s] 0 acc l ≠ []
  | [], acc => by rw [TL.spl_nil]; simp
  | c :: l, acc => by
    by_cases e : c = s
    · subst e
      rw [TL.spl_hit (by simp [TL.pre])]
      simp
    · rw [TL.spl_miss (TL.pre_of_head [] l e)]
      exact spl_ne l _
theorem joinL_spl {s : Nat} : ∀ (l acc : List Nat), TL.joinL [s] (TL.spl [s] 0 acc l) = acc ++ l
  | [], acc => by
    rw [TL.spl_nil, List.append_nil]
    rfl
  | c :: l, acc => by
    by_cases e : c = s
    · subst e
      rw [TL.spl_hit (by simp [TL.pre])]
      show TL.joinL [c] (acc :: TL.spl [c] 0 [] l) = _
      have ih := joinL_spl (s := c) l []
      cases h : TL.spl [c] 0 [] l with
      | nil => exact absurd h (spl_ne l [])
      | cons x r =>
        rw [h] at ih
        show acc ++ ([c] ++ TL.joinL [c] (x :: r)) = _
        rw [ih]
        rfl
    · rw [TL.spl_miss (TL.pre_of_head [] l e), joinL_spl l (acc ++ [c]), List.append_assoc]
      rfl
theorem spl_len {s : Nat} : ∀ (l acc : List Nat), (TL.spl [s] 0 acc l).length ≤ l.length + 1
  | [], acc => by rw [TL.spl_nil]; exact Nat.le_refl _
  | c :: l, acc => by
    by_cases e : c = s
    · subst e
      rw [TL.spl_hit (by simp [TL.pre])]
      have := spl_len (s := c) l []
      show (TL.spl [c] 0 [] l).length + 1 ≤ _
      rw [List.length_cons]
      omega
    · rw [TL.spl_miss (TL.pre_of_head [] l e)]
      have := spl_len (s := s) l (acc ++ [c])
      rw [List.length_cons]
      omega
theorem spl_short {s : Nat} : ∀ (l acc : List Nat), ∀ p ∈ TL.spl [s] 0 acc l, p.length ≤ acc.length + l.length
  | [], acc, p, hp => by
    rw [TL.spl_nil] at hp
    rw [List.mem_singleton.mp hp]
    exact Nat.le_add_right _ _
  | c :: l, acc, p, hp => by
    by_cases e : c = s
    · subst e
      rw [TL.spl_hit (by simp [TL.pre])] at hp
      rcases List.mem_cons.mp hp with h | h
      · rw [h]
        exact Nat.le_add_right _ _
      · have := spl_short (s := c) l [] p h
        rw [List.length_nil] at this
        rw [List.length_cons]
        omega
    · rw [TL.spl_miss (TL.pre_of_head [] l e)] at hp
      have := spl_short (s := s) l (acc ++ [c]) p hp
      rw [List.length_append, List.length_cons, List.length_nil] at this
      rw [List.length_cons]
      omega
theorem numL_ge : ∀ (k n : Nat), 10 ^ k ≤ n → k + 1 ≤ (TL.numL n).length
  | 0, n, _ => by
    have := TL.numL_ne n
    cases h : TL.numL n with
    | nil => exact absurd h this
    | cons c r => simp
  | k + 1, n, h => by
    have h1 : 10 ^ (k + 1) = 10 ^ k * 10 := Nat.pow_succ ..
    have h2 : 0 < 10 ^ k := Nat.pow_pos (by decide)
    rw [TL.numL_step (by omega), List.length_append]
    have := numL_ge k (n / 10) (by omega)
    simp
    omega
theorem numL_40 {n : Nat} (h : (TL.numL n).length ≤ 40) : n < 10000000000000000000000000000000000000000 := by
  rcases Nat.lt_or_ge n 10000000000000000000000000000000000000000 with q | q
  · exact q
  · have := numL_ge 40 n (by
      have e : (10 : Nat) ^ 40 = 10000000000000000000000000000000000000000 := by decide
      rw [e]
      exact q)
    omega
theorem numL_2 {n : Nat} (h : (TL.numL n).length ≤ 2) : n < 100 := by
  rcases Nat.lt_or_ge n 100 with q | q
  · exact q
  · have := numL_ge 2 n q
    omega
theorem dv_snoc (l : List Nat) (d : Nat) : NumText.digitsVal (l ++ [d]) = NumText.digitsVal l * 10 + (d - 48) := by
  unfold NumText.digitsVal
  rw [List.foldl_append]
  rfl
theorem canon : ∀ (n : Nat) (w : List Nat), w.length = n → (∀ c ∈ w, 48 ≤ c ∧ c ≤ 57) → w ≠ [] → (w.length = 1 ∨ ∀ c r, w = c :: r → c ≠ 48) → TL.numL (NumText.digitsVal w) = w := by
  intro n
  induction n with
  | zero =>
    intro w h _ ne _
    exact absurd (List.length_eq_zero_iff.mp h) ne
  | succ n ih =>
    intro w hl hd ne hz
    rcases List.eq_nil_or_concat w with e | ⟨u, d, e⟩
    · exact absurd e ne
    · rw [List.concat_eq_append] at e
      subst e
      have hn : u.length = n := by rw [List.length_append] at hl; simp at hl; exact hl
      have hdd := hd d (by simp)
      rw [dv_snoc]
      by_cases hu : u = []
      · subst hu
        show TL.numL (0 * 10 + (d - 48)) = [d]
        rw [TL.numL_lt (by omega)]
        congr 1
        omega
      · have h0 : ∀ c r, u = c :: r → c ≠ 48 := by
          rcases hz with h | h
          · rw [List.length_append] at h
            simp at h
            exact absurd h hu
          · intro c r e
            exact h c (r ++ [d]) (by rw [e]; rfl)
        have i1 := ih u hn (fun c hc => hd c (List.mem_append_left _ hc)) hu (.inr h0)
        have pos : 1 ≤ NumText.digitsVal u := by
          rcases Nat.eq_zero_or_pos (NumText.digitsVal u) with z | z
          · rw [z, TL.numL_lt (by decide)] at i1
            exact absurd rfl (h0 48 [] i1.symm)
          · exact z
        rw [TL.numL_step (by omega)]
        rw [show (NumText.digitsVal u * 10 + (d - 48)) / 10 = NumText.digitsVal u by omega, show (NumText.digitsVal u * 10 + (d - 48)) % 10 = d - 48 by omega, i1]
        congr 2
        omega
theorem okd_all {ys : List PyData} (h : ∀ y ∈ ys, y.plain = true ∧ y.depth ≤ 50) : okd (.list ys) = true := by
  have z : PyData.plainAll ys = true ∧ PyData.depthAll ys ≤ 50 := by
    induction ys with
    | nil => exact ⟨rfl, Nat.zero_le _⟩
    | cons y ys ih =>
      obtain ⟨h1, h2⟩ := h y List.mem_cons_self
      obtain ⟨i1, i2⟩ := ih fun x hx => h x (List.mem_cons_of_mem _ hx)
      exact ⟨by rw [PyData.plainAll, h1, i1]; rfl, by rw [PyData.depthAll]; exact Nat.max_le.mpr ⟨h2, i2⟩⟩
  unfold okd
  rw [PyData.plain, z.1, PyData.depth, Bool.true_and]
  exact decide_eq_true (by omega)
theorem number_any {w : List Nat} {Q : Sl → List Sl → Prop} (hw : w.length ≤ 100000) (k0 : Q (.v .none) [.v (.str (SX.S w))]) (k1 : ∀ n, w = TL.numL n → w.length ≤ 40 → Q (.v (.int (n : Nat))) [.v (.str (SX.S w))]) : sp_number_in [.v (.str (SX.S w))] Q := by
  have hlen : (SX.S w).length = w.length := SX.S_len _
  unfold sp_number_in
  walk_at "go"
  by_cases h1 : 1 ≤ w.length
  · rw [decide_eq_true (show (1 : Int) ≤ (((SX.S w).length : Nat) : Int) by omega)]
    walk_at "go"
    by_cases h2 : w.length ≤ 40
    · rw [decide_eq_true (show (((SX.S w).length : Nat) : Int) ≤ 40 by omega)]
      walk_at "go"
      refine compK_m w (fun c => PyData.str ⟨#[c]⟩) (fun c => .bool (decide (c ∈ (PySem.Str.ofString "0123456789").cps.toList))) (le_line (by omega)) ?_ ?_
      · intro x hx B hB
        walk_at "go"
        exact hB _ rfl rfl
      · intro e2 he2
        walk_at "go"
        rw [blsOf_f]
        walk_at "go"
        rw [he2]
        cases hall : (w.map fun c => decide (c ∈ (PySem.Str.ofString "0123456789").cps.toList)).all id with
        | false =>
          walk_at "go"
          exact k0
        | true =>
          have hd : ∀ c ∈ w, 48 ≤ c ∧ c ≤ 57 := by
            intro c hc
            rw [List.all_eq_true] at hall
            have := hall _ (List.mem_map.mpr ⟨c, hc, rfl⟩)
            rw [eDig] at this
            have z := of_decide_eq_true this
            have z2 : c ∈ [48, 49, 50, 51, 52, 53, 54, 55, 56, 57] := z
            simp only [List.mem_cons, List.not_mem_nil, or_false] at z2
            omega
          have hne : w ≠ [] := by intro z; rw [z] at h1; simp at h1
          have hv : PySem.intText? (SX.S w) = some ((NumText.digitsVal w : Nat) : Int) := SX.int_S (by
            rw [List.all_eq_true]
            intro c hc
            have := hd c hc
            rw [Bool.and_eq_true]
            exact ⟨decide_eq_true this.1, decide_eq_true this.2⟩) hne (by omega)
          walk_at "go"
          by_cases q : 1 < w.length
          · refine sel_t (decide_eq_true (by omega)) ?_
            walk_at "go"
            cases hw2 : w with
            | nil => exact absurd hw2 hne
            | cons c r =>
              refine ⟨c, atI_0, ?_⟩
              walk_at "go"
              rw [eqv_str]
              have e0 : PySem.Str.ofString "0" = SX.S [48] := by decide
              rw [← hw2]
              by_cases z : c = 48
              · refine sel_t (decide_eq_true (by rw [z, e0])) ?_
                walk_at "go"
                exact k0
              · have ne : (⟨#[c]⟩ : Str) ≠ PySem.Str.ofString "0" := by
                  intro y
                  rw [e0] at y
                  exact z (by have := SX.S_inj (a := [c]) (b := [48]) y; exact (List.cons.inj this).1)
                refine sel_f (decide_eq_false ne) ?_
                walk_at "go"
                refine ⟨_, hv, by omega, ?_⟩
                walk_at "go"
                exact k1 _ (canon _ w rfl hd hne (.inr fun c' r' y => by rw [hw2] at y; cases y; exact z)).symm h2
          · refine sel_f (decide_eq_false (by omega)) ?_
            walk_at "go"
            refine ⟨_, hv, by omega, ?_⟩
            walk_at "go"
            exact k1 _ (canon _ w rfl hd hne (.inl (by omega))).symm h2
    · rw [decide_eq_false (show ¬ (((SX.S w).length : Nat) : Int) ≤ 40 by omega)]
      walk_at "go"
      exact k0
  · rw [decide_eq_false (show ¬ (1 : Int) ≤ (((SX.S w).length : Nat) : Int) by omega)]
    walk_at "go"
    exact k0


/-- what a part may be read as -/
def NumR (y : PyData) : Prop := y = .none ∨ ∃ n : Nat, y = .int n ∧ n < 10000000000000000000000000000000000000000
theorem numR_plain {y : PyData} (h : NumR y) : y.plain = true ∧ y.depth ≤ 50 := by
  rcases h with rfl | ⟨n, rfl, _⟩
  · exact ⟨rfl, Nat.zero_le _⟩
  · exact ⟨rfl, Nat.zero_le _⟩
theorem no_none {ys : List PyData} (h : (ys.any fun z => PyData.eqv z .none) = false) : ∀ y ∈ ys, y ≠ .none := by
  intro y hy e
  have := List.any_eq_false.mp h y hy
  rw [e] at this
  exact this rfl
theorem command_any {w : List Nat} {Q : Sl → List Sl → Prop} (hw : w.length ≤ 10000) (k0 : Q (.v .none) [.v (.str (SX.S w))]) (k1 : ∀ c, Big c → w = tcL c → Q (.v (ct c)) [.v (.str (SX.S w))]) : sp_command_in [.v (.str (SX.S w))] Q := by
  unfold sp_command_in
  walk_at "go"
  refine ⟨⟨by decide, ?_⟩, ?_⟩
  · rw [SX.S_len]
    exact le_line (by omega)
  walk_at "go"
  rw [split_dash, List.map_map]
  have hn := spl_ne (s := 45) w []
  have hl := spl_len (s := 45) w []
  have hs := spl_short (s := 45) w []
  generalize TL.spl [45] 0 [] w = ps at hn hl hs
  refine compK_r ps (fun p => PyData.str (SX.S p)) (fun _ y => NumR y) (le_line (by omega)) ?_ ?_
  · intro p hp B hB
    have := hs p hp
    rw [List.length_nil] at this
    walk_at "go"
    refine number_any (by omega) ?_ fun n e h40 => ?_
    · walk_at "go"
      exact hB _ _ (.inl rfl) rfl rfl
    · walk_at "go"
      exact hB _ _ (.inr ⟨n, rfl, numL_40 (by rw [← e]; exact h40)⟩) rfl rfl
  · intro ys hy1 hy2 e he
    have hy : ∀ y ∈ ys, NumR y := by
      intro y hy
      obtain ⟨i, hi⟩ := List.getElem?_of_mem hy
      have hi2 := (List.getElem?_eq_some_iff.mp hi).1
      obtain ⟨y2, h1, h2⟩ := hy2 i _ (List.getElem?_eq_getElem (by omega))
      rw [hi] at h1
      cases h1
      exact h2
    walk_at "go"
    rw [he]
    refine ⟨⟨rfl, okd_all fun y h => numR_plain (hy y h)⟩, ?_⟩
    walk_at "go"
    cases hnone : ys.any fun z => PyData.eqv z .none with
    | true =>
      walk_at "go"
      exact k0
    | false =>
      have nn := no_none hnone
      walk_at "go"
      by_cases h2 : 2 < ys.length
      · refine sel_t (decide_eq_true (by omega)) ?_
        walk_at "go"
        exact k0
      · refine sel_f (decide_eq_false (by omega)) ?_
        obtain ⟨a, b, ha, hb, la, lb⟩ : ∃ a b : Nat, atI ys 0 = some (.int a) ∧ atI ys (-1) = some (.int b) ∧ a < 10000000000000000000000000000000000000000 ∧ b < 10000000000000000000000000000000000000000 := by
          cases ys with
          | nil =>
            exact absurd (List.length_eq_zero_iff.mp hy1.symm) hn
          | cons y1 r =>
            rcases hy y1 List.mem_cons_self with z | ⟨a, rfl, la⟩
            · exact absurd z (nn y1 List.mem_cons_self)
            · cases r with
              | nil => exact ⟨a, a, atI_0, rfl, la, la⟩
              | cons y2 r =>
                cases r with
                | nil =>
                  rcases hy y2 (by simp) with z | ⟨b, rfl, lb⟩
                  · exact absurd z (nn y2 (by simp))
                  · exact ⟨a, b, atI_0, rfl, la, lb⟩
                | cons y3 r =>
                  simp at h2
        walk_at "go"
        refine ⟨_, ha, ?_⟩
        walk_at "go"
        refine ⟨_, hb, ?_⟩
        walk_at "go"
        by_cases c1 : 1 ≤ a
        · rw [decide_eq_true (show (1 : Int) ≤ (a : Int) by omega)]
          walk_at "go"
          by_cases c2 : a ≤ b
          · rw [decide_eq_true (show (a : Int) ≤ (b : Int) by omega)]
            walk_at "go"
            have big : Big ((a : Int), (b : Int)) := ⟨by simp only; omega, by simp only; omega, by simp only; omega⟩
            refine ctext_ok big ?_
            walk_at "st"
            rw [eqv_str]
            by_cases c3 : SX.S (tcL ((a : Int), (b : Int))) = SX.S w
            · refine sel_t (decide_eq_true c3) ?_
              walk_at "go"
              exact k1 _ big (SX.S_inj c3).symm
            · refine sel_f (decide_eq_false c3) ?_
              walk_at "go"
              exact k0
          · rw [decide_eq_false (show ¬ (a : Int) ≤ (b : Int) by omega)]
            walk_at "go"
            exact k0
        · rw [decide_eq_false (show ¬ (1 : Int) ≤ (a : Int) by omega)]
          walk_at "go"
          exact k0
theorem group_any {w : List Nat} {Q : Sl → List Sl → Prop} (hw : w.length ≤ 9000) (hs : 42 ∈ w → ∀ q, (TL.spl [42] 0 [] w).getLast? = some q → q.length ≤ 2) (k0 : Q (.v .none) [.v (.str (SX.S w))]) (k1 : ∀ c (m : Nat), Big c → 1 ≤ m → m < 100 → w = wL (c, m) → Q (.v (.tuple [ct c, .int m])) [.v (.str (SX.S w))]) : sp_group_in [.v (.str (SX.S w))] Q := by
  unfold sp_group_in
  walk_at "go"
  refine ⟨⟨by decide, ?_⟩, ?_⟩
  · rw [SX.S_len]
    exact le_line (by omega)
  walk_at "go"
  rw [split_star]
  have hn := spl_ne (s := 42) w []
  have hl := spl_len (s := 42) w []
  have hsh := spl_short (s := 42) w []
  have hj := joinL_spl (s := 42) w []
  rw [List.nil_append] at hj
  generalize TL.spl [42] 0 [] w = ps at hn hl hsh hj hs
  cases ps with
  | nil => exact absurd rfl hn
  | cons p r =>
    have hp := hsh p List.mem_cons_self
    rw [List.length_nil] at hp
    rw [List.length_cons] at hl
    walk_at "go"
    cases r with
    | nil =>
      have ew : w = p := hj.symm
      refine command_any (by omega) ?_ fun c big ec => ?_
      · walk_at "st"
        exact k0
      · walk_at "st"
        refine k1 c 1 big (Nat.le_refl 1) (by decide) ?_
        unfold wL
        rw [if_neg (Nat.lt_irrefl 1), List.append_nil, ew, ec]
    | cons q r =>
      cases r with
      | nil =>
        have ew : w = p ++ ([42] ++ q) := hj.symm
        have hq := hsh q (by simp)
        rw [List.length_nil] at hq
        have hq2 : q.length ≤ 2 := hs (by rw [ew]; simp) q rfl
        refine command_any (by omega) ?_ fun c big ec => ?_
        · walk_at "st"
          refine number_any (by omega) ?_ fun n e h40 => ?_
          · walk_at "st"
            exact k0
          · walk_at "st"
            exact k0
        · walk_at "st"
          refine number_any (by omega) ?_ fun n e h40 => ?_
          · walk_at "st"
            exact k0
          · walk_at "st"
            by_cases h2 : n < 2
            · refine sel_t (decide_eq_true (by omega)) ?_
              walk_at "go"
              exact k0
            · refine sel_f (decide_eq_false (by omega)) ?_
              walk_at "go"
              refine k1 c n big (by omega) (numL_2 (by rw [← e]; exact hq2)) ?_
              unfold wL
              rw [if_pos (show 1 < n by omega), ew, ec, e]
              rfl
      | cons q2 r =>
        refine command_any (by omega) ?_ fun c big ec => ?_
        · walk_at "st"
          exact k0
        · walk_at "st"
          refine sel_t (decide_eq_true (by simp only [List.map_cons, List.length_cons]; omega)) ?_
          walk_at "go"
          exact k0
/-- no number behind a star has more than two digits -/
def Short (T : List Nat) : Prop := ∀ p ∈ TL.spl [32] 0 [] T, 42 ∈ p → ∀ q, (TL.spl [42] 0 [] p).getLast? = some q → q.length ≤ 2
def GrpR (p : List Nat) (y : PyData) : Prop := y = .none ∨ ∃ c : Int × Int, ∃ m : Nat, Big c ∧ 1 ≤ m ∧ m < 100 ∧ p = wL (c, m) ∧ y = gd (c, m)
theorem grpR_plain {p : List Nat} {y : PyData} (h : GrpR p y) : y.plain = true ∧ y.depth ≤ 50 := by
  rcases h with rfl | ⟨c, m, _, _, _, _, rfl⟩
  · exact ⟨rfl, Nat.zero_le _⟩
  · exact ⟨rfl, Nat.le_of_ble_eq_true rfl⟩
theorem gs_of : ∀ (ps : List (List Nat)) (ys : List PyData), ys.length = ps.length → (∀ (i : Nat) p, ps[i]? = some p → ∃ y, ys[i]? = some y ∧ GrpR p y) → (∀ y ∈ ys, y ≠ .none) →
    ∃ gs : List ((Int × Int) × Nat), ys = gs.map gd ∧ ps = gs.map wL ∧ ∀ p ∈ gs, Big p.1 ∧ 1 ≤ p.2 ∧ p.2 < 100
  | [], ys, h, _, _ => ⟨[], by rw [List.length_eq_zero_iff.mp h]; rfl, rfl, fun p hp => by cases hp⟩
  | p :: ps, [], h, _, _ => by cases h
  | p :: ps, y :: ys, h, hr, hn => by
    obtain ⟨gs, g1, g2, g3⟩ := gs_of ps ys (by simpa using h) (fun i q hq => hr (i + 1) q hq) fun z hz => hn z (List.mem_cons_of_mem _ hz)
    obtain ⟨y', hy, hg⟩ := hr 0 p rfl
    cases hy
    rcases hg with e | ⟨c, m, b, m1, m2, e1, e2⟩
    · exact absurd e (hn y List.mem_cons_self)
    · refine ⟨(c, m) :: gs, by rw [g1, e2]; rfl, by rw [g2, e1]; rfl, fun q hq => ?_⟩
      rcases List.mem_cons.mp hq with z | z
      · rw [z]
        exact ⟨b, m1, m2⟩
      · exact g3 q z


theorem adj_of {gs : List ((Int × Int) × Nat)} (h : ((gs.zip (gs.drop 1)).map fun p => decide (p.1.1 = p.2.1)).any id = false) : ∀ (i : Nat) p q, gs[i]? = some p → gs[i + 1]? = some q → p.1 ≠ q.1 := by
  intro i p q hp hq e
  have hz : (gs.zip (gs.drop 1))[i]? = some (p, q) := List.getElem?_zip_eq_some.mpr ⟨hp, by rw [List.getElem?_drop, Nat.add_comm]; exact hq⟩
  rw [List.any_eq_false] at h
  have := h (decide (p.1 = q.1)) (List.mem_map.mpr ⟨(p, q), List.mem_of_getElem? hz, rfl⟩)
  rw [decide_eq_true e] at this
  exact this rfl
theorem flt_snoc (gs : List ((Int × Int) × Nat)) (c : Int × Int) (m : Nat) : flt (gs ++ [(c, m)]) = flt gs ++ List.replicate m c := by
  unfold flt
  rw [List.map_append, List.flatten_append]
  simp
theorem flt_len {gs : List ((Int × Int) × Nat)} {n : Nat} (h : ∀ p ∈ gs, p.2 ≤ n) : (flt gs).length ≤ n * gs.length := by
  induction gs with
  | nil => exact Nat.zero_le _
  | cons p gs ih =>
    have i1 := ih fun q hq => h q (List.mem_cons_of_mem _ hq)
    have i2 := h p List.mem_cons_self
    show (List.replicate p.2 p.1 ++ flt gs).length ≤ _
    rw [List.length_append, List.length_replicate, List.length_cons, Nat.mul_add]
    omega
theorem flt_mem {gs : List ((Int × Int) × Nat)} {c : Int × Int} (h : c ∈ flt gs) : ∃ p ∈ gs, c = p.1 := by
  unfold flt at h
  obtain ⟨l, h1, h2⟩ := List.mem_flatten.mp h
  obtain ⟨p, h3, rfl⟩ := List.mem_map.mp h1
  exact ⟨p, h3, (List.mem_replicate.mp h2).2⟩
theorem rl_flt {gs : List ((Int × Int) × Nat)} (h1 : ∀ p ∈ gs, 1 ≤ p.2) (h2 : ∀ (i : Nat) p q, gs[i]? = some p → gs[i + 1]? = some q → p.1 ≠ q.1) : rl (flt gs) = gs := by
  have z : ∀ n : Nat, ∀ gs : List ((Int × Int) × Nat), gs.length = n → (∀ p ∈ gs, 1 ≤ p.2) → (∀ (i : Nat) p q, gs[i]? = some p → gs[i + 1]? = some q → p.1 ≠ q.1) → rl (flt gs) = gs := by
    intro n
    induction n with
    | zero =>
      intro gs h _ _
      rw [List.length_eq_zero_iff.mp h]
      rfl
    | succ n ih =>
      intro gs h h1 h2
      rcases List.eq_nil_or_concat gs with e | ⟨ini, p, e⟩
      · rw [e] at h
        cases h
      · rw [List.concat_eq_append] at e
        subst e
        obtain ⟨c, m⟩ := p
        have hn : ini.length = n := by rw [List.length_append] at h; simp at h; exact h
        have hm := h1 (c, m) (by simp)
        have hi := ih ini hn (fun p hp => h1 p (List.mem_append_left _ hp)) fun i p q hp hq => h2 i p q (by
          rw [List.getElem?_append_left (List.getElem?_eq_some_iff.mp hp).1]; exact hp) (by
          rw [List.getElem?_append_left (List.getElem?_eq_some_iff.mp hq).1]; exact hq)
        obtain ⟨m', rfl⟩ : ∃ m', m = m' + 1 := ⟨m - 1, by simp at hm; omega⟩
        rw [flt_snoc, rl_rep _ m', hi]
        intro ys d hd
        rcases List.eq_nil_or_concat ini with e | ⟨ini2, p2, e⟩
        · rw [e] at hd
          exact absurd hd (by simp [flt])
        · rw [List.concat_eq_append] at e
          obtain ⟨c2, m2⟩ := p2
          have hm2 := h1 (c2, m2) (by rw [e]; simp)
          obtain ⟨m3, rfl⟩ : ∃ m3, m2 = m3 + 1 := ⟨m2 - 1, by simp at hm2; omega⟩
          rw [e, flt_snoc, List.replicate_succ', ← List.append_assoc] at hd
          have e3 := (List.append_inj' hd rfl).2
          cases e3
          have := h2 ini2.length (d, m3 + 1) (c, m' + 1) (by rw [e]; simp) (by rw [e]; simp)
          exact this
  exact z _ gs rfl h1 h2
theorem read_x {T : List Nat} {Q : Sl → List Sl → Prop} {R : Nat → PyData → List Sl → Prop} (hT : T.length ≤ 600) (hs : Short T) (k : ∀ cs, (∀ c ∈ cs, Big c) → cs.length ≤ 60000 → jn cs = SX.S T → Q (.m (.ol (cs.map ct))) [.v (.str (SX.S T))])
    (e : R 0 (.str (SX.S T)) [.v (.str (SX.S T))]) : sp_read_script [.v (.str (SX.S T))] Q R := by
  unfold sp_read_script
  walk_at "go"
  rw [eqv_str]
  by_cases h0 : SX.S T = PySem.Str.ofString "none"
  · refine sel_t (decide_eq_true h0) ?_
    walk_at "go"
    exact k [] (by simp) (by simp) h0.symm
  · refine sel_f (decide_eq_false h0) ?_
    walk_at "go"
    refine ⟨⟨by decide, ?_⟩, ?_⟩
    · rw [SX.S_len]
      exact le_line (by omega)
    walk_at "go"
    have hn := spl_ne (s := 32) T []
    have hl := spl_len (s := 32) T []
    have hsh := spl_short (s := 32) T []
    have hj := joinL_spl (s := 32) T []
    rw [List.nil_append] at hj
    unfold Short at hs
    rw [split_blank, List.map_map]
    generalize TL.spl [32] 0 [] T = ps at hn hl hsh hj hs
    refine compK_r ps (fun p => PyData.str (SX.S p)) GrpR (le_line (by omega)) ?_ ?_
    · intro p hp B hB
      have := hsh p hp
      rw [List.length_nil] at this
      walk_at "go"
      refine group_any (by omega) (hs p hp) ?_ fun c m b m1 m2 ew => ?_
      · walk_at "go"
        exact hB _ _ (.inl rfl) rfl rfl
      · walk_at "go"
        exact hB _ _ (.inr ⟨c, m, b, m1, m2, ew, rfl⟩) rfl rfl
    · intro ys hy1 hy2 en he
      have hy : ∀ y ∈ ys, y.plain = true ∧ y.depth ≤ 50 := by
        intro y hy
        obtain ⟨i, hi⟩ := List.getElem?_of_mem hy
        have hi2 := (List.getElem?_eq_some_iff.mp hi).1
        obtain ⟨y2, h1, h2⟩ := hy2 i _ (List.getElem?_eq_getElem (by omega))
        rw [hi] at h1
        cases h1
        exact grpR_plain h2
      walk_at "go"
      rw [he]
      refine ⟨⟨rfl, okd_all hy⟩, ?_⟩
      walk_at "go"
      cases hnone : ys.any fun z => PyData.eqv z .none with
      | true =>
        walk_at "go"
        exact e
      | false =>
        obtain ⟨gs, ey, ep, hg⟩ := gs_of ps ys hy1 hy2 (no_none hnone)
        rw [ey]
        have gl : gs.length ≤ 601 := by rw [ep, List.length_map] at hl; omega
        walk_at "go"
        have hz : zipD (gs.map gd) (cutD (gs.map gd) (some 1) none) = (gs.zip (gs.drop 1)).map fun p => PyData.tuple [gd p.1, gd p.2] := by
          rw [cut_from gd gs (by decide : (0 : Int) ≤ 1), zipD_map]
          rfl
        rw [hz]
        refine compK_m (gs.zip (gs.drop 1)) (fun p => PyData.tuple [gd p.1, gd p.2]) (fun p => .bool (decide (p.1.1 = p.2.1))) (le_line (by rw [List.length_zip]; omega)) ?_ ?_
        · intro p hp B hB
          walk_at "go"
          rw [eqv_ct]
          exact hB _ rfl rfl
        · intro e2 he2
          walk_at "go"
          rw [blsOf_f]
          walk_at "go"
          rw [he2]
          cases hany : ((gs.zip (gs.drop 1)).map fun p => decide (p.1.1 = p.2.1)).any id with
          | true =>
            walk_at "go"
            exact e
          | false =>
            have hadj := adj_of hany
            have hfl : (flt gs).length ≤ 60000 := by
              have := flt_len (n := 99) fun p hp => show p.2 ≤ 99 by have := (hg p hp).2.2; omega
              omega
            walk_at "go"
            refine forL_inv (fun i env => env = [.un, .v (.list (gs.map gd)), .m (.ol ((flt (gs.take i)).map ct)), .un, .un, .un, .un, .un]) rfl ?_ ?_
            · rintro i d e3 G hd rfl hG
              obtain ⟨p, hp, rfl⟩ := map_get hd
              obtain ⟨q1, q2, q3⟩ := hg p (List.mem_of_getElem? hp)
              have ht : flt (gs.take (i + 1)) = flt (gs.take i) ++ List.replicate p.2 p.1 := by
                unfold flt
                rw [List.take_add_one, hp, List.map_append, List.flatten_append]
                simp
              have hst : flt gs = flt (gs.take (i + 1)) ++ flt (gs.drop (i + 1)) := by
                unfold flt
                rw [← List.flatten_append, ← List.map_append, List.take_append_drop]
              have hl2 : (flt (gs.take i)).length + p.2 ≤ 60000 := by
                rw [hst, ht] at hfl
                simp only [List.length_append, List.length_replicate] at hfl
                omega
              walk_at "go"
              rw [rep_one]
              walk_at "go"
              refine hG _ ?_
              rw [ht, List.map_append, List.map_replicate]
              rfl
            · rintro e3 rfl
              rw [List.length_map, List.take_length]
              walk_at "go"
              refine k (flt gs) (fun c hc => ?_) hfl ?_
              · obtain ⟨p, hp, rfl⟩ := flt_mem hc
                exact (hg p hp).1
              · have er := rl_flt (gs := gs) (fun p hp => (hg p hp).2.1) hadj
                have ne : flt gs ≠ [] := by
                  intro z
                  rw [z] at er
                  rw [ep, ← er] at hn
                  exact hn rfl
                rw [jn_S ne, er, ← ep, hj]
theorem kept_ok {T : List Nat} {Q : Sl → List Sl → Prop} (hT : T.length ≤ 600) (hs : Short T) (k : Q (.v (.bool true)) [.v (.str (SX.S T))]) : sp_law_kept [.v (.str (SX.S T))] Q := by
  unfold sp_law_kept
  walk_at "go"
  refine read_x hT hs (fun cs hb hl hj => ?_) ?_
  · walk_at "st"
    refine show_ok hb hl ?_
    walk_at "st"
    rw [hj, eqv_ss]
    exact k
  · refine ⟨rfl, ?_⟩
    walk_at "st"
    rw [eqv_ss]
    exact k


/-- the rows behind the first command, behind the second, .. -/
def stg : List Int → List (Int × Int) → List (List Int)
  | _, [] => []
  | r, c :: cs => stretch r c :: stg (stretch r c) cs
theorem stg_len : ∀ (cs : List (Int × Int)) (r : List Int), (stg r cs).length = cs.length
  | [], _ => rfl
  | c :: cs, r => by show (stg (stretch r c) cs).length + 1 = _; rw [stg_len cs]; rfl
theorem stages_ok {n : Nat} {row : List Int} {cs : List (Int × Int)} (hl : row.length = n) (h0 : 1 ≤ n) (hn : n ≤ 1000) (h : ∀ c ∈ cs, Fit n c) : sp_stages [.v (li row), .v (lc cs)] (li row :: (stg row cs).map li) := by
  unfold sp_stages
  walk_at "go"
  refine check_run_ok hl h0 h ?_
  walk_at "st"
  refine gForL_inv (fun i ds e => ds = (stg (runs row (cs.take i)) (cs.drop i)).map li ∧ ∃ x a, e = [.v (li row), .v (lc cs), x, a] ∧ (x = .m (.ol ((runs row (cs.take i)).map .int)) ∨ x = .v (li (runs row (cs.take i))))) ⟨rfl, _, _, rfl, .inr rfl⟩ ?_ ?_
  · rintro i d ds e R hd ⟨rfl, x, a, rfl, hx⟩ hR
    obtain ⟨c, hc, rfl⟩ := map_get hd
    have hi := (List.getElem?_eq_some_iff.mp hc).1
    have ec : cs.drop i = c :: cs.drop (i + 1) := by
      rw [List.drop_eq_getElem_cons hi]
      rw [(List.getElem?_eq_some_iff.mp hc).2]
    rw [ec]
    have er : runs row (cs.take (i + 1)) = stretch (runs row (cs.take i)) c := (runs_step hc).symm
    have lr : (runs row (cs.take i)).length ≤ 1000 := by rw [runs_len (fit_take h i)]; omega
    rcases hx with rfl | rfl
    all_goals
      walk_at "go"
      refine after_command_ok lr (h c (List.mem_of_getElem? hc)) ?_
      walk_at "st"
      refine hR _ _ ⟨?_, _, _, rfl, .inr ?_⟩
      · rw [er]
      · rw [er]
        rfl
  · rintro ds e ⟨rfl, x, a, rfl, _⟩
    rw [List.length_map, List.drop_length]
    rfl
/-! spoilt texts -/
theorem cutS_to {l : List Nat} {i : Int} (h : 0 ≤ i) : L2.cutS (SX.S l) none (some i) = SX.S (l.take i.toNat) := by
  rw [C8.cutS_slice]
  exact SX.slice_to h
theorem cutS_from {l : List Nat} {i : Int} (h : 0 ≤ i) : L2.cutS (SX.S l) (some i) none = SX.S (l.drop i.toNat) := by
  rw [C8.cutS_slice]
  exact SX.slice_from h
theorem spoilt_ok {s : Sl} {n : Nat} {l : List Nat} {Q : Sl → List Sl → Prop} (hs : Rg s n) (hn : n ≤ 2 ^ 30) (hl : l.length ≤ 20000) (k : ∀ (T : List Nat) s', T.length ≤ l.length + 1 → Rg s' (n + 4) → Q (.v (.str (SX.S T))) [s', .v (.str (SX.S l))]) : sp_law_spoilt [s, .v (.str (SX.S l))] Q := by
  unfold sp_law_spoilt
  obtain ⟨c0, rfl⟩ := hs.m
  have hsl : (SX.S l).length = l.length := SX.S_len _
  have hll : (SX.S l).length ≤ sizeLine := le_line (by omega)
  walk_at "go"
  refine draw_ok hs (by omega) (by omega) (by omega) fun r1 s_r1 r10 r11 g1 => ?_
  obtain ⟨c_r1, rfl⟩ := g1.m
  walk_at "st"
  refine draw_ok g1 (by omega) (by omega) (by omega) fun r2 s_r2 r20 r21 g2 => ?_
  obtain ⟨c_r2, rfl⟩ := g2.m
  walk_at "st"
  have hten : (PySem.Str.ofString "0-* 12none").cps.toList.length = 10 := by decide
  obtain ⟨c, hc⟩ : ∃ c, atI (PySem.Str.ofString "0-* 12none").cps.toList r2 = some c := by
    rw [atI_nat r20 (by rw [hten]; exact r21)]
    exact ⟨_, List.getElem?_eq_getElem (by rw [hten]; omega)⟩
  refine ⟨c, hc, ?_⟩
  walk_at "st"
  refine draw_ok g2 (by omega) (by omega) (by omega) fun r3 s_r3 r30 r31 g3 => ?_
  obtain ⟨c_r3, rfl⟩ := g3.m
  walk_at "st"
  obtain ⟨sg, hsg, hgl⟩ : ∃ sg : List Nat, Txt.mul ⟨#[c]⟩ r3 = SX.S sg ∧ sg.length ≤ 1 := by
    have : r3 = 0 ∨ r3 = 1 := by omega
    rcases this with rfl | rfl
    · exact ⟨[], rfl, by simp⟩
    · exact ⟨[c], rfl, by simp⟩
  have e0 : PySem.Str.ofString "" = SX.S [] := by decide
  rw [hsg, e0]
  refine sel_by (fun _ => ?_) (fun _ => ?_)
  · walk_at "go"
    rw [cutS_to (by omega)]
    refine ⟨sz (by simp only [List.length_take, List.length_nil]; omega), ?_⟩
    rw [SX.S_cat]
    walk_at "go"
    refine draw_ok g3 (by omega) (by omega) (by omega) fun r4 s_r4 r40 r41 g4 => ?_
    obtain ⟨c_r4, rfl⟩ := g4.m
    walk_at "st"
    generalize (!PyData.eqv (.str (SX.S [])) (.str (PySem.Str.ofString " "))) = b
    have hx : 0 ≤ r1 + r4 * (if b = true then (1 : Int) else 0) ∧ r1 ≤ r1 + r4 * (if b = true then (1 : Int) else 0) := by
      cases b <;> simp <;> omega
    generalize r1 + r4 * (if b = true then (1 : Int) else 0) = x at hx ⊢
    rw [cutS_from hx.1]
    refine ⟨sz (by simp only [List.length_take, List.length_drop, List.length_append, List.length_nil]; omega), ?_⟩
    rw [SX.S_cat]
    exact k _ _ (by simp only [List.length_take, List.length_drop, List.length_append, List.length_nil]; omega) g4
  · walk_at "go"
    rw [cutS_to (by omega)]
    refine ⟨sz (by simp only [List.length_take, List.length_nil]; omega), ?_⟩
    rw [SX.S_cat]
    walk_at "go"
    refine draw_ok g3 (by omega) (by omega) (by omega) fun r4 s_r4 r40 r41 g4 => ?_
    obtain ⟨c_r4, rfl⟩ := g4.m
    walk_at "st"
    generalize (!PyData.eqv (.str (SX.S sg)) (.str (PySem.Str.ofString " "))) = b
    have hx : 0 ≤ r1 + r4 * (if b = true then (1 : Int) else 0) ∧ r1 ≤ r1 + r4 * (if b = true then (1 : Int) else 0) := by
      cases b <;> simp <;> omega
    generalize r1 + r4 * (if b = true then (1 : Int) else 0) = x at hx ⊢
    rw [cutS_from hx.1]
    refine ⟨sz (by simp only [List.length_take, List.length_drop, List.length_append, List.length_nil]; omega), ?_⟩
    rw [SX.S_cat]
    exact k _ _ (by simp only [List.length_take, List.length_drop, List.length_append, List.length_nil]; omega) g4
theorem short_ok {T : List Nat} {Q : Sl → List Sl → Prop} (hT : T.length ≤ 600) (k : ∀ b, (b = true → Short T) → Q (.v (.bool b)) [.v (.str (SX.S T))]) : sp_law_is_short [.v (.str (SX.S T))] Q := by
  unfold sp_law_is_short
  walk_at "go"
  refine ⟨⟨by decide, ?_⟩, ?_⟩
  · rw [SX.S_len]
    exact le_line (by omega)
  walk_at "go"
  have hl := spl_len (s := 32) T []
  have hsh := spl_short (s := 32) T []
  have hk : Short T ↔ ∀ p ∈ TL.spl [32] 0 [] T, 42 ∈ p → ∀ q, (TL.spl [42] 0 [] p).getLast? = some q → q.length ≤ 2 := Iff.rfl
  rw [split_blank, List.map_map]
  generalize TL.spl [32] 0 [] T = ps at hl hsh hk
  refine compK_w ps (fun p => PyData.str (SX.S p)) (fun p => decide (42 ∈ p) && decide (2 < ((TL.spl [42] 0 [] p).getLast?.getD []).length)) (fun _ => .int 1) (le_line (by omega)) ?_ ?_
  · intro p hp A B hA hB
    have hpl := hsh p hp
    rw [List.length_nil] at hpl
    have hne := spl_ne (s := 42) p []
    have hsp := spl_short (s := 42) p []
    walk_at "go"
    show sel (decide (42 ∈ p)) _ _
    by_cases h42 : 42 ∈ p
    · refine sel_t (decide_eq_true h42) ?_
      walk_at "go"
      refine ⟨⟨by decide, ?_⟩, ?_⟩
      · rw [SX.S_len]
        exact le_line (by omega)
      walk_at "go"
      rw [split_star, List.map_map]
      obtain ⟨ini, q, hq⟩ : ∃ ini q, TL.spl [42] 0 [] p = ini ++ [q] := by
        rcases List.eq_nil_or_concat (TL.spl [42] 0 [] p) with h | ⟨ini, q, h⟩
        · exact absurd h hne
        · exact ⟨ini, q, by rw [h, List.concat_eq_append]⟩
      have hq2 := hsp q (by rw [hq]; simp)
      rw [List.length_nil] at hq2
      rw [hq, List.getLast?_concat] at hA hB
      rw [hq, List.map_append]
      refine ⟨_, atI_last, ?_⟩
      walk_at "go"
      refine ⟨by show (SX.S q).length ≤ _; rw [SX.S_len]; exact le_line (by omega), ?_⟩
      walk_at "go"
      have hqs : (SX.S q).length = q.length := SX.S_len _
      by_cases h2 : 2 < q.length
      · refine sel_t (decide_eq_true (by rw [hqs]; omega)) ?_
        walk_at "go"
        exact hB (by rw [decide_eq_true h42, Bool.true_and]; exact decide_eq_true h2) _ rfl rfl
      · refine sel_f (decide_eq_false (by rw [hqs]; omega)) ?_
        exact hA (by rw [decide_eq_true h42, Bool.true_and]; exact decide_eq_false h2) _ rfl rfl
    · refine sel_f (decide_eq_false h42) ?_
      walk_at "go"
      exact hA (by rw [decide_eq_false h42, Bool.false_and]) _ rfl rfl
  · intro e he
    walk_at "go"
    have hz : ((ps.filter fun p => decide (42 ∈ p) && decide (2 < ((TL.spl [42] 0 [] p).getLast?.getD []).length)).map fun _ => PyData.int 1) = ((ps.filter fun p => decide (42 ∈ p) && decide (2 < ((TL.spl [42] 0 [] p).getLast?.getD []).length)).map fun _ => (1 : Int)).map .int := by
      rw [List.map_map]
      rfl
    rw [hz]
    refine ⟨⟨okd_li _, rfl⟩, ?_⟩
    walk_at "go"
    rw [eqv_li_nil, he]
    refine k _ fun hb => hk.mpr fun p hp h42 q hq => ?_
    have hnil := of_decide_eq_true hb
    rw [List.map_eq_nil_iff, List.filter_eq_nil_iff] at hnil
    have := hnil p hp
    rw [decide_eq_true h42, Bool.true_and, hq] at this
    have z : ¬ 2 < q.length := fun y => this (decide_eq_true y)
    omega


theorem rd_lc {cs : List (Int × Int)} (hc : ∀ c ∈ cs, Big c) (hl : cs.length ≤ 3000) : PyData.showable (lc cs) = true ∧ PyData.hasDict (lc cs) = false ∧ PyData.depth (lc cs) ≤ 60 ∧ (PyData.shown (lc cs)).length ≤ sizeLine := by
  have z := PL.RDA.map (f := ct) (l := cs) (k := 1) (B := 2) fun c h => by
    obtain ⟨h1, h2, h3⟩ := hc c h
    exact (PL.RD.tup (PL.RDA.cons (rd_bigI (k := 0) (B := 0) (by omega) (by omega)) (PL.RDA.cons (rd_bigI (k := 0) (B := 0) (by omega) h3) (PL.RDA.nil (k := 0) (B := 0))))).mono (Nat.le_refl _) (by decide)
  exact PL.RD.fin (PL.RD.list z) (by decide) (by omega)
theorem rl_flat : ∀ (n : Nat) (cs : List (Int × Int)), cs.length = n → flt (rl cs) = cs ∧ (∀ p ∈ rl cs, 1 ≤ p.2) ∧ ∀ (i : Nat) p q, (rl cs)[i]? = some p → (rl cs)[i + 1]? = some q → p.1 ≠ q.1 := by
  intro n
  induction n with
  | zero =>
    intro cs h
    rw [List.length_eq_zero_iff.mp h]
    exact ⟨rfl, fun p hp => (by cases hp), fun i p q hp => (by rw [rl_nil] at hp; simp at hp)⟩
  | succ n ih =>
    intro cs h
    rcases List.eq_nil_or_concat cs with e | ⟨ys, d, e⟩
    · rw [e] at h
      cases h
    · rw [List.concat_eq_append] at e
      subst e
      have hy : ys.length = n := by rw [List.length_append] at h; simp at h; exact h
      obtain ⟨a1, a2, a3⟩ := ih ys hy
      rw [rl_snoc]
      rcases List.eq_nil_or_concat (rl ys) with e | ⟨ini, p, e⟩
      · rw [e, stp_nil]
        rw [rl_eq_nil e]
        refine ⟨rfl, fun p hp => ?_, fun i p q hp hq => ?_⟩
        · rw [List.mem_singleton.mp hp]
          exact Nat.le_refl 1
        · cases hq
      · rw [List.concat_eq_append] at e
        obtain ⟨f, m⟩ := p
        rw [e] at a1 a2 a3
        have hm := a2 (f, m) (by simp)
        rw [e]
        by_cases q : f = d
        · subst q
          rw [stp_same]
          refine ⟨?_, fun p hp => ?_, fun i p q hp hq => ?_⟩
          · rw [flt_snoc, List.replicate_succ', ← List.append_assoc, ← flt_snoc, a1]
          · rcases List.mem_append.mp hp with hp | hp
            · exact a2 p (List.mem_append_left _ hp)
            · rw [List.mem_singleton.mp hp]
              simp
          · rcases Nat.lt_or_ge (i + 1) ini.length with hi | hi
            · rw [List.getElem?_append_left (by omega)] at hp
              rw [List.getElem?_append_left hi] at hq
              exact a3 i p q (by rw [List.getElem?_append_left (by omega)]; exact hp) (by rw [List.getElem?_append_left hi]; exact hq)
            · rw [List.getElem?_append_right hi] at hq
              have h0 : i + 1 - ini.length = 0 := by
                cases h9 : i + 1 - ini.length with
                | zero => rfl
                | succ z => rw [h9] at hq; cases hq
              rw [h0] at hq
              cases hq
              rw [List.getElem?_append_left (by omega)] at hp
              exact a3 i p (f, m) (by rw [List.getElem?_append_left (by omega)]; exact hp) (by rw [List.getElem?_append_right hi, h0]; rfl)
        · rw [stp_diff q]
          refine ⟨?_, fun p hp => ?_, fun i p r hp hr => ?_⟩
          · rw [flt_snoc, a1]
            rfl
          · rcases List.mem_append.mp hp with hp | hp
            · exact a2 p hp
            · rw [List.mem_singleton.mp hp]
              exact Nat.le_refl 1
          · rcases Nat.lt_or_ge (i + 1) (ini ++ [(f, m)]).length with hi | hi
            · rw [List.getElem?_append_left (by omega)] at hp
              rw [List.getElem?_append_left hi] at hr
              exact a3 i p r hp hr
            · rw [List.getElem?_append_right hi] at hr
              have h0 : i + 1 - (ini ++ [(f, m)]).length = 0 := by
                cases h9 : i + 1 - (ini ++ [(f, m)]).length with
                | zero => rfl
                | succ z => rw [h9] at hr; cases hr
              rw [h0] at hr
              cases hr
              have hl : (ini ++ [(f, m)]).length = ini.length + 1 := by simp
              rw [List.getElem?_append_left (by omega), List.getElem?_append_right (by omega), show i - ini.length = 0 by omega] at hp
              cases hp
              exact q
theorem gs_rl {cs : List (Int × Int)} (ne : cs ≠ []) (hb : ∀ c ∈ cs, Big c) (hl : cs.length ≤ 300) : Gs (rl cs) := by
  obtain ⟨a1, a2, a3⟩ := rl_flat _ cs rfl
  obtain ⟨b1, b2, b3⟩ := rl_len cs
  exact ⟨fun z => ne (rl_eq_nil z), fun p hp => ⟨hb _ (b3 p hp), a2 p hp, by have := (b2 p hp).1; omega⟩, a3, by omega, by rw [a1]; omega⟩
theorem back_ok {cs : List (Int × Int)} {Q : Sl → List Sl → Prop} (hb : ∀ c ∈ cs, Big c) (hl : cs.length ≤ 300) (k : Q (.m (.ol (cs.map ct))) [.v (.str (jn cs))]) : noX sp_read_script [.v (.str (jn cs))] Q := by
  by_cases h : cs = []
  · subst h
    have e : jn [] = PySem.Str.ofString "none" := rfl
    rw [e] at k ⊢
    unfold noX sp_read_script
    walk_at "go"
    exact k
  · have hG := gs_rl h hb hl
    rw [jn_S h] at k ⊢
    refine read_ok hG ?_
    rw [(rl_flat _ cs rfl).1]
    exact k
/-! different scripts have different texts -/
theorem tcL_inj {c d : Int × Int} (hc : Big c) (hd : Big d) (e : tcL c = tcL d) : c = d := by
  have f : ∀ c : Int × Int, TL.spl [45] 0 [] (tcL c) = if c.1 = c.2 then [nL c.1] else [nL c.1, nL c.2] := by
    intro c
    have d1 : 45 ∉ nL c.1 := TL.numL_free (.inl (by decide))
    have d2 : 45 ∉ nL c.2 := TL.numL_free (.inl (by decide))
    unfold tcL
    split
    · exact spl_one d1
    · exact spl_two d1 d2
  have z := congrArg (TL.spl [45] 0 []) e
  rw [f c, f d] at z
  obtain ⟨a, b⟩ := c
  obtain ⟨a', b'⟩ := d
  obtain ⟨h1, h2, _⟩ := hc
  obtain ⟨h3, h4, _⟩ := hd
  simp only at z h1 h2 h3 h4
  have num : ∀ {x y : Int}, 1 ≤ x → 1 ≤ y → nL x = nL y → x = y := fun {x y} p q r => by
    have := TL.numL_inj r
    omega
  by_cases p : a = b
  · by_cases q : a' = b'
    · rw [if_pos p, if_pos q] at z
      have := num h1 h3 (List.cons.inj z).1
      rw [← p, ← q, this]
    · rw [if_pos p, if_neg q] at z
      cases (List.cons.inj z).2
  · by_cases q : a' = b'
    · rw [if_neg p, if_pos q] at z
      cases (List.cons.inj z).2
    · rw [if_neg p, if_neg q] at z
      have z1 := num h1 h3 (List.cons.inj z).1
      have z2 := num (by omega) (by omega) (List.cons.inj (List.cons.inj z).2).1
      rw [z1, z2]
theorem wL_inj {p q : (Int × Int) × Nat} (hp : Big p.1) (hq : Big q.1) (mp : 1 ≤ p.2) (mq : 1 ≤ q.2) (e : wL p = wL q) : p = q := by
  have f : ∀ p : (Int × Int) × Nat, TL.spl [42] 0 [] (wL p) = if 1 < p.2 then [tcL p.1, TL.numL p.2] else [tcL p.1] := by
    intro p
    have d1 : 42 ∉ tcL p.1 := fun z => by rcases tcL_codes p.1 42 z with z | z <;> omega
    have d2 : 42 ∉ TL.numL p.2 := TL.numL_free (.inl (by decide))
    unfold wL
    split
    · exact spl_two d1 d2
    · rw [List.append_nil]
      exact spl_one d1
  have z := congrArg (TL.spl [42] 0 []) e
  rw [f p, f q] at z
  obtain ⟨c, m⟩ := p
  obtain ⟨d, k⟩ := q
  simp only at z hp hq mp mq
  by_cases a : 1 < m
  · by_cases b : 1 < k
    · rw [if_pos a, if_pos b] at z
      rw [tcL_inj hp hq (List.cons.inj z).1, TL.numL_inj (List.cons.inj (List.cons.inj z).2).1]
    · rw [if_pos a, if_neg b] at z
      cases (List.cons.inj z).2
  · by_cases b : 1 < k
    · rw [if_neg a, if_pos b] at z
      cases (List.cons.inj z).2
    · rw [if_neg a, if_neg b] at z
      rw [tcL_inj hp hq (List.cons.inj z).1, show m = k by omega]
theorem map_inj_on {α β : Type} {f : α → β} : ∀ {l m : List α}, (∀ x ∈ l, ∀ y ∈ m, f x = f y → x = y) → l.map f = m.map f → l = m
  | [], [], _, _ => rfl
  | [], y :: m, _, e => by cases e
  | x :: l, [], _, e => by cases e
  | x :: l, y :: m, h, e => by
    have e' := List.cons.inj e
    rw [h x List.mem_cons_self y List.mem_cons_self e'.1, map_inj_on (fun a ha b hb => h a (List.mem_cons_of_mem _ ha) b (List.mem_cons_of_mem _ hb)) e'.2]
theorem none_not {cs : List (Int × Int)} (h : cs ≠ []) : jn cs ≠ PySem.Str.ofString "none" := by
  have e0 : PySem.Str.ofString "none" = SX.S [110, 111, 110, 101] := by decide
  rw [jn_S h, e0]
  intro z
  have z2 := SX.S_inj z
  have z3 : 110 ∈ TL.joinL [32] ((rl cs).map wL) := by rw [z2]; simp
  rcases mem_joinL z3 with z3 | ⟨p, z4, z5⟩
  · omega
  · obtain ⟨q, _, rfl⟩ := List.mem_map.mp z4
    have := wL_codes q 110 z5
    omega
theorem jn_inj {a b : List (Int × Int)} (ha : ∀ c ∈ a, Big c) (hb : ∀ c ∈ b, Big c) : jn a = jn b ↔ a = b := by
  refine ⟨fun e => ?_, fun e => by rw [e]⟩
  have e0 : jn [] = PySem.Str.ofString "none" := rfl
  by_cases h1 : a = []
  · by_cases h2 : b = []
    · rw [h1, h2]
    · rw [h1, e0] at e
      exact absurd e.symm (none_not h2)
  · by_cases h2 : b = []
    · rw [h2, e0] at e
      exact absurd e (none_not h1)
    · rw [jn_S h1, jn_S h2] at e
      have e2 := congrArg (TL.spl [32] 0 []) (SX.S_inj e)
      have sp : ∀ {cs : List (Int × Int)}, cs ≠ [] → TL.spl [32] 0 [] (TL.joinL [32] ((rl cs).map wL)) = (rl cs).map wL := fun {cs} h => TL.spl_join (by
        intro z
        rw [List.map_eq_nil_iff] at z
        exact h (rl_eq_nil z)) fun p hp z => by
        obtain ⟨q, _, rfl⟩ := List.mem_map.mp hp
        have := wL_codes q 32 z
        omega
      rw [sp h1, sp h2] at e2
      have e3 : rl a = rl b := map_inj_on (fun x hx y hy e => wL_inj (ha _ ((rl_len a).2.2 x hx)) (hb _ ((rl_len b).2.2 y hy)) ((rl_flat _ a rfl).2.1 x hx) ((rl_flat _ b rfl).2.1 y hy) e) e2
      rw [← (rl_flat _ a rfl).1, e3, (rl_flat _ b rfl).1]
def shortB (T : List Nat) : Bool := (TL.spl [32] 0 [] T).all fun p => decide (42 ∉ p) || decide (((TL.spl [42] 0 [] p).getLast?.getD []).length ≤ 2)
theorem short_of {T : List Nat} (h : shortB T = true) : Short T := by
  intro p hp h42 q hq
  have := List.all_eq_true.mp h p hp
  rw [hq, decide_eq_false (show ¬ 42 ∉ p from fun z => z h42), Bool.false_or] at this
  exact of_decide_eq_true this


theorem numL_len2 {n : Nat} (h : n < 100) : (TL.numL n).length ≤ 2 := TL.numL_len (by decide) h
theorem wL_len8 {p : (Int × Int) × Nat} {n : Nat} (hn : n ≤ 20) (h : Fit n p.1) (hm : p.2 < 100) : (wL p).length ≤ 8 := by
  obtain ⟨h1, h2, h3⟩ := h
  have a : (nL p.1.1).length ≤ 2 := numL_len2 (by omega)
  have b : (nL p.1.2).length ≤ 2 := numL_len2 (by omega)
  have c := numL_len2 hm
  have t : (tcL p.1).length ≤ 5 := by
    unfold tcL
    split
    · omega
    · rw [List.length_append, List.length_cons]
      omega
  unfold wL
  rw [List.length_append]
  split
  · rw [List.length_cons]
    omega
  · rw [List.length_nil]
    omega
theorem jn_len20 {cs : List (Int × Int)} {n : Nat} (hn : n ≤ 20) (h : ∀ c ∈ cs, Fit n c) (hl : cs.length ≤ 60) : (jn cs).length ≤ 590 := by
  unfold jn
  split
  · decide
  · rw [TL.join_eq]
    refine Nat.le_trans (StrLaws.join_length_le _ _) ?_
    obtain ⟨a1, a2, a3⟩ := rl_len cs
    have e1 : (PySem.Str.ofString " ").length = 1 := by decide
    rw [e1, List.length_map, List.map_map]
    have z : ∀ l : List ((Int × Int) × Nat), (∀ p ∈ l, (wL p).length ≤ 8) → (l.map ((fun x : Str => x.length) ∘ fun p => SX.S (wL p))).sum ≤ 8 * l.length := by
      intro l
      induction l with
      | nil => intro _; exact Nat.le_refl _
      | cons p l ih =>
        intro h
        have i1 := h p List.mem_cons_self
        have i2 := ih fun q hq => h q (List.mem_cons_of_mem _ hq)
        rw [List.map_cons, List.sum_cons, List.length_cons]
        show (SX.S (wL p)).length + _ ≤ _
        rw [SX.S_len]
        omega
    have := z (rl cs) fun p hp => wL_len8 hn (h _ (a3 p hp)) (by have := (a2 p hp).1; omega)
    omega
theorem fit_big {wd : Nat} {c : Int × Int} (hw : wd ≤ 1000) (h : Fit wd c) : Big c := by
  obtain ⟨h1, h2, h3⟩ := h
  exact ⟨h1, h2, by omega⟩
theorem law_true (ns : List Int) (hn : ns.length ≤ 63) : sp_law [.m (.scr ns)] fun r _ => r = .v (.bool true) := by
  unfold sp_law
  walk_at "go"
  refine rng_ok fun s0 g0 => ?_
  obtain ⟨c0, rfl⟩ := g0.m
  walk_at "st"
  refine forL_inv (fun i env => ∃ s, env = [.m (.scr ns), s, .un, .un, .un, .un, .un, .un, .un, .un, .un, .un, .un] ∧ Rg s (1000 * i)) ⟨_, rfl, g0⟩ ?_ ?_
  · rintro i d e G hd ⟨s, rfl, g⟩ hG
    obtain ⟨hi, rfl⟩ := rangeD_at hd
    have hi2 : i < 100 := by omega
    obtain ⟨c1, rfl⟩ := g.m
    walk_at "go"
    refine draw_ok g (by omega) (by omega) (by omega) fun r1 s_r1 r10 r11 g1 => ?_
    obtain ⟨c_r1, rfl⟩ := g1.m
    walk_at "st"
    obtain ⟨lim, hm, hm1, hm2⟩ : ∃ m : Int, atI [PyData.int 5, .int 20] r1 = some (.int m) ∧ 0 < m ∧ m ≤ 20 := by
      have : r1 = 0 ∨ r1 = 1 := by omega
      rcases this with rfl | rfl
      · exact ⟨5, atI_0, by omega, by omega⟩
      · exact ⟨20, atI_1, by omega, by omega⟩
    refine ⟨_, hm, ?_⟩
    walk_at "st"
    refine draw_ok g1 (by omega) (by omega) (by omega) fun r2 s_r2 r20 r21 g2 => ?_
    obtain ⟨c_r2, rfl⟩ := g2.m
    walk_at "st"
    obtain ⟨wd, hwd⟩ : ∃ wd : Nat, 1 + r2 = wd := ⟨(1 + r2).toNat, by omega⟩
    rw [hwd]
    walk_at "st"
    refine draw_ok g2 (by omega) (by omega) (by omega) fun r3 s_r3 r30 r31 g3 => ?_
    obtain ⟨c_r3, rfl⟩ := g3.m
    walk_at "st"
    obtain ⟨most, hk, hk2⟩ : ∃ m : Nat, atI [PyData.int 4, .int 60] r3 = some (.int m) ∧ m ≤ 60 := by
      have : r3 = 0 ∨ r3 = 1 := by omega
      rcases this with rfl | rfl
      · exact ⟨4, atI_0, by omega⟩
      · exact ⟨60, atI_1, by omega⟩
    refine ⟨_, hk, ?_⟩
    walk_at "st"
    refine commands_ok (wd := wd) (most := most) g3 (by omega) (by omega) (by omega) (by omega) fun cs s4 l1 l2 g4 => ?_
    obtain ⟨c4, rfl⟩ := g4.m
    walk_at "st"
    refine commands_ok (wd := wd) (most := 2) g4 (by omega) (by omega) (by omega) (by omega) fun ds s5 m1 m2 g5 => ?_
    obtain ⟨c5, rfl⟩ := g5.m
    have g5 := g5.mono (m := 1000 * i + 500) (by omega)
    have hcs : ∀ c ∈ cs, Big c := fun c hc => fit_big (by omega) (l2 c hc)
    have hds : ∀ c ∈ ds, Big c := fun c hc => fit_big (by omega) (m2 c hc)
    walk_at "st"
    refine show_ok hcs (by omega) ?_
    walk_at "st"
    refine back_ok hcs (by omega) ?_
    walk_at "st"
    refine ⟨rd_lc hcs (by omega), ?_⟩
    walk_at "go"
    refine ⟨rd_lc hcs (by omega), ?_⟩
    walk_at "go"
    rw [eqv_ss]
    walk_at "st"
    refine show_ok hds (by omega) ?_
    walk_at "st"
    rw [eqv_str, eqv_lc, eqv_bool]
    refine sel_f (by simp [jn_inj hds hcs]) ?_
    obtain ⟨l, hl, ll⟩ : ∃ l : List Nat, jn cs = SX.S l ∧ l.length ≤ 590 := by
      have := jn_len20 (by omega) l2 (by omega)
      rw [← SX.S_tl (jn cs), SX.S_len] at this
      exact ⟨_, (SX.S_tl (jn cs)).symm, this⟩
    rw [hl]
    walk_at "st"
    refine spoilt_ok g5 (by omega) (by omega) fun T s6 t1 g6 => ?_
    obtain ⟨c6, rfl⟩ := g6.m
    walk_at "st"
    have hT6 : T.length ≤ 600 := by omega
    refine short_ok hT6 fun b hb => ?_
    walk_at "st"
    refine (fun (rest : ?G) => ?main) ?restp
    case main =>
      cases b with
      | true =>
        walk_at "st"
        refine kept_ok hT6 (hb rfl) ?_
        walk_at "st"
        exact rest
      | false =>
        walk_at "st"
        exact rest
    case restp =>
      refine values_ok g6 (by omega) (by omega) fun p r s7 p1 p2 p3 g7 => ?_
      obtain ⟨c7, rfl⟩ := g7.m
      refine (fun (rest2 : ?G2) => ?main2) ?rest2p
      case main2 =>
        rcases p3 with rfl | rfl
        · walk_at "st"
          exact rest2
        · walk_at "st"
          exact rest2
      case rest2p =>
        refine run_ok (n := wd) p1 (by omega) (by omega) l2 ?_
        walk_at "st"
        refine run_ok (n := wd) p1 (by omega) (by omega) l2 ?_
        walk_at "st"
        rw [eqv_li, decide_eq_true rfl]
        walk_at "st"
        have hstg : (li p :: (stg p cs).map li).length ≤ 100000 := by
          rw [List.length_cons, List.length_map, stg_len]
          omega
        have hll : PyData.list (li p :: (stg p cs).map li) = PyData.list ((p :: stg p cs).map fun x => .list (x.map .int)) := rfl
        refine ⟨_, stages_ok p1 (by omega) (by omega) l2, hstg, ?_⟩
        walk_at "st"
        refine ⟨_, stages_ok p1 (by omega) (by omega) l2, hstg, ?_⟩
        walk_at "st"
        rw [hll]
        refine ⟨⟨okd_ll _, okd_ll _⟩, ?_⟩
        walk_at "st"
        rw [eqv_ll, decide_eq_true rfl]
        walk_at "st"
        refine effect_ok (by omega) (by omega) l2 ?_
        walk_at "st"
        refine effect_ok (by omega) (by omega) l2 ?_
        walk_at "st"
        rw [eqv_li, decide_eq_true rfl]
        walk_at "st"
        refine same_scripts_ok (by omega) (by omega) l2 l2 ?_
        walk_at "st"
        have ea : Arr wd (runs (falls wd) cs) := (runs_perm l2).trans (falls_perm wd)
        obtain ⟨tf, te, _⟩ := tr_all (falls_len wd) l2
        have tl : (tr (falls wd) cs).length ≤ 60 := by
          have := acts_len (falls wd) cs
          unfold tr
          rw [List.length_map]
          omega
        refine trimmed_ok (by omega) (by omega) (by omega) l2 ?_
        walk_at "st"
        refine exchanges_ok (by omega) (by omega) ea fun xs x1 x2 x3 => ?_
        walk_at "st"
        have xl : xs.length ≤ 300 := by
          have q := half (n := wd)
          have q2 : (wd : Int) * ((wd : Int) - 1) ≤ 20 * 20 := Int.mul_le_mul (by omega) (by omega) (by omega) (by decide)
          omega
        have hboth : ∀ x ∈ [tr (falls wd) cs, xs], (∀ c ∈ x, Fit wd c) ∧ x.length ≤ 300 ∧ runs (falls wd) x = runs (falls wd) cs := by
          intro x hx
          rcases List.mem_cons.mp hx with h | h
          · rw [h]
            exact ⟨tf, by omega, te⟩
          · rw [List.mem_singleton.mp h]
            exact ⟨x1.fit, xl, x2⟩
        show forL _ _ _ ([tr (falls wd) cs, xs].map lc) _
        refine forL_inv (fun j env => env = [.m (.scr ns), .m c7, .un, .v (.int wd), .v (lc cs), .un, .un, .un, .un, .un, .v (li (runs (falls wd) cs)), .un, .un]) rfl ?_ ?_
        · rintro j d e G2 hd2 rfl hG2
          obtain ⟨x, hx, rfl⟩ := map_get hd2
          obtain ⟨y1, y2, y3⟩ := hboth x (List.mem_of_getElem? hx)
          have yb : ∀ c ∈ x, Big c := fun c hc => fit_big (by omega) (y1 c hc)
          walk_at "go"
          refine show_ok yb (by omega) ?_
          walk_at "st"
          refine back_ok yb y2 ?_
          walk_at "st"
          rw [eqv_lc, decide_eq_true rfl]
          walk_at "st"
          refine effect_ok (by omega) (by omega) y1 ?_
          walk_at "st"
          rw [y3, eqv_li, decide_eq_true rfl]
          walk_at "st"
          exact hG2 _ rfl
        · rintro e rfl
          walk_at "go"
          exact hG _ ⟨_, rfl, g7.mono (by omega)⟩
  · rintro e ⟨s, rfl, g⟩
    obtain ⟨c1, rfl⟩ := g.m
    have e1 : PySem.Str.ofString "none" = SX.S [110, 111, 110, 101] := by decide
    have e2 : PySem.Str.ofString "1*2 3" = SX.S [49, 42, 50, 32, 51] := by decide
    walk_at "go"
    rw [e1]
    refine kept_ok (by simp) (short_of (by decide +kernel)) ?_
    walk_at "st"
    rw [e2]
    refine kept_ok (by simp) (short_of (by decide +kernel)) ?_
    walk_at "st"
    refine back_ok (cs := []) (by simp) (by simp) ?_
    walk_at "st"
    rw [eqv_lc_nil, decide_eq_true rfl]


end K52
namespace K52
open PySem PySem.Spec PyProof.Rows L2 PL

def top (i : Nat) : Stmt := PySem.Challenge.pw_sortstretches_k52_whole_texts_and_script.main.body.getD i (.Pass ⟨0, 0, 0, 0⟩)
abbrev s_command_text : Stmt := top 11
abbrev s_show_script : Stmt := top 12
abbrev s_number_in : Stmt := top 16
abbrev s_command_in : Stmt := top 17
abbrev s_group_in : Stmt := top 18
abbrev s_read_script : Stmt := top 19
abbrev s_check_size : Stmt := top 21
abbrev s_check_script : Stmt := top 22
abbrev s_check_arrangement : Stmt := top 23
abbrev s_after_command : Stmt := top 24
abbrev s_after_script : Stmt := top 25
abbrev s_check_run : Stmt := top 26
abbrev s_run : Stmt := top 27
abbrev s_stages : Stmt := top 28
abbrev s_descending : Stmt := top 30
abbrev s_effect_in : Stmt := top 31
abbrev s_effect : Stmt := top 32
abbrev s_check_scripts : Stmt := top 34
abbrev s_same_scripts : Stmt := top 35
abbrev s_turns_of : Stmt := top 36
abbrev s_trimmed : Stmt := top 37
abbrev s_exchanges_in : Stmt := top 38
abbrev s_exchanges : Stmt := top 39
abbrev s_law_rng : Stmt := top 41
abbrev s_law_draw : Stmt := top 42
abbrev s_law_commands : Stmt := top 43
abbrev s_law_arranged : Stmt := top 44
abbrev s_law_values : Stmt := top 45
abbrev s_law_kept : Stmt := top 46
abbrev s_law_spoilt : Stmt := top 47
abbrev s_law_is_short : Stmt := top 48
abbrev s_law : Stmt := top 49
/-- what the top has left -/
structure Tx (P : Program) (K : PySem.W.Frag) (mg : Str → Option Value) where
  a_command_text : Addr
  fd_command_text : FuncData
  F_command_text : Fun K "command_text" "command_text" s_command_text a_command_text fd_command_text
  m_command_text : mg "command_text" = some (.ref a_command_text)
  a_show_script : Addr
  fd_show_script : FuncData
  F_show_script : Fun K "show_script" "show_script" s_show_script a_show_script fd_show_script
  m_show_script : mg "show_script" = some (.ref a_show_script)
  a_number_in : Addr
  fd_number_in : FuncData
  F_number_in : Fun K "number_in" "number_in" s_number_in a_number_in fd_number_in
  m_number_in : mg "number_in" = some (.ref a_number_in)
  a_command_in : Addr
  fd_command_in : FuncData
  F_command_in : Fun K "command_in" "command_in" s_command_in a_command_in fd_command_in
  m_command_in : mg "command_in" = some (.ref a_command_in)
  a_group_in : Addr
  fd_group_in : FuncData
  F_group_in : Fun K "group_in" "group_in" s_group_in a_group_in fd_group_in
  m_group_in : mg "group_in" = some (.ref a_group_in)
  a_read_script : Addr
  fd_read_script : FuncData
  F_read_script : Fun K "read_script" "read_script" s_read_script a_read_script fd_read_script
  m_read_script : mg "read_script" = some (.ref a_read_script)
  a_check_size : Addr
  fd_check_size : FuncData
  F_check_size : Fun K "check_size" "check_size" s_check_size a_check_size fd_check_size
  m_check_size : mg "check_size" = some (.ref a_check_size)
  a_check_script : Addr
  fd_check_script : FuncData
  F_check_script : Fun K "check_script" "check_script" s_check_script a_check_script fd_check_script
  m_check_script : mg "check_script" = some (.ref a_check_script)
  a_check_arrangement : Addr
  fd_check_arrangement : FuncData
  F_check_arrangement : Fun K "check_arrangement" "check_arrangement" s_check_arrangement a_check_arrangement fd_check_arrangement
  m_check_arrangement : mg "check_arrangement" = some (.ref a_check_arrangement)
  a_after_command : Addr
  fd_after_command : FuncData
  F_after_command : Fun K "after_command" "after_command" s_after_command a_after_command fd_after_command
  m_after_command : mg "after_command" = some (.ref a_after_command)
  a_after_script : Addr
  fd_after_script : FuncData
  F_after_script : Fun K "after_script" "after_script" s_after_script a_after_script fd_after_script
  m_after_script : mg "after_script" = some (.ref a_after_script)
  a_check_run : Addr
  fd_check_run : FuncData
  F_check_run : Fun K "check_run" "check_run" s_check_run a_check_run fd_check_run
  m_check_run : mg "check_run" = some (.ref a_check_run)
  a_run : Addr
  fd_run : FuncData
  F_run : Fun K "run" "run" s_run a_run fd_run
  m_run : mg "run" = some (.ref a_run)
  a_stages : Addr
  fd_stages : FuncData
  F_stages : Fun K "stages" "stages" s_stages a_stages fd_stages
  m_stages : mg "stages" = some (.ref a_stages)
  a_descending : Addr
  fd_descending : FuncData
  F_descending : Fun K "descending" "descending" s_descending a_descending fd_descending
  m_descending : mg "descending" = some (.ref a_descending)
  a_effect_in : Addr
  fd_effect_in : FuncData
  F_effect_in : Fun K "effect_in" "effect_in" s_effect_in a_effect_in fd_effect_in
  m_effect_in : mg "effect_in" = some (.ref a_effect_in)
  a_effect : Addr
  fd_effect : FuncData
  F_effect : Fun K "effect" "effect" s_effect a_effect fd_effect
  m_effect : mg "effect" = some (.ref a_effect)
  a_check_scripts : Addr
  fd_check_scripts : FuncData
  F_check_scripts : Fun K "check_scripts" "check_scripts" s_check_scripts a_check_scripts fd_check_scripts
  m_check_scripts : mg "check_scripts" = some (.ref a_check_scripts)
  a_same_scripts : Addr
  fd_same_scripts : FuncData
  F_same_scripts : Fun K "same_scripts" "same_scripts" s_same_scripts a_same_scripts fd_same_scripts
  m_same_scripts : mg "same_scripts" = some (.ref a_same_scripts)
  a_turns_of : Addr
  fd_turns_of : FuncData
  F_turns_of : Fun K "turns_of" "turns_of" s_turns_of a_turns_of fd_turns_of
  m_turns_of : mg "turns_of" = some (.ref a_turns_of)
  a_trimmed : Addr
  fd_trimmed : FuncData
  F_trimmed : Fun K "trimmed" "trimmed" s_trimmed a_trimmed fd_trimmed
  m_trimmed : mg "trimmed" = some (.ref a_trimmed)
  a_exchanges_in : Addr
  fd_exchanges_in : FuncData
  F_exchanges_in : Fun K "exchanges_in" "exchanges_in" s_exchanges_in a_exchanges_in fd_exchanges_in
  m_exchanges_in : mg "exchanges_in" = some (.ref a_exchanges_in)
  a_exchanges : Addr
  fd_exchanges : FuncData
  F_exchanges : Fun K "exchanges" "exchanges" s_exchanges a_exchanges fd_exchanges
  m_exchanges : mg "exchanges" = some (.ref a_exchanges)
  a_law_rng : Addr
  fd_law_rng : FuncData
  F_law_rng : Fun K "_law_rng" "_law_rng" s_law_rng a_law_rng fd_law_rng
  m_law_rng : mg "_law_rng" = some (.ref a_law_rng)
  a_law_draw : Addr
  fd_law_draw : FuncData
  F_law_draw : Fun K "_law_draw" "_law_draw" s_law_draw a_law_draw fd_law_draw
  m_law_draw : mg "_law_draw" = some (.ref a_law_draw)
  a_law_commands : Addr
  fd_law_commands : FuncData
  F_law_commands : Fun K "_law_commands" "_law_commands" s_law_commands a_law_commands fd_law_commands
  m_law_commands : mg "_law_commands" = some (.ref a_law_commands)
  a_law_arranged : Addr
  fd_law_arranged : FuncData
  F_law_arranged : Fun K "_law_arranged" "_law_arranged" s_law_arranged a_law_arranged fd_law_arranged
  m_law_arranged : mg "_law_arranged" = some (.ref a_law_arranged)
  a_law_values : Addr
  fd_law_values : FuncData
  F_law_values : Fun K "_law_values" "_law_values" s_law_values a_law_values fd_law_values
  m_law_values : mg "_law_values" = some (.ref a_law_values)
  a_law_kept : Addr
  fd_law_kept : FuncData
  F_law_kept : Fun K "_law_kept" "_law_kept" s_law_kept a_law_kept fd_law_kept
  m_law_kept : mg "_law_kept" = some (.ref a_law_kept)
  a_law_spoilt : Addr
  fd_law_spoilt : FuncData
  F_law_spoilt : Fun K "_law_spoilt" "_law_spoilt" s_law_spoilt a_law_spoilt fd_law_spoilt
  m_law_spoilt : mg "_law_spoilt" = some (.ref a_law_spoilt)
  a_law_is_short : Addr
  fd_law_is_short : FuncData
  F_law_is_short : Fun K "_law_is_short" "_law_is_short" s_law_is_short a_law_is_short fd_law_is_short
  m_law_is_short : mg "_law_is_short" = some (.ref a_law_is_short)
  a_law : Addr
  fd_law : FuncData
  F_law : Fun K "law" "law" s_law a_law fd_law
  m_law : mg "law" = some (.ref a_law)
  cE_Unreadable : Addr
  mE_Unreadable : mg "Unreadable" = some (.ref cE_Unreadable)
  fE_Unreadable : Addr
  tE_Unreadable : PySem.PLX.ErrTxt P K cE_Unreadable fE_Unreadable
  x_Unreadable_Unreadable : PySem.W.exmOne K (.ref cE_Unreadable) (.ref cE_Unreadable) = some true
  g_DASH : ∃ t, mg "DASH" = some (.str (PySem.Str.ofString "-") t)
  g_EMPTY : ∃ t, mg "EMPTY" = some (.str (PySem.Str.ofString "none") t)
  g_BLANK : ∃ t, mg "BLANK" = some (.str (PySem.Str.ofString " ") t)
  g_STAR : ∃ t, mg "STAR" = some (.str (PySem.Str.ofString "*") t)
  g_MOST_DIGITS : ∃ t, mg "MOST_DIGITS" = some (.int 40 t)
  g_DIGITS : ∃ t, mg "DIGITS" = some (.str (PySem.Str.ofString "0123456789") t)
  n_str : mg "str" = none
  n_enumerate : mg "enumerate" = none
  n_len : mg "len" = none
  n_all : mg "all" = none
  n_int : mg "int" = none
  n_zip : mg "zip" = none
  n_any : mg "any" = none
  n_sorted : mg "sorted" = none
  n_list : mg "list" = none
  n_range : mg "range" = none
  n_abs : mg "abs" = none
  n_min : mg "min" = none
  n_max : mg "max" = none
  n_repr : mg "repr" = none
  n_super : mg "super" = none
abbrev Tx.ec {P : Program} {K : PySem.W.Frag} {mg : Str → Option Value} (T : Tx P K mg) : ECl := fun k => List.lookup k [(0, T.cE_Unreadable)]
theorem lk_two {A : Type} {k : Nat} {l : List (Nat × A)} {x : A} (h : List.lookup k l = some x) : (k, x) ∈ l := by
  induction l with
  | nil => cases h
  | cons p l ih =>
    rw [List.lookup_cons] at h
    split at h
    · rename_i e
      cases h
      have z : k = p.1 := by simpa using e
      rw [z]
      exact List.mem_cons_self
    · exact List.mem_cons_of_mem _ (ih h)
theorem Tx.errs {P : Program} {K : PySem.W.Frag} {mg : Str → Option Value} (T : Tx P K mg) : ∀ k C, T.ec k = some C → ∃ fI, PySem.PLX.ErrTxt P K C fI := by
  intro k C h
  have z := lk_two h
  simp only [List.mem_cons, List.not_mem_nil, or_false, Prod.mk.injEq] at z
  rcases z with ⟨rfl, rfl⟩
  · exact ⟨_, T.tE_Unreadable⟩
theorem Tx.cs_Unreadable {P : Program} {K : PySem.W.Frag} {mg : Str → Option Value} (T : Tx P K mg) : ∀ k C b, T.ec k = some C → List.lookup k [(0, true)] = some b → PySem.W.exmOne K (.ref C) (.ref T.cE_Unreadable) = some b := by
  intro k C b h g
  have z := lk_two h
  simp only [List.mem_cons, List.not_mem_nil, or_false, Prod.mk.injEq] at z
  rcases z with ⟨rfl, rfl⟩
  · cases g
    exact T.x_Unreadable_Unreadable
section
variable {P : Program} {w : World} {K : PySem.W.Frag} {mg : Str → Option Value} {base : Heap}
theorem bd_command_text (T : Tx P K mg) : Binds K T.fd_command_text ["command"] [] := T.F_command_text.binds fun _ _ _ _ _ _ us hl => match us, hl with | [_], _ => rfl
theorem bd_show_script (T : Tx P K mg) : Binds K T.fd_show_script ["commands"] [] := T.F_show_script.binds fun _ _ _ _ _ _ us hl => match us, hl with | [_], _ => rfl
theorem bd_number_in (T : Tx P K mg) : Binds K T.fd_number_in ["word"] [] := T.F_number_in.binds fun _ _ _ _ _ _ us hl => match us, hl with | [_], _ => rfl
theorem bd_command_in (T : Tx P K mg) : Binds K T.fd_command_in ["word"] [] := T.F_command_in.binds fun _ _ _ _ _ _ us hl => match us, hl with | [_], _ => rfl
theorem bd_group_in (T : Tx P K mg) : Binds K T.fd_group_in ["word"] [] := T.F_group_in.binds fun _ _ _ _ _ _ us hl => match us, hl with | [_], _ => rfl
theorem bd_read_script (T : Tx P K mg) : Binds K T.fd_read_script ["text"] [] := T.F_read_script.binds fun _ _ _ _ _ _ us hl => match us, hl with | [_], _ => rfl
theorem bd_check_size (T : Tx P K mg) : Binds K T.fd_check_size ["size"] [] := T.F_check_size.binds fun _ _ _ _ _ _ us hl => match us, hl with | [_], _ => rfl
theorem bd_check_script (T : Tx P K mg) : Binds K T.fd_check_script ["size", "script"] [] := T.F_check_script.binds fun _ _ _ _ _ _ us hl => match us, hl with | [_, _], _ => rfl
theorem bd_check_arrangement (T : Tx P K mg) : Binds K T.fd_check_arrangement ["row"] [] := T.F_check_arrangement.binds fun _ _ _ _ _ _ us hl => match us, hl with | [_], _ => rfl
theorem bd_after_command (T : Tx P K mg) : Binds K T.fd_after_command ["row", "command"] [] := T.F_after_command.binds fun _ _ _ _ _ _ us hl => match us, hl with | [_, _], _ => rfl
theorem bd_after_script (T : Tx P K mg) : Binds K T.fd_after_script ["row", "script"] [] := T.F_after_script.binds fun _ _ _ _ _ _ us hl => match us, hl with | [_, _], _ => rfl
theorem bd_check_run (T : Tx P K mg) : Binds K T.fd_check_run ["row", "commands"] [] := T.F_check_run.binds fun _ _ _ _ _ _ us hl => match us, hl with | [_, _], _ => rfl
theorem bd_run (T : Tx P K mg) : Binds K T.fd_run ["row", "commands"] [] := T.F_run.binds fun _ _ _ _ _ _ us hl => match us, hl with | [_, _], _ => rfl
theorem bd_stages (T : Tx P K mg) : Binds K T.fd_stages ["row", "commands"] [] := T.F_stages.binds fun _ _ _ _ _ _ us hl => match us, hl with | [_, _], _ => rfl
theorem bd_descending (T : Tx P K mg) : Binds K T.fd_descending ["size"] [] := T.F_descending.binds fun _ _ _ _ _ _ us hl => match us, hl with | [_], _ => rfl
theorem bd_effect_in (T : Tx P K mg) : Binds K T.fd_effect_in ["size", "commands"] [] := T.F_effect_in.binds fun _ _ _ _ _ _ us hl => match us, hl with | [_, _], _ => rfl
theorem bd_effect (T : Tx P K mg) : Binds K T.fd_effect ["size", "commands"] [] := T.F_effect.binds fun _ _ _ _ _ _ us hl => match us, hl with | [_, _], _ => rfl
theorem bd_check_scripts (T : Tx P K mg) : Binds K T.fd_check_scripts ["size", "first", "second"] [] := T.F_check_scripts.binds fun _ _ _ _ _ _ us hl => match us, hl with | [_, _, _], _ => rfl
theorem bd_same_scripts (T : Tx P K mg) : Binds K T.fd_same_scripts ["size", "first", "second"] [] := T.F_same_scripts.binds fun _ _ _ _ _ _ us hl => match us, hl with | [_, _, _], _ => rfl
theorem bd_turns_of (T : Tx P K mg) : Binds K T.fd_turns_of ["size", "commands"] [] := T.F_turns_of.binds fun _ _ _ _ _ _ us hl => match us, hl with | [_, _], _ => rfl
theorem bd_trimmed (T : Tx P K mg) : Binds K T.fd_trimmed ["size", "commands"] [] := T.F_trimmed.binds fun _ _ _ _ _ _ us hl => match us, hl with | [_, _], _ => rfl
theorem bd_exchanges_in (T : Tx P K mg) : Binds K T.fd_exchanges_in ["wanted"] [] := T.F_exchanges_in.binds fun _ _ _ _ _ _ us hl => match us, hl with | [_], _ => rfl
theorem bd_exchanges (T : Tx P K mg) : Binds K T.fd_exchanges ["wanted"] [] := T.F_exchanges.binds fun _ _ _ _ _ _ us hl => match us, hl with | [_], _ => rfl
theorem bd_law_rng (T : Tx P K mg) : Binds K T.fd_law_rng ["script"] [] := T.F_law_rng.binds fun _ _ _ _ _ _ us hl => match us, hl with | [_], _ => rfl
theorem bd_law_draw (T : Tx P K mg) : Binds K T.fd_law_draw ["rng", "limit"] [] := T.F_law_draw.binds fun _ _ _ _ _ _ us hl => match us, hl with | [_, _], _ => rfl
theorem bd_law_commands (T : Tx P K mg) : Binds K T.fd_law_commands ["rng", "wide", "most"] [] := T.F_law_commands.binds fun _ _ _ _ _ _ us hl => match us, hl with | [_, _, _], _ => rfl
theorem bd_law_arranged (T : Tx P K mg) : Binds K T.fd_law_arranged ["rng", "wide"] [] := T.F_law_arranged.binds fun _ _ _ _ _ _ us hl => match us, hl with | [_, _], _ => rfl
theorem bd_law_values (T : Tx P K mg) : Binds K T.fd_law_values ["rng", "wide"] [] := T.F_law_values.binds fun _ _ _ _ _ _ us hl => match us, hl with | [_, _], _ => rfl
theorem bd_law_kept (T : Tx P K mg) : Binds K T.fd_law_kept ["line"] [] := T.F_law_kept.binds fun _ _ _ _ _ _ us hl => match us, hl with | [_], _ => rfl
theorem bd_law_spoilt (T : Tx P K mg) : Binds K T.fd_law_spoilt ["rng", "line"] [] := T.F_law_spoilt.binds fun _ _ _ _ _ _ us hl => match us, hl with | [_, _], _ => rfl
theorem bd_law_is_short (T : Tx P K mg) : Binds K T.fd_law_is_short ["one"] [] := T.F_law_is_short.binds fun _ _ _ _ _ _ us hl => match us, hl with | [_], _ => rfl
theorem bd_law (T : Tx P K mg) : Binds K T.fd_law ["script"] [] := T.F_law.binds fun _ _ _ _ _ _ us hl => match us, hl with | [_], _ => rfl
theorem sc_command_text : FnScope ["command", "first", "last"] ["command"] (defScope s_command_text) := ⟨rfl, rfl, rfl, by decide +kernel, rfl, by decide +kernel, by decide +kernel⟩
set_option maxHeartbeats 4000000 in
theorem ok_command_text (T : Tx P K mg) : FnG P w K mg base CX0 1 T.a_command_text T.fd_command_text ["command"] (liftSp K 1 [] sp_command_text) := by
  unfold sp_command_text
  exact fng_lift T.F_command_text sc_command_text rfl rfl fun cdv A outer s H E0 E hfx hr hg =>
  have nd : (["command", "first", "last"] : List Str).Nodup := sc_command_text.nd
  (ls_cons (ls_unp (t := (.tup [(.nm 1), (.nm 2)])) (fix_all hfx rfl) (fun te he => ps_asg he (pg_tp rfl (pgs_c (pg_nm (pg_name (i := 1) nd rfl (Or.inl rfl))) (pgs_c (pg_nm (pg_name (i := 2) nd rfl (Or.inl rfl))) pgs_n)))) (l_name 0 (pv 0) (Nat.le_of_ble_eq_true rfl)))
 (ls_one (ls_ret (l_v (l_ifE (lt_cmp (op_eqP (un64 hr)) o_eq (l_name 1 (pv 1) (Nat.le_of_ble_eq_true rfl)) (l_name 2 (pv 2) (Nat.le_of_ble_eq_true rfl)) (nomark _)) (l_e (l_callTy call_str_int o_str (by rfl) T.n_str (by decide +kernel) (l_acons (l_name 1 (pv 1) (Nat.le_of_ble_eq_true rfl)) l_anil))) (l_e (l_bin or_add o_add (l_e (l_bin or_add o_add (l_e (l_callTy call_str_int o_str (by rfl) T.n_str (by decide +kernel) (l_acons (l_name 1 (pv 1) (Nat.le_of_ble_eq_true rfl)) l_anil))) (l_globS (by rfl) T.g_DASH))) (l_e (l_callTy call_str_int o_str (by rfl) T.n_str (by decide +kernel) (l_acons (l_name 2 (pv 2) (Nat.le_of_ble_eq_true rfl)) l_anil))))))))))
theorem sc_show_script : FnScope ["commands", "words", "index", "command", "word", "many"] ["commands"] (defScope s_show_script) := ⟨rfl, rfl, rfl, by decide +kernel, rfl, by decide +kernel, by decide +kernel⟩
set_option maxHeartbeats 4000000 in
theorem ok_show_script (T : Tx P K mg) : FnG P w K mg base CX0 2 T.a_show_script T.fd_show_script ["commands"] (liftSp K 1 [] sp_show_script) := by
  unfold sp_show_script
  exact fng_lift T.F_show_script sc_show_script rfl rfl fun cdv A outer s H E0 E hfx hr hg =>
  have nd : (["commands", "words", "index", "command", "word", "many"] : List Str).Nodup := sc_show_script.nd
  (ls_cons (ls_set (i := 1) (Nat.le_of_ble_eq_true rfl) (hfx 1 (by decide)) (fun te he => ps_set nd rfl (Or.inl rfl) he) (l_lst l_anil))
 (ls_cons (ls_B [2, 3, 4, 5] (ls_for (t := (.tup [(.nm 2), (.nm 3)])) PassesOwn.never rfl (li_enum (fun ta ha => pi_enum (by rfl) T.n_enumerate ha) (l_acons (l_name 0 (pv 0) (Nat.le_of_ble_eq_true rfl)) l_anil)) (pg_tp rfl (pgs_c (pg_nm (pg_name (i := 2) nd rfl (Or.inl rfl))) (pgs_c (pg_nm (pg_name (i := 3) nd rfl (Or.inl rfl))) pgs_n))) (fix_all hfx rfl) (ls_W [2, 3, 4, 5] (ls_one (ls_if (PW.pt (lw_and (lt_cmp op_gt o_gt (l_name 2 (pv 2) (Nat.le_of_ble_eq_true rfl)) l_int (nomark _)) (lw_and1 (lt_cmp (op_eqP (un64 hr)) o_eq (l_name 3 (pv 3) (Nat.le_of_ble_eq_true rfl)) (l_ixN 0 (fun _ _ => rfl) (pv 0) (Nat.le_of_ble_eq_true rfl) (l_e (l_bin op_sub o_sub (l_name 2 (pv 2) (Nat.le_of_ble_eq_true rfl)) l_int))) (nomark _))))) (ls_cons (ls_unp (t := (.tup [(.nm 4), (.nm 5)])) (fix_all hfx rfl) (fun te he => ps_asg he (pg_tp rfl (pgs_c (pg_nm (pg_name (i := 4) nd rfl (Or.inl rfl))) (pgs_c (pg_nm (pg_name (i := 5) nd rfl (Or.inl rfl))) pgs_n)))) (l_meth0 1 m_pop0 (Nat.le_of_ble_eq_true rfl) (pe_bm0 PySem.F.plainAttrs_list PySem.F.slot_list_pop PySem.F.type_list_pop mt_pop (pv 1))))
 (ls_one (ls_expr (l_v (l_meth 1 m_append (Nat.le_of_ble_eq_true rfl) (fun t ht => pe_bm PySem.F.plainAttrs_list PySem.F.slot_list_append PySem.F.type_list_append mt_append (pv 1) ht) (l_acons (l_e (l_tup (l_acons (l_name 4 (pv 4) (Nat.le_of_ble_eq_true rfl)) (l_acons (l_e (l_bin or_add o_add (l_name 5 (pv 5) (Nat.le_of_ble_eq_true rfl)) l_int)) l_anil)))) l_anil)))))) (ls_one (ls_expr (l_v (l_meth 1 m_append (Nat.le_of_ble_eq_true rfl) (fun t ht => pe_bm PySem.F.plainAttrs_list PySem.F.slot_list_append PySem.F.type_list_append mt_append (pv 1) ht) (l_acons (l_e (l_tup (l_acons (l_e (l_call (ok_command_text T) (hr.mono (by decide)) hg (by rfl) T.m_command_text T.F_command_text.kp (bd_command_text T) (l_acons (l_name 3 (pv 3) (Nat.le_of_ble_eq_true rfl)) l_anil))) (l_acons l_int l_anil)))) l_anil))))))))))
 (ls_cons (ls_if (lt_bor [1] (lt_cmp (op_eqP (un64 hr)) o_eq (l_name 1 (pv 1) (Nat.le_of_ble_eq_true rfl)) (l_e (l_lst l_anil)) (nomark _))) (ls_one (ls_ret (l_v (l_globS (by rfl) T.g_EMPTY)))) ls_nil)
 (ls_one (ls_ret (l_join (l_globS (by rfl) T.g_BLANK) (l_e (l_lc (own := [("word", 4), ("many", 5)]) (t := (.tup [(.nm 4), (.nm 5)])) rfl nd (li_list (l_name 1 (pv 1) (Nat.le_of_ble_eq_true rfl))) (by kernel_rfl) (mem_all rfl) (fix_all hfx rfl) (fun _ _ _ _ _ => (pg_tp rfl (pgs_c (pg_nm (pg_name (i := 4) nd rfl (by first | exact Or.inl rfl | exact Or.inr rfl))) (pgs_c (pg_nm (pg_name (i := 5) nd rfl (by first | exact Or.inl rfl | exact Or.inr rfl))) pgs_n)))) (fun _ _ _ _ _ => pts_yes) (fun _ _ _ _ _ => pe_any fun E1 hE1 => (l_e (l_bin or_add o_add (l_name 4 (pv 4) (Nat.le_of_ble_eq_true rfl)) (l_ifE (lt_cmp op_gt o_gt (l_name 5 (pv 5) (Nat.le_of_ble_eq_true rfl)) l_int (nomark _)) (l_e (l_bin or_add o_add (l_globS (by rfl) T.g_STAR) (l_e (l_callTy call_str_int o_str (by rfl) T.n_str (by decide +kernel) (l_acons (l_name 5 (pv 5) (Nat.le_of_ble_eq_true rfl)) l_anil))))) l_str))))))))))))
theorem sc_number_in : FnScope ["word", "sign"] ["word"] (defScope s_number_in) := ⟨rfl, rfl, rfl, by decide +kernel, rfl, by decide +kernel, by decide +kernel⟩
set_option maxHeartbeats 4000000 in
theorem ok_number_in (T : Tx P K mg) : FnG P w K mg base CX0 1 T.a_number_in T.fd_number_in ["word"] (liftSp K 1 [] sp_number_in) := by
  unfold sp_number_in
  exact fng_lift T.F_number_in sc_number_in rfl rfl fun cdv A outer s H E0 E hfx hr hg =>
  have nd : (["word", "sign"] : List Str).Nodup := sc_number_in.nd
  (ls_cons (ls_if (PW.pt (lw_or (lt_not (lt_chain op_le o_le op_le o_le l_int (l_lenM 0 (pv 0) (Nat.le_of_ble_eq_true rfl) (by rfl) T.n_len (by decide +kernel)) (l_globI (by rfl) T.g_MOST_DIGITS))) (lw_or1 (lt_not (lt_val (l_callB (cr_all rfl) o_all (by rfl) T.n_all (by decide +kernel) (l_acons (l_e (l_lc (own := [("sign", 1)]) (t := (.nm 1)) rfl nd (li_str (l_name 0 (pv 0) (Nat.le_of_ble_eq_true rfl))) (by kernel_rfl) (mem_all rfl) (fix_all hfx rfl) (fun _ _ _ _ _ => (pg_nm (pg_name (i := 1) nd rfl (by first | exact Or.inl rfl | exact Or.inr rfl)))) (fun _ _ _ _ _ => pts_yes) (fun _ _ _ _ _ => pe_any fun E1 hE1 => (l_e (l_cmp op_in_sign o_inS (l_name 1 (pv 1) (Nat.le_of_ble_eq_true rfl)) (l_globS (by rfl) T.g_DIGITS) (by rfl)))))) l_anil))))))) (ls_one (ls_ret (l_v l_non))) ls_nil)
 (ls_one (ls_ret (l_v (l_ifE (PW.pt (lw_and (lt_cmp op_gt o_gt (l_lenM 0 (pv 0) (Nat.le_of_ble_eq_true rfl) (by rfl) T.n_len (by decide +kernel)) l_int (nomark _)) (lw_and1 (lt_cmp (op_eqP (un64 hr)) o_eq (l_ixN 0 (fun _ _ => rfl) (pv 0) (Nat.le_of_ble_eq_true rfl) l_int) l_str (nomark _))))) l_non (l_e (l_callTy c_intS o_intS (by rfl) T.n_int (by decide +kernel) (l_acons (l_name 0 (pv 0) (Nat.le_of_ble_eq_true rfl)) l_anil))))))))
theorem sc_command_in : FnScope ["word", "numbers", "command", "part"] ["word"] (defScope s_command_in) := ⟨rfl, rfl, rfl, by decide +kernel, rfl, by decide +kernel, by decide +kernel⟩
set_option maxHeartbeats 4000000 in
theorem ok_command_in (T : Tx P K mg) : FnG P w K mg base CX0 2 T.a_command_in T.fd_command_in ["word"] (liftSp K 1 [] sp_command_in) := by
  unfold sp_command_in
  exact fng_lift T.F_command_in sc_command_in rfl rfl fun cdv A outer s H E0 E hfx hr hg =>
  have nd : (["word", "numbers", "command", "part"] : List Str).Nodup := sc_command_in.nd
  (ls_cons (ls_lc (i := 1) (own := [("part", 3)]) (t := (.nm 3)) rfl rfl (hfx 1 (by decide)) (sw_true rfl rfl rfl (by decide +kernel)) rfl nd (li_list (l_e (l_split (l_name 0 (pv 0) (Nat.le_of_ble_eq_true rfl)) (l_globS (by rfl) T.g_DASH)))) (by kernel_rfl) (mem_all rfl) (fix_all hfx rfl) (fun _ _ _ _ _ => (pg_nm (pg_name (i := 3) nd rfl (by first | exact Or.inl rfl | exact Or.inr rfl)))) (fun _ _ _ _ _ => pts_yes) (fun _ _ _ _ _ => pe_any fun E1 hE1 => (l_e (l_call (ok_number_in T) (hr.mono (by decide)) hg (by rfl) T.m_number_in T.F_number_in.kp (bd_number_in T) (l_acons (l_name 3 (pv 3) (Nat.le_of_ble_eq_true rfl)) l_anil)))))
 (ls_cons (ls_if (PW.pt (lw_or (lt_cmp (op_inP (un65 hr)) o_in l_non (l_name 1 (pv 1) (Nat.le_of_ble_eq_true rfl)) (by rfl)) (lw_or1 (lt_cmp op_gt o_gt (l_lenM 1 (pv 1) (Nat.le_of_ble_eq_true rfl) (by rfl) T.n_len (by decide +kernel)) l_int (nomark _))))) (ls_one (ls_ret (l_v l_non))) ls_nil)
 (ls_cons (ls_set (i := 2) (Nat.le_of_ble_eq_true rfl) (hfx 2 (by decide)) (fun te he => ps_set nd rfl (Or.inl rfl) he) (l_tup (l_acons (l_ixN 1 (fun _ _ => rfl) (pv 1) (Nat.le_of_ble_eq_true rfl) l_int) (l_acons (l_ixN 1 (fun _ _ => rfl) (pv 1) (Nat.le_of_ble_eq_true rfl) (l_e (l_neg l_int))) l_anil))))
 (ls_one (ls_ret (l_v (l_ifE (PW.pt (lw_and (lt_chain op_le o_le op_le o_le l_int (l_ixN 2 (fun _ _ => rfl) (pv 2) (Nat.le_of_ble_eq_true rfl) l_int) (l_ixN 2 (fun _ _ => rfl) (pv 2) (Nat.le_of_ble_eq_true rfl) l_int)) (lw_and1 (lt_cmp (op_eqP (un64 hr)) o_eq (l_e (l_call (ok_command_text T) (hr.mono (by decide)) hg (by rfl) T.m_command_text T.F_command_text.kp (bd_command_text T) (l_acons (l_name 2 (pv 2) (Nat.le_of_ble_eq_true rfl)) l_anil))) (l_name 0 (pv 0) (Nat.le_of_ble_eq_true rfl)) (nomark _))))) (l_name 2 (pv 2) (Nat.le_of_ble_eq_true rfl)) l_non)))))))
theorem sc_group_in : FnScope ["word", "shown", "more", "command", "many"] ["word"] (defScope s_group_in) := ⟨rfl, rfl, rfl, by decide +kernel, rfl, by decide +kernel, by decide +kernel⟩
set_option maxHeartbeats 4000000 in
theorem ok_group_in (T : Tx P K mg) : FnG P w K mg base CX0 3 T.a_group_in T.fd_group_in ["word"] (liftSp K 1 [] sp_group_in) := by
  unfold sp_group_in
  exact fng_lift T.F_group_in sc_group_in rfl rfl fun cdv A outer s H E0 E hfx hr hg =>
  have nd : (["word", "shown", "more", "command", "many"] : List Str).Nodup := sc_group_in.nd
  (ls_cons (ls_unpStar (i := 1) (j := 2) (by decide) (Nat.le_of_ble_eq_true rfl) (hfx 1 (by decide)) (Nat.le_of_ble_eq_true rfl) (hfx 2 (by decide)) (fun te he => ps_asg he (pg_star rfl (pg_name (i := 1) nd rfl (Or.inl rfl)) (pg_name (i := 2) nd rfl (Or.inl rfl)))) (l_e (l_split (l_name 0 (pv 0) (Nat.le_of_ble_eq_true rfl)) (l_globS (by rfl) T.g_STAR))))
 (ls_cons (ls_set (i := 3) (Nat.le_of_ble_eq_true rfl) (hfx 3 (by decide)) (fun te he => ps_set nd rfl (Or.inl rfl) he) (l_call (ok_command_in T) (hr.mono (by decide)) hg (by rfl) T.m_command_in T.F_command_in.kp (bd_command_in T) (l_acons (l_name 1 (pv 1) (Nat.le_of_ble_eq_true rfl)) l_anil)))
 (ls_cons (ls_set (i := 4) (Nat.le_of_ble_eq_true rfl) (hfx 4 (by decide)) (fun te he => ps_set nd rfl (Or.inl rfl) he) (l_v (l_ifE (lt_cmp (op_eqP (un64 hr)) o_eq (l_lenM 2 (pv 2) (Nat.le_of_ble_eq_true rfl) (by rfl) T.n_len (by decide +kernel)) l_int (nomark _)) (l_e (l_call (ok_number_in T) (hr.mono (by decide)) hg (by rfl) T.m_number_in T.F_number_in.kp (bd_number_in T) (l_acons (l_ixN 2 (fun _ _ => rfl) (pv 2) (Nat.le_of_ble_eq_true rfl) l_int) l_anil))) l_int)))
 (ls_cons (ls_if (PW.pt (lw_or (lt_cmp or_is o_is (l_name 3 (pv 3) (Nat.le_of_ble_eq_true rfl)) l_non (nomark _)) (lw_or (lt_cmp or_is o_is (l_name 4 (pv 4) (Nat.le_of_ble_eq_true rfl)) l_non (nomark _)) (lw_or (lt_cmp op_gt o_gt (l_lenM 2 (pv 2) (Nat.le_of_ble_eq_true rfl) (by rfl) T.n_len (by decide +kernel)) l_int (nomark _)) (lw_or1 (PW.pt (lw_and (lt_cmp (op_eqP (un64 hr)) o_eq (l_lenM 2 (pv 2) (Nat.le_of_ble_eq_true rfl) (by rfl) T.n_len (by decide +kernel)) l_int (nomark _)) (lw_and1 (lt_cmp op_lt o_lt (l_name 4 (pv 4) (Nat.le_of_ble_eq_true rfl)) l_int (nomark _)))))))))) (ls_one (ls_ret (l_v l_non))) ls_nil)
 (ls_one (ls_ret (l_tup (l_acons (l_name 3 (pv 3) (Nat.le_of_ble_eq_true rfl)) (l_acons (l_name 4 (pv 4) (Nat.le_of_ble_eq_true rfl)) l_anil)))))))))
theorem sc_read_script : FnScope ["text", "groups", "found", "command", "many", "word", "early", "late"] ["text"] (defScope s_read_script) := ⟨rfl, rfl, rfl, by decide +kernel, rfl, by decide +kernel, by decide +kernel⟩
set_option maxHeartbeats 4000000 in
theorem okx_read_script (T : Tx P K mg) : FnG P w K mg base (L2N.CX P w) 4 T.a_read_script T.fd_read_script ["text"] (liftSpX K T.ec 1 [] sp_read_script) := by
  unfold sp_read_script
  exact fng_liftX T.F_read_script sc_read_script rfl rfl fun cdv A outer s H E0 E RX W hfx hr hg tk lk =>
  have nd : (["text", "groups", "found", "command", "many", "word", "early", "late"] : List Str).Nodup := sc_read_script.nd
  (ls_cons (ls_if (lt_cmp (op_eqP (un64 hr)) o_eq (l_name 0 (pv 0) (Nat.le_of_ble_eq_true rfl)) (l_globS (by rfl) T.g_EMPTY) (nomark _)) (ls_one (ls_ret (l_lst l_anil))) ls_nil)
 (ls_cons (ls_lc (i := 1) (own := [("word", 5)]) (t := (.nm 5)) rfl rfl (hfx 1 (by decide)) (sw_true rfl rfl rfl (by decide +kernel)) rfl nd (li_list (l_e (l_split (l_name 0 (pv 0) (Nat.le_of_ble_eq_true rfl)) (l_globS (by rfl) T.g_BLANK)))) (by kernel_rfl) (mem_all rfl) (fix_all hfx rfl) (fun _ _ _ _ _ => (pg_nm (pg_name (i := 5) nd rfl (by first | exact Or.inl rfl | exact Or.inr rfl)))) (fun _ _ _ _ _ => pts_yes) (fun _ _ _ _ _ => pe_any fun E1 hE1 => (l_e (l_call (ok_group_in T) (hr.mono (by decide)) hg (by rfl) T.m_group_in T.F_group_in.kp (bd_group_in T) (l_acons (l_name 5 (pv 5) (Nat.le_of_ble_eq_true rfl)) l_anil)))))
 (ls_cons (ls_if (PW.pt (lw_or (lt_cmp (op_inP (un65 hr)) o_in l_non (l_name 1 (pv 1) (Nat.le_of_ble_eq_true rfl)) (by rfl)) (lw_or1 (lt_val (l_callB (cr_any rfl) o_any (by rfl) T.n_any (by decide +kernel) (l_acons (l_e (l_lc (own := [("early", 6), ("late", 7)]) (t := (.tup [(.nm 6), (.nm 7)])) rfl nd (li_zip (fun ta ha => pi_zip (by rfl) T.n_zip ha) (l_acons (l_name 1 (pv 1) (Nat.le_of_ble_eq_true rfl)) (l_acons (l_e (l_sliceN 1 (pv 1) (Nat.le_of_ble_eq_true rfl) (lb_some l_int) lb_none)) l_anil))) (by kernel_rfl) (mem_all rfl) (fix_all hfx rfl) (fun _ _ _ _ _ => (pg_tp rfl (pgs_c (pg_nm (pg_name (i := 6) nd rfl (by first | exact Or.inl rfl | exact Or.inr rfl))) (pgs_c (pg_nm (pg_name (i := 7) nd rfl (by first | exact Or.inl rfl | exact Or.inr rfl))) pgs_n)))) (fun _ _ _ _ _ => pts_yes) (fun _ _ _ _ _ => pe_any fun E1 hE1 => (l_e (l_cmp (op_eqP (un64 hr)) o_eq (l_ixN 6 (fun _ _ => rfl) (pv 6) (Nat.le_of_ble_eq_true rfl) l_int) (l_ixN 7 (fun _ _ => rfl) (pv 7) (Nat.le_of_ble_eq_true rfl) l_int) (nomark _)))))) l_anil)))))) (ls_one (ls_raise rfl T.tE_Unreadable T.mE_Unreadable T.n_super hr tk lk rfl (by rfl) (by decide) (l_name 0 (pv 0) (Nat.le_of_ble_eq_true rfl)))) ls_nil)
 (ls_cons (ls_set (i := 2) (Nat.le_of_ble_eq_true rfl) (hfx 2 (by decide)) (fun te he => ps_set nd rfl (Or.inl rfl) he) (l_lst l_anil))
 (ls_cons (ls_B [0, 3, 4, 5, 6, 7] (ls_for (t := (.tup [(.nm 3), (.nm 4)])) (passes_of rfl) rfl (li_list (l_name 1 (pv 1) (Nat.le_of_ble_eq_true rfl))) (pg_tp rfl (pgs_c (pg_nm (pg_name (i := 3) nd rfl (Or.inl rfl))) (pgs_c (pg_nm (pg_name (i := 4) nd rfl (Or.inl rfl))) pgs_n))) (fix_all hfx rfl) (ls_W [0, 3, 4, 5, 6, 7] (ls_one (ls_expr (l_v (l_meth 2 m_extend (Nat.le_of_ble_eq_true rfl) (fun t ht => pe_bm PySem.F.plainAttrs_list PySem.F.slot_list_extend PySem.F.type_list_extend mt_extend (pv 2) ht) (l_acons (l_e (l_bin or_mul o_mul (l_e (l_lst (l_acons (l_name 3 (pv 3) (Nat.le_of_ble_eq_true rfl)) l_anil))) (l_name 4 (pv 4) (Nat.le_of_ble_eq_true rfl)))) l_anil))))))))
 (ls_one (ls_retName 2 (pv 2))))))))
theorem ok_read_script (T : Tx P K mg) : FnG P w K mg base CX0 4 T.a_read_script T.fd_read_script ["text"] (liftSp K 1 [] (noX sp_read_script)) := fng_noX (okx_read_script T)
theorem sc_check_size : FnScope ["size"] ["size"] (defScope s_check_size) := ⟨rfl, rfl, rfl, by decide +kernel, rfl, by decide +kernel, by decide +kernel⟩
set_option maxHeartbeats 4000000 in
theorem ok_check_size (T : Tx P K mg) : FnG P w K mg base CX0 1 T.a_check_size T.fd_check_size ["size"] (liftSp K 1 [] sp_check_size) := by
  unfold sp_check_size
  exact fng_lift T.F_check_size sc_check_size rfl rfl fun cdv A outer s H E0 E hfx hr hg =>
  have nd : (["size"] : List Str).Nodup := sc_check_size.nd
  (ls_one (ls_if (lt_cmp op_lt o_lt (l_name 0 (pv 0) (Nat.le_of_ble_eq_true rfl)) l_int (nomark _)) (ls_one ls_never) ls_nil))
theorem sc_check_script : FnScope ["size", "script", "index", "first", "last"] ["size", "script"] (defScope s_check_script) := ⟨rfl, rfl, rfl, by decide +kernel, rfl, by decide +kernel, by decide +kernel⟩
set_option maxHeartbeats 4000000 in
theorem ok_check_script (T : Tx P K mg) : FnG P w K mg base CX0 1 T.a_check_script T.fd_check_script ["size", "script"] (liftSp K 2 [] sp_check_script) := by
  unfold sp_check_script
  exact fng_lift T.F_check_script sc_check_script rfl rfl fun cdv A outer s H E0 E hfx hr hg =>
  have nd : (["size", "script", "index", "first", "last"] : List Str).Nodup := sc_check_script.nd
  (ls_one (ls_B [2, 3, 4] (ls_for (t := (.tup [(.nm 2), (.tup [(.nm 3), (.nm 4)])])) PassesOwn.never rfl (li_enum (fun ta ha => pi_enum (by rfl) T.n_enumerate ha) (l_acons (l_name 1 (pv 1) (Nat.le_of_ble_eq_true rfl)) l_anil)) (pg_tp rfl (pgs_c (pg_nm (pg_name (i := 2) nd rfl (Or.inl rfl))) (pgs_c (pg_tp rfl (pgs_c (pg_nm (pg_name (i := 3) nd rfl (Or.inl rfl))) (pgs_c (pg_nm (pg_name (i := 4) nd rfl (Or.inl rfl))) pgs_n))) pgs_n))) (fix_all hfx rfl) (ls_W [2, 3, 4] (ls_one (ls_if (lt_not (lt_chain3 op_le o_le op_le o_le op_le o_le l_int (l_name 3 (pv 3) (Nat.le_of_ble_eq_true rfl)) (l_name 4 (pv 4) (Nat.le_of_ble_eq_true rfl)) (l_name 0 (pv 0) (Nat.le_of_ble_eq_true rfl)))) (ls_one ls_never) ls_nil))))))
theorem sc_check_arrangement : FnScope ["row", "seen", "index", "value"] ["row"] (defScope s_check_arrangement) := ⟨rfl, rfl, rfl, by decide +kernel, rfl, by decide +kernel, by decide +kernel⟩
set_option maxHeartbeats 4000000 in
theorem ok_check_arrangement (T : Tx P K mg) : FnG P w K mg base CX0 1 T.a_check_arrangement T.fd_check_arrangement ["row"] (liftSp K 1 [] sp_check_arrangement) := by
  unfold sp_check_arrangement
  exact fng_lift T.F_check_arrangement sc_check_arrangement rfl rfl fun cdv A outer s H E0 E hfx hr hg =>
  have nd : (["row", "seen", "index", "value"] : List Str).Nodup := sc_check_arrangement.nd
  (ls_cons (ls_set (i := 1) (Nat.le_of_ble_eq_true rfl) (hfx 1 (by decide)) (fun te he => ps_set nd rfl (Or.inl rfl) he) l_dnew)
 (ls_one (ls_B [2, 3] (ls_for (t := (.tup [(.nm 2), (.nm 3)])) PassesOwn.never rfl (li_enum (fun ta ha => pi_enum (by rfl) T.n_enumerate ha) (l_acons (l_name 0 (pv 0) (Nat.le_of_ble_eq_true rfl)) l_anil)) (pg_tp rfl (pgs_c (pg_nm (pg_name (i := 2) nd rfl (Or.inl rfl))) (pgs_c (pg_nm (pg_name (i := 3) nd rfl (Or.inl rfl))) pgs_n))) (fix_all hfx rfl) (ls_W [2, 3] (ls_cons (ls_if (PW.pt (lw_or (lt_not (lt_chain op_le o_le op_le o_le l_int (l_name 3 (pv 3) (Nat.le_of_ble_eq_true rfl)) (l_lenM 0 (pv 0) (Nat.le_of_ble_eq_true rfl) (by rfl) T.n_len (by decide +kernel)))) (lw_or1 (lt_din 1 (un64 hr) (pv 1) (Nat.le_of_ble_eq_true rfl) (l_name 3 (pv 3) (Nat.le_of_ble_eq_true rfl)))))) (ls_one ls_never) ls_nil)
 (ls_one (ls_dput 1 (un64 hr) (pv 1) (Nat.le_of_ble_eq_true rfl) (l_name 3 (pv 3) (Nat.le_of_ble_eq_true rfl)) l_bl))))))))
theorem sc_after_command : FnScope ["row", "command", "first", "last"] ["row", "command"] (defScope s_after_command) := ⟨rfl, rfl, rfl, by decide +kernel, rfl, by decide +kernel, by decide +kernel⟩
set_option maxHeartbeats 4000000 in
theorem ok_after_command (T : Tx P K mg) : FnG P w K mg base CX0 1 T.a_after_command T.fd_after_command ["row", "command"] (liftSp K 2 [] sp_after_command) := by
  unfold sp_after_command
  exact fng_lift T.F_after_command sc_after_command rfl rfl fun cdv A outer s H E0 E hfx hr hg =>
  have nd : (["row", "command", "first", "last"] : List Str).Nodup := sc_after_command.nd
  (ls_cons (ls_unp (t := (.tup [(.nm 2), (.nm 3)])) (fix_all hfx rfl) (fun te he => ps_asg he (pg_tp rfl (pgs_c (pg_nm (pg_name (i := 2) nd rfl (Or.inl rfl))) (pgs_c (pg_nm (pg_name (i := 3) nd rfl (Or.inl rfl))) pgs_n)))) (l_name 1 (pv 1) (Nat.le_of_ble_eq_true rfl)))
 (ls_one (ls_ret (l_lst (l_astar (l_e (l_sliceN 0 (pv 0) (Nat.le_of_ble_eq_true rfl) lb_none (lb_some (l_e (l_bin op_sub o_sub (l_name 2 (pv 2) (Nat.le_of_ble_eq_true rfl)) l_int))))) (l_astar (l_e (l_callB cr_sortedI o_sorted (by rfl) T.n_sorted (by decide +kernel) (l_acons (l_e (l_sliceN 0 (pv 0) (Nat.le_of_ble_eq_true rfl) (lb_some (l_e (l_bin op_sub o_sub (l_name 2 (pv 2) (Nat.le_of_ble_eq_true rfl)) l_int))) (lb_some (l_name 3 (pv 3) (Nat.le_of_ble_eq_true rfl))))) l_anil))) (l_astar (l_e (l_sliceN 0 (pv 0) (Nat.le_of_ble_eq_true rfl) (lb_some (l_name 3 (pv 3) (Nat.le_of_ble_eq_true rfl))) lb_none)) l_anil)))))))
theorem sc_after_script : FnScope ["row", "script", "found", "command"] ["row", "script"] (defScope s_after_script) := ⟨rfl, rfl, rfl, by decide +kernel, rfl, by decide +kernel, by decide +kernel⟩
set_option maxHeartbeats 4000000 in
theorem ok_after_script (T : Tx P K mg) : FnG P w K mg base CX0 2 T.a_after_script T.fd_after_script ["row", "script"] (liftSp K 2 [] sp_after_script) := by
  unfold sp_after_script
  exact fng_lift T.F_after_script sc_after_script rfl rfl fun cdv A outer s H E0 E hfx hr hg =>
  have nd : (["row", "script", "found", "command"] : List Str).Nodup := sc_after_script.nd
  (ls_cons (ls_set (i := 2) (Nat.le_of_ble_eq_true rfl) (hfx 2 (by decide)) (fun te he => ps_set nd rfl (Or.inl rfl) he) (l_callTy call_list_of o_copy (by rfl) T.n_list (by decide +kernel) (l_acons (l_name 0 (pv 0) (Nat.le_of_ble_eq_true rfl)) l_anil)))
 (ls_cons (ls_B [0, 3] (ls_for (t := (.nm 3)) PassesOwn.never rfl (li_list (l_name 1 (pv 1) (Nat.le_of_ble_eq_true rfl))) (pg_nm (pg_name (i := 3) nd rfl (Or.inl rfl))) (fix_all hfx rfl) (ls_W [0, 3] (ls_one (ls_set (i := 2) (Nat.le_of_ble_eq_true rfl) (hfx 2 (by decide)) (fun te he => ps_set nd rfl (Or.inl rfl) he) (l_call (ok_after_command T) (hr.mono (by decide)) hg (by rfl) T.m_after_command T.F_after_command.kp (bd_after_command T) (l_acons (l_name 2 (pv 2) (Nat.le_of_ble_eq_true rfl)) (l_acons (l_name 3 (pv 3) (Nat.le_of_ble_eq_true rfl)) l_anil))))))))
 (ls_one (ls_retName 2 (pv 2)))))
theorem sc_check_run : FnScope ["row", "commands"] ["row", "commands"] (defScope s_check_run) := ⟨rfl, rfl, rfl, by decide +kernel, rfl, by decide +kernel, by decide +kernel⟩
set_option maxHeartbeats 4000000 in
theorem ok_check_run (T : Tx P K mg) : FnG P w K mg base CX0 2 T.a_check_run T.fd_check_run ["row", "commands"] (liftSp K 2 [] sp_check_run) := by
  unfold sp_check_run
  exact fng_lift T.F_check_run sc_check_run rfl rfl fun cdv A outer s H E0 E hfx hr hg =>
  have nd : (["row", "commands"] : List Str).Nodup := sc_check_run.nd
  (ls_cons (ls_expr (l_call (ok_check_size T) (hr.mono (by decide)) hg (by rfl) T.m_check_size T.F_check_size.kp (bd_check_size T) (l_acons (l_lenM 0 (pv 0) (Nat.le_of_ble_eq_true rfl) (by rfl) T.n_len (by decide +kernel)) l_anil)))
 (ls_one (ls_expr (l_call (ok_check_script T) (hr.mono (by decide)) hg (by rfl) T.m_check_script T.F_check_script.kp (bd_check_script T) (l_acons (l_lenM 0 (pv 0) (Nat.le_of_ble_eq_true rfl) (by rfl) T.n_len (by decide +kernel)) (l_acons (l_name 1 (pv 1) (Nat.le_of_ble_eq_true rfl)) l_anil))))))
theorem sc_run : FnScope ["row", "commands"] ["row", "commands"] (defScope s_run) := ⟨rfl, rfl, rfl, by decide +kernel, rfl, by decide +kernel, by decide +kernel⟩
set_option maxHeartbeats 4000000 in
theorem ok_run (T : Tx P K mg) : FnG P w K mg base CX0 3 T.a_run T.fd_run ["row", "commands"] (liftSp K 2 [] sp_run) := by
  unfold sp_run
  exact fng_lift T.F_run sc_run rfl rfl fun cdv A outer s H E0 E hfx hr hg =>
  have nd : (["row", "commands"] : List Str).Nodup := sc_run.nd
  (ls_cons (ls_expr (l_call (ok_check_run T) (hr.mono (by decide)) hg (by rfl) T.m_check_run T.F_check_run.kp (bd_check_run T) (l_acons (l_name 0 (pv 0) (Nat.le_of_ble_eq_true rfl)) (l_acons (l_name 1 (pv 1) (Nat.le_of_ble_eq_true rfl)) l_anil))))
 (ls_one (ls_ret (l_call (ok_after_script T) (hr.mono (by decide)) hg (by rfl) T.m_after_script T.F_after_script.kp (bd_after_script T) (l_acons (l_name 0 (pv 0) (Nat.le_of_ble_eq_true rfl)) (l_acons (l_name 1 (pv 1) (Nat.le_of_ble_eq_true rfl)) l_anil))))))
theorem sc_stages : GScope ["row", "commands", "found", "command"] ["row", "commands"] (defScope s_stages) := ⟨rfl, rfl, rfl, by decide +kernel, rfl, by decide +kernel, by decide +kernel⟩
set_option maxHeartbeats 4000000 in
theorem ok_stages (T : Tx P K mg) : GGn P w K mg base 3 T.a_stages T.fd_stages ["row", "commands"] sp_stages := by
  unfold sp_stages
  refine ggn_of T.F_stages sc_stages rfl (by decide +kernel) fun G hP hw hK hmg hb hN hsc ok hr hg => ?_
  obtain ⟨P0, w0, K0, mg0, base0, N0, qual0, scope0, f0, cd0, A0, outer0, n0⟩ := G
  cases hP; cases hw; cases hK; cases hmg; cases hb; cases hN; cases hsc
  have nd : (["row", "commands", "found", "command"] : List Str).Nodup := sc_stages.nd
  exact (gs_cons (gs_plain (fun s0 H0 E hE => (ls_expr (l_call (ok_check_run T) (hr.mono (by decide)) hg (by rfl) T.m_check_run T.F_check_run.kp (bd_check_run T) (l_acons (l_name 0 (pv 0) (Nat.le_of_ble_eq_true rfl)) (l_acons (l_name 1 (pv 1) (Nat.le_of_ble_eq_true rfl)) l_anil))))))
 (gs_cons (gs_plain (fun s0 H0 E hE => (ls_set (i := 2) (Nat.le_of_ble_eq_true rfl) ((show ∀ i : Nat, i ∉ ([] : List Nat) → E.fix i = none from fun i _ => hE i) 2 (by decide)) (fun te he => ps_set nd rfl (Or.inl rfl) he) (l_callTy call_list_of o_copy (by rfl) T.n_list (by decide +kernel) (l_acons (l_name 0 (pv 0) (Nat.le_of_ble_eq_true rfl)) l_anil)))))
 (gs_cons (gs_yield ok (fun s0 H0 E hE => (l_e (l_callTy call_list_of o_copy (by rfl) T.n_list (by decide +kernel) (l_acons (l_name 2 (pv 2) (Nat.le_of_ble_eq_true rfl)) l_anil)))))
 (gs_one (gs_for (t := (.nm 3)) ok (fun s0 H0 E hE => (lj_list (l_name 1 (pv 1) (Nat.le_of_ble_eq_true rfl)))) (fun s0 H0 => (pg_nm (pg_name (i := 3) nd rfl (Or.inl rfl)))) rfl (gs_cons (gs_plain (fun s0 H0 E hE => (ls_set (i := 2) (Nat.le_of_ble_eq_true rfl) ((show ∀ i : Nat, i ∉ ([] : List Nat) → E.fix i = none from fun i _ => hE i) 2 (by decide)) (fun te he => ps_set nd rfl (Or.inl rfl) he) (l_call (ok_after_command T) (hr.mono (by decide)) hg (by rfl) T.m_after_command T.F_after_command.kp (bd_after_command T) (l_acons (l_name 2 (pv 2) (Nat.le_of_ble_eq_true rfl)) (l_acons (l_name 3 (pv 3) (Nat.le_of_ble_eq_true rfl)) l_anil))))))
 (gs_one (gs_yield ok (fun s0 H0 E hE => (l_e (l_callTy call_list_of o_copy (by rfl) T.n_list (by decide +kernel) (l_acons (l_name 2 (pv 2) (Nat.le_of_ble_eq_true rfl)) l_anil))))))))))))
theorem sc_descending : FnScope ["size"] ["size"] (defScope s_descending) := ⟨rfl, rfl, rfl, by decide +kernel, rfl, by decide +kernel, by decide +kernel⟩
set_option maxHeartbeats 4000000 in
theorem ok_descending (T : Tx P K mg) : FnG P w K mg base CX0 1 T.a_descending T.fd_descending ["size"] (liftSp K 1 [] sp_descending) := by
  unfold sp_descending
  exact fng_lift T.F_descending sc_descending rfl rfl fun cdv A outer s H E0 E hfx hr hg =>
  have nd : (["size"] : List Str).Nodup := sc_descending.nd
  (ls_one (ls_ret (l_listRng rfl rfl (by rfl) T.n_list (by rfl) T.n_range (l_acons (l_name 0 (pv 0) (Nat.le_of_ble_eq_true rfl)) (l_acons l_int (l_acons (l_e (l_neg l_int)) l_anil))) (by rfl) (by rfl) (by rfl))))
theorem sc_effect_in : FnScope ["size", "commands"] ["size", "commands"] (defScope s_effect_in) := ⟨rfl, rfl, rfl, by decide +kernel, rfl, by decide +kernel, by decide +kernel⟩
set_option maxHeartbeats 4000000 in
theorem ok_effect_in (T : Tx P K mg) : FnG P w K mg base CX0 3 T.a_effect_in T.fd_effect_in ["size", "commands"] (liftSp K 2 [] sp_effect_in) := by
  unfold sp_effect_in
  exact fng_lift T.F_effect_in sc_effect_in rfl rfl fun cdv A outer s H E0 E hfx hr hg =>
  have nd : (["size", "commands"] : List Str).Nodup := sc_effect_in.nd
  (ls_one (ls_ret (l_call (ok_after_script T) (hr.mono (by decide)) hg (by rfl) T.m_after_script T.F_after_script.kp (bd_after_script T) (l_acons (l_e (l_call (ok_descending T) (hr.mono (by decide)) hg (by rfl) T.m_descending T.F_descending.kp (bd_descending T) (l_acons (l_name 0 (pv 0) (Nat.le_of_ble_eq_true rfl)) l_anil))) (l_acons (l_name 1 (pv 1) (Nat.le_of_ble_eq_true rfl)) l_anil)))))
theorem sc_effect : FnScope ["size", "commands"] ["size", "commands"] (defScope s_effect) := ⟨rfl, rfl, rfl, by decide +kernel, rfl, by decide +kernel, by decide +kernel⟩
set_option maxHeartbeats 4000000 in
theorem ok_effect (T : Tx P K mg) : FnG P w K mg base CX0 4 T.a_effect T.fd_effect ["size", "commands"] (liftSp K 2 [] sp_effect) := by
  unfold sp_effect
  exact fng_lift T.F_effect sc_effect rfl rfl fun cdv A outer s H E0 E hfx hr hg =>
  have nd : (["size", "commands"] : List Str).Nodup := sc_effect.nd
  (ls_cons (ls_expr (l_call (ok_check_size T) (hr.mono (by decide)) hg (by rfl) T.m_check_size T.F_check_size.kp (bd_check_size T) (l_acons (l_name 0 (pv 0) (Nat.le_of_ble_eq_true rfl)) l_anil)))
 (ls_cons (ls_expr (l_call (ok_check_script T) (hr.mono (by decide)) hg (by rfl) T.m_check_script T.F_check_script.kp (bd_check_script T) (l_acons (l_name 0 (pv 0) (Nat.le_of_ble_eq_true rfl)) (l_acons (l_name 1 (pv 1) (Nat.le_of_ble_eq_true rfl)) l_anil))))
 (ls_one (ls_ret (l_call (ok_effect_in T) (hr.mono (by decide)) hg (by rfl) T.m_effect_in T.F_effect_in.kp (bd_effect_in T) (l_acons (l_name 0 (pv 0) (Nat.le_of_ble_eq_true rfl)) (l_acons (l_name 1 (pv 1) (Nat.le_of_ble_eq_true rfl)) l_anil)))))))
theorem sc_check_scripts : FnScope ["size", "first", "second"] ["size", "first", "second"] (defScope s_check_scripts) := ⟨rfl, rfl, rfl, by decide +kernel, rfl, by decide +kernel, by decide +kernel⟩
set_option maxHeartbeats 4000000 in
theorem ok_check_scripts (T : Tx P K mg) : FnG P w K mg base CX0 2 T.a_check_scripts T.fd_check_scripts ["size", "first", "second"] (liftSp K 3 [] sp_check_scripts) := by
  unfold sp_check_scripts
  exact fng_lift T.F_check_scripts sc_check_scripts rfl rfl fun cdv A outer s H E0 E hfx hr hg =>
  have nd : (["size", "first", "second"] : List Str).Nodup := sc_check_scripts.nd
  (ls_cons (ls_expr (l_call (ok_check_size T) (hr.mono (by decide)) hg (by rfl) T.m_check_size T.F_check_size.kp (bd_check_size T) (l_acons (l_name 0 (pv 0) (Nat.le_of_ble_eq_true rfl)) l_anil)))
 (ls_cons (ls_expr (l_call (ok_check_script T) (hr.mono (by decide)) hg (by rfl) T.m_check_script T.F_check_script.kp (bd_check_script T) (l_acons (l_name 0 (pv 0) (Nat.le_of_ble_eq_true rfl)) (l_acons (l_name 1 (pv 1) (Nat.le_of_ble_eq_true rfl)) l_anil))))
 (ls_one (ls_expr (l_call (ok_check_script T) (hr.mono (by decide)) hg (by rfl) T.m_check_script T.F_check_script.kp (bd_check_script T) (l_acons (l_name 0 (pv 0) (Nat.le_of_ble_eq_true rfl)) (l_acons (l_name 2 (pv 2) (Nat.le_of_ble_eq_true rfl)) l_anil)))))))
theorem sc_same_scripts : FnScope ["size", "first", "second"] ["size", "first", "second"] (defScope s_same_scripts) := ⟨rfl, rfl, rfl, by decide +kernel, rfl, by decide +kernel, by decide +kernel⟩
set_option maxHeartbeats 4000000 in
theorem ok_same_scripts (T : Tx P K mg) : FnG P w K mg base CX0 4 T.a_same_scripts T.fd_same_scripts ["size", "first", "second"] (liftSp K 3 [] sp_same_scripts) := by
  unfold sp_same_scripts
  exact fng_lift T.F_same_scripts sc_same_scripts rfl rfl fun cdv A outer s H E0 E hfx hr hg =>
  have nd : (["size", "first", "second"] : List Str).Nodup := sc_same_scripts.nd
  (ls_cons (ls_expr (l_call (ok_check_scripts T) (hr.mono (by decide)) hg (by rfl) T.m_check_scripts T.F_check_scripts.kp (bd_check_scripts T) (l_acons (l_name 0 (pv 0) (Nat.le_of_ble_eq_true rfl)) (l_acons (l_name 1 (pv 1) (Nat.le_of_ble_eq_true rfl)) (l_acons (l_name 2 (pv 2) (Nat.le_of_ble_eq_true rfl)) l_anil)))))
 (ls_one (ls_ret (l_v (l_e (l_cmp (op_eqP (un64 hr)) o_eq (l_e (l_call (ok_effect_in T) (hr.mono (by decide)) hg (by rfl) T.m_effect_in T.F_effect_in.kp (bd_effect_in T) (l_acons (l_name 0 (pv 0) (Nat.le_of_ble_eq_true rfl)) (l_acons (l_name 1 (pv 1) (Nat.le_of_ble_eq_true rfl)) l_anil)))) (l_e (l_call (ok_effect_in T) (hr.mono (by decide)) hg (by rfl) T.m_effect_in T.F_effect_in.kp (bd_effect_in T) (l_acons (l_name 0 (pv 0) (Nat.le_of_ble_eq_true rfl)) (l_acons (l_name 2 (pv 2) (Nat.le_of_ble_eq_true rfl)) l_anil)))) (nomark _)))))))
theorem sc_turns_of : GScope ["size", "commands", "before", "command", "after"] ["size", "commands"] (defScope s_turns_of) := ⟨rfl, rfl, rfl, by decide +kernel, rfl, by decide +kernel, by decide +kernel⟩
set_option maxHeartbeats 4000000 in
theorem ok_turns_of (T : Tx P K mg) : GGn P w K mg base 2 T.a_turns_of T.fd_turns_of ["size", "commands"] sp_turns_of := by
  unfold sp_turns_of
  refine ggn_of T.F_turns_of sc_turns_of rfl (by decide +kernel) fun G hP hw hK hmg hb hN hsc ok hr hg => ?_
  obtain ⟨P0, w0, K0, mg0, base0, N0, qual0, scope0, f0, cd0, A0, outer0, n0⟩ := G
  cases hP; cases hw; cases hK; cases hmg; cases hb; cases hN; cases hsc
  have nd : (["size", "commands", "before", "command", "after"] : List Str).Nodup := sc_turns_of.nd
  exact (gs_cons (gs_plain (fun s0 H0 E hE => (ls_set (i := 2) (Nat.le_of_ble_eq_true rfl) ((show ∀ i : Nat, i ∉ ([] : List Nat) → E.fix i = none from fun i _ => hE i) 2 (by decide)) (fun te he => ps_set nd rfl (Or.inl rfl) he) (l_call (ok_descending T) (hr.mono (by decide)) hg (by rfl) T.m_descending T.F_descending.kp (bd_descending T) (l_acons (l_name 0 (pv 0) (Nat.le_of_ble_eq_true rfl)) l_anil)))))
 (gs_one (gs_for (t := (.nm 3)) ok (fun s0 H0 E hE => (lj_list (l_name 1 (pv 1) (Nat.le_of_ble_eq_true rfl)))) (fun s0 H0 => (pg_nm (pg_name (i := 3) nd rfl (Or.inl rfl)))) rfl (gs_cons (gs_plain (fun s0 H0 E hE => (ls_set (i := 4) (Nat.le_of_ble_eq_true rfl) ((show ∀ i : Nat, i ∉ ([] : List Nat) → E.fix i = none from fun i _ => hE i) 4 (by decide)) (fun te he => ps_set nd rfl (Or.inl rfl) he) (l_call (ok_after_command T) (hr.mono (by decide)) hg (by rfl) T.m_after_command T.F_after_command.kp (bd_after_command T) (l_acons (l_name 2 (pv 2) (Nat.le_of_ble_eq_true rfl)) (l_acons (l_name 3 (pv 3) (Nat.le_of_ble_eq_true rfl)) l_anil))))))
 (gs_cons (gs_yield ok (fun s0 H0 E hE => (l_e (l_tup (l_acons (l_name 2 (pv 2) (Nat.le_of_ble_eq_true rfl)) (l_acons (l_name 4 (pv 4) (Nat.le_of_ble_eq_true rfl)) l_anil))))))
 (gs_one (gs_plain (fun s0 H0 E hE => (ls_set (i := 2) (Nat.le_of_ble_eq_true rfl) ((show ∀ i : Nat, i ∉ ([] : List Nat) → E.fix i = none from fun i _ => hE i) 2 (by decide)) (fun te he => ps_set nd rfl (Or.inl rfl) he) (l_v (l_name 4 (pv 4) (Nat.le_of_ble_eq_true rfl))))))))))))
theorem sc_trimmed : FnScope ["size", "commands", "found", "before", "after", "places", "place"] ["size", "commands"] (defScope s_trimmed) := ⟨rfl, rfl, rfl, by decide +kernel, rfl, by decide +kernel, by decide +kernel⟩
set_option maxHeartbeats 4000000 in
theorem ok_trimmed (T : Tx P K mg) : FnG P w K mg base CX0 5 T.a_trimmed T.fd_trimmed ["size", "commands"] (liftSp K 2 [] sp_trimmed) := by
  unfold sp_trimmed
  exact fng_lift T.F_trimmed sc_trimmed rfl rfl fun cdv A outer s H E0 E hfx hr hg =>
  have nd : (["size", "commands", "found", "before", "after", "places", "place"] : List Str).Nodup := sc_trimmed.nd
  (ls_cons (ls_expr (l_call (ok_check_size T) (hr.mono (by decide)) hg (by rfl) T.m_check_size T.F_check_size.kp (bd_check_size T) (l_acons (l_name 0 (pv 0) (Nat.le_of_ble_eq_true rfl)) l_anil)))
 (ls_cons (ls_expr (l_call (ok_check_script T) (hr.mono (by decide)) hg (by rfl) T.m_check_script T.F_check_script.kp (bd_check_script T) (l_acons (l_name 0 (pv 0) (Nat.le_of_ble_eq_true rfl)) (l_acons (l_name 1 (pv 1) (Nat.le_of_ble_eq_true rfl)) l_anil))))
 (ls_cons (ls_set (i := 2) (Nat.le_of_ble_eq_true rfl) (hfx 2 (by decide)) (fun te he => ps_set nd rfl (Or.inl rfl) he) (l_lst l_anil))
 (ls_cons (ls_B [3, 4, 5, 6] (ls_forG (t := (.tup [(.nm 3), (.nm 4)])) (fun _ _ z => z) rfl (l_gcall (ok_turns_of T) (hr.mono (by decide)) hg (by rfl) T.m_turns_of T.F_turns_of.kp (bd_turns_of T) rfl (l_acons (l_name 0 (pv 0) (Nat.le_of_ble_eq_true rfl)) (l_acons (l_name 1 (pv 1) (Nat.le_of_ble_eq_true rfl)) l_anil))) (pg_tp rfl (pgs_c (pg_nm (pg_name (i := 3) nd rfl (Or.inr rfl))) (pgs_c (pg_nm (pg_name (i := 4) nd rfl (Or.inr rfl))) pgs_n))) (fix_all hfx rfl) (ls_W [3, 4, 5, 6] (ls_cons (ls_lc (i := 5) (own := [("place", 6)]) (t := (.nm 6)) rfl rfl (hfx 5 (by decide)) (sw_true rfl rfl rfl (by decide +kernel)) rfl nd (li_rng1 (by rfl) T.n_range (l_acons (l_name 0 (pv 0) (Nat.le_of_ble_eq_true rfl)) l_anil)) (by kernel_rfl) (mem_all rfl) (fix_all hfx rfl) (fun _ _ _ _ _ => (pg_nm (pg_name (i := 6) nd rfl (by first | exact Or.inl rfl | exact Or.inr rfl)))) (fun _ _ _ _ _ => (pts_any fun E1 hE1 => (lt_cmp (op_neP (un64 hr)) o_ne (l_ixN 3 (fun _ _ => rfl) (pv 3) (Nat.le_of_ble_eq_true rfl) (l_name 6 (pv 6) (Nat.le_of_ble_eq_true rfl))) (l_ixN 4 (fun _ _ => rfl) (pv 4) (Nat.le_of_ble_eq_true rfl) (l_name 6 (pv 6) (Nat.le_of_ble_eq_true rfl))) (nomark _)))) (fun _ _ _ _ _ => pe_any fun E1 hE1 => (l_name 6 (pv 6) (Nat.le_of_ble_eq_true rfl))))
 (ls_one (ls_if (lt_cmp (op_neP (un64 hr)) o_ne (l_name 5 (pv 5) (Nat.le_of_ble_eq_true rfl)) (l_e (l_lst l_anil)) (nomark _)) (ls_one (ls_expr (l_v (l_meth 2 m_append (Nat.le_of_ble_eq_true rfl) (fun t ht => pe_bm PySem.F.plainAttrs_list PySem.F.slot_list_append PySem.F.type_list_append mt_append (pv 2) ht) (l_acons (l_e (l_tup (l_acons (l_e (l_bin or_add o_add (l_ixN 5 (fun _ _ => rfl) (pv 5) (Nat.le_of_ble_eq_true rfl) l_int) l_int)) (l_acons (l_e (l_bin or_add o_add (l_ixN 5 (fun _ _ => rfl) (pv 5) (Nat.le_of_ble_eq_true rfl) (l_e (l_neg l_int))) l_int)) l_anil)))) l_anil))))) ls_nil))))))
 (ls_one (ls_retName 2 (pv 2)))))))
theorem sc_exchanges_in : FnScope ["wanted", "row", "found", "last", "place"] ["wanted"] (defScope s_exchanges_in) := ⟨rfl, rfl, rfl, by decide +kernel, rfl, by decide +kernel, by decide +kernel⟩
set_option maxHeartbeats 4000000 in
theorem ok_exchanges_in (T : Tx P K mg) : FnG P w K mg base CX0 1 T.a_exchanges_in T.fd_exchanges_in ["wanted"] (liftSp K 1 [] sp_exchanges_in) := by
  unfold sp_exchanges_in
  exact fng_lift T.F_exchanges_in sc_exchanges_in rfl rfl fun cdv A outer s H E0 E hfx hr hg =>
  have nd : (["wanted", "row", "found", "last", "place"] : List Str).Nodup := sc_exchanges_in.nd
  (ls_cons (ls_par2 (i := 1) (j := 2) ⟨(Nat.le_of_ble_eq_true rfl), (hfx 1 (by decide))⟩ ⟨(Nat.le_of_ble_eq_true rfl), (hfx 2 (by decide))⟩ (fun ta ha => ps_par rfl nd rfl rfl (by decide) rfl rfl ha (by rfl)) (lo_cons (l_callTy call_list_of o_copy (by rfl) T.n_list (by decide +kernel) (l_acons (l_name 0 (pv 0) (Nat.le_of_ble_eq_true rfl)) l_anil)) (fun E1 hE1 => (lo_cons (l_lst l_anil) (fun E2 hE2 => lo_nil)))))
 (ls_cons (ls_B [0, 3, 4] (ls_for (t := (.nm 3)) PassesOwn.never rfl (li_rng3 (fun ta ha => pi_range3 (by rfl) T.n_range ha) (l_acons (l_e (l_bin op_sub o_sub (l_lenM 1 (pv 1) (Nat.le_of_ble_eq_true rfl) (by rfl) T.n_len (by decide +kernel)) l_int)) (l_acons l_int (l_acons (l_e (l_neg l_int)) l_anil)))) (pg_nm (pg_name (i := 3) nd rfl (Or.inl rfl))) (fix_all hfx rfl) (ls_W [0, 3, 4] (ls_one (ls_B [0, 4] (ls_for (t := (.nm 4)) PassesOwn.never rfl (li_rng1 (by rfl) T.n_range (l_acons (l_name 3 (pv 3) (Nat.le_of_ble_eq_true rfl)) l_anil)) (pg_nm (pg_name (i := 4) nd rfl (Or.inl rfl))) (fix_all hfx rfl) (ls_W [0, 4] (ls_one (ls_if (lt_bor [1, 2, 4] (lt_cmp op_lt o_lt (l_ixN 1 (fun _ _ => rfl) (pv 1) (Nat.le_of_ble_eq_true rfl) (l_name 4 (pv 4) (Nat.le_of_ble_eq_true rfl))) (l_ixN 1 (fun _ _ => rfl) (pv 1) (Nat.le_of_ble_eq_true rfl) (l_e (l_bin or_add o_add (l_name 4 (pv 4) (Nat.le_of_ble_eq_true rfl)) l_int))) (nomark _))) (ls_cons (ls_set2 1 1 (Nat.le_of_ble_eq_true rfl) (Nat.le_of_ble_eq_true rfl) (fun te tg ti ti2 he hg hi hi2 => ps_asg (pe_tup (pa_cons he (pa_cons hg pa_nil))) (pg_tup rfl (pgs_cons (pg_sub (pv 1) hi set_list) (pgs_cons (pg_sub (pv 1) hi2 set_list) pgs_nil)))) (l_ixN 1 (fun _ _ => rfl) (pv 1) (Nat.le_of_ble_eq_true rfl) (l_e (l_bin or_add o_add (l_name 4 (pv 4) (Nat.le_of_ble_eq_true rfl)) l_int))) (l_ixN 1 (fun _ _ => rfl) (pv 1) (Nat.le_of_ble_eq_true rfl) (l_name 4 (pv 4) (Nat.le_of_ble_eq_true rfl))) (l_name 4 (pv 4) (Nat.le_of_ble_eq_true rfl)) (l_e (l_bin or_add o_add (l_name 4 (pv 4) (Nat.le_of_ble_eq_true rfl)) l_int)))
 (ls_one (ls_expr (l_v (l_meth 2 m_append (Nat.le_of_ble_eq_true rfl) (fun t ht => pe_bm PySem.F.plainAttrs_list PySem.F.slot_list_append PySem.F.type_list_append mt_append (pv 2) ht) (l_acons (l_e (l_tup (l_acons (l_e (l_bin or_add o_add (l_name 4 (pv 4) (Nat.le_of_ble_eq_true rfl)) l_int)) (l_acons (l_e (l_bin or_add o_add (l_name 4 (pv 4) (Nat.le_of_ble_eq_true rfl)) l_int)) l_anil)))) l_anil)))))) ls_nil)))))))))
 (ls_one (ls_ret (l_revL (l_name 2 (pv 2) (Nat.le_of_ble_eq_true rfl)))))))
theorem sc_exchanges : FnScope ["wanted"] ["wanted"] (defScope s_exchanges) := ⟨rfl, rfl, rfl, by decide +kernel, rfl, by decide +kernel, by decide +kernel⟩
set_option maxHeartbeats 4000000 in
theorem ok_exchanges (T : Tx P K mg) : FnG P w K mg base CX0 2 T.a_exchanges T.fd_exchanges ["wanted"] (liftSp K 1 [] sp_exchanges) := by
  unfold sp_exchanges
  exact fng_lift T.F_exchanges sc_exchanges rfl rfl fun cdv A outer s H E0 E hfx hr hg =>
  have nd : (["wanted"] : List Str).Nodup := sc_exchanges.nd
  (ls_cons (ls_expr (l_call (ok_check_arrangement T) (hr.mono (by decide)) hg (by rfl) T.m_check_arrangement T.F_check_arrangement.kp (bd_check_arrangement T) (l_acons (l_name 0 (pv 0) (Nat.le_of_ble_eq_true rfl)) l_anil)))
 (ls_one (ls_ret (l_call (ok_exchanges_in T) (hr.mono (by decide)) hg (by rfl) T.m_exchanges_in T.F_exchanges_in.kp (bd_exchanges_in T) (l_acons (l_name 0 (pv 0) (Nat.le_of_ble_eq_true rfl)) l_anil)))))
theorem sc_law_rng : FnScope ["script", "digits", "seed", "cell", "far"] ["script"] (defScope s_law_rng) := ⟨rfl, rfl, rfl, by decide +kernel, rfl, by decide +kernel, by decide +kernel⟩
set_option maxHeartbeats 4000000 in
theorem ok_law_rng (T : Tx P K mg) : FnG P w K mg base CX0 1 T.a_law_rng T.fd_law_rng ["script"] (liftSp K 1 [0] sp_law_rng) := by
  unfold sp_law_rng
  exact fng_lift T.F_law_rng sc_law_rng rfl rfl fun cdv A outer s H E0 E hfx hr hg =>
  have nd : (["script", "digits", "seed", "cell", "far"] : List Str).Nodup := sc_law_rng.nd
  (ls_cons (ls_parN (is := [1, 2]) (by decide) (fix_all (l := [1, 2]) hfx rfl) (fun ta ha => ps_asg (pe_tup ha) (pg_tup rfl (pgs_cons (pg_name (i := 1) nd rfl (Or.inl rfl)) (pgs_cons (pg_name (i := 2) nd rfl (Or.inl rfl)) pgs_nil)))) (lo_cons (l_v l_int) (fun E1 hE1 => (lo_cons (l_v l_int) (fun E2 hE2 => lo_nil)))))
 (ls_cons (ls_B [3, 4] (ls_for (t := (.nm 3)) PassesOwn.never rfl (li_list (l_e (l_sliceN 0 (pv 0) (Nat.le_of_ble_eq_true rfl) lb_none (lb_some l_int)))) (pg_nm (pg_name (i := 3) nd rfl (Or.inl rfl))) (fix_all hfx rfl) (ls_W [3, 4] (ls_cons (ls_set (i := 4) (Nat.le_of_ble_eq_true rfl) (hfx 4 (by decide)) (fun te he => ps_set nd rfl (Or.inl rfl) he) (l_v (l_e (l_callB call_abs o_abs (by rfl) T.n_abs (by decide +kernel) (l_acons (l_name 3 (pv 3) (Nat.le_of_ble_eq_true rfl)) l_anil)))))
 (ls_cons (ls_if (lt_cmp op_ge o_ge (l_name 4 (pv 4) (Nat.le_of_ble_eq_true rfl)) (l_e (l_bin or_pow o_pow l_int l_int)) (nomark _)) (ls_one (ls_set (i := 1) (Nat.le_of_ble_eq_true rfl) (hfx 1 (by decide)) (fun te he => ps_set nd rfl (Or.inl rfl) he) (l_bin or_add o_add (l_e (l_bin or_mul o_mul (l_name 1 (pv 1) (Nat.le_of_ble_eq_true rfl)) (l_e (l_bin or_pow o_pow l_int l_int)))) (l_e (l_bin op_mod o_mod (l_name 4 (pv 4) (Nat.le_of_ble_eq_true rfl)) (l_e (l_bin or_pow o_pow l_int l_int))))))) ls_nil)
 (ls_one (ls_set (i := 2) (Nat.le_of_ble_eq_true rfl) (hfx 2 (by decide)) (fun te he => ps_set nd rfl (Or.inl rfl) he) (l_bin op_mod o_mod (l_e (l_bin or_add o_add (l_e (l_bin or_add o_add (l_e (l_bin or_mul o_mul (l_name 2 (pv 2) (Nat.le_of_ble_eq_true rfl)) l_int)) (l_e (l_bin op_mod o_mod (l_name 3 (pv 3) (Nat.le_of_ble_eq_true rfl)) l_int)))) l_int)) l_int))))))))
 (ls_one (ls_ret (l_lst (l_acons (l_name 1 (pv 1) (Nat.le_of_ble_eq_true rfl)) (l_acons (l_name 2 (pv 2) (Nat.le_of_ble_eq_true rfl)) (l_acons l_int l_anil))))))))
theorem sc_law_draw : FnScope ["rng", "limit", "found", "mixed"] ["rng", "limit"] (defScope s_law_draw) := ⟨rfl, rfl, rfl, by decide +kernel, rfl, by decide +kernel, by decide +kernel⟩
set_option maxHeartbeats 4000000 in
theorem ok_law_draw (T : Tx P K mg) : FnG P w K mg base CX0 1 T.a_law_draw T.fd_law_draw ["rng", "limit"] (liftSp K 2 [0] sp_law_draw) := by
  unfold sp_law_draw
  exact fng_lift T.F_law_draw sc_law_draw rfl rfl fun cdv A outer s H E0 E hfx hr hg =>
  have nd : (["rng", "limit", "found", "mixed"] : List Str).Nodup := sc_law_draw.nd
  (ls_cons (ls_if (lt_bor [0] (lt_cmp op_gt o_gt (l_ixN 0 (fun _ _ => rfl) (pv 0) (Nat.le_of_ble_eq_true rfl) l_int) l_int (nomark _))) (ls_cons (ls_set (i := 2) (Nat.le_of_ble_eq_true rfl) (hfx 2 (by decide)) (fun te he => ps_set nd rfl (Or.inl rfl) he) (l_bin op_mod o_mod (l_ixN 0 (fun _ _ => rfl) (pv 0) (Nat.le_of_ble_eq_true rfl) l_int) (l_name 1 (pv 1) (Nat.le_of_ble_eq_true rfl))))
 (ls_cons (ls_setIx 0 (Nat.le_of_ble_eq_true rfl) (fun te ti he hi => ps_asg he (pg_sub (pv 0) hi set_list)) (l_e (l_bin op_fdivW o_fdiv (l_ixN 0 (fun _ _ => rfl) (pv 0) (Nat.le_of_ble_eq_true rfl) l_int) (l_name 1 (pv 1) (Nat.le_of_ble_eq_true rfl)))) l_int)
 (ls_one (ls_retName 2 (pv 2))))) ls_nil)
 (ls_cons (ls_setIx 0 (Nat.le_of_ble_eq_true rfl) (fun te ti he hi => ps_asg he (pg_sub (pv 0) hi set_list)) (l_e (l_bin or_add o_add (l_ixN 0 (fun _ _ => rfl) (pv 0) (Nat.le_of_ble_eq_true rfl) l_int) l_int)) l_int)
 (ls_cons (ls_set (i := 3) (Nat.le_of_ble_eq_true rfl) (hfx 3 (by decide)) (fun te he => ps_set nd rfl (Or.inl rfl) he) (l_bin op_mod o_mod (l_e (l_bin or_pow o_pow (l_e (l_bin or_add o_add (l_ixN 0 (fun _ _ => rfl) (pv 0) (Nat.le_of_ble_eq_true rfl) l_int) (l_e (l_bin or_mul o_mul l_int (l_ixN 0 (fun _ _ => rfl) (pv 0) (Nat.le_of_ble_eq_true rfl) l_int))))) l_int)) l_int))
 (ls_cons (ls_set (i := 3) (Nat.le_of_ble_eq_true rfl) (hfx 3 (by decide)) (fun te he => ps_set nd rfl (Or.inl rfl) he) (l_bin op_mod o_mod (l_e (l_bin or_pow o_pow (l_e (l_bin or_add o_add (l_name 3 (pv 3) (Nat.le_of_ble_eq_true rfl)) (l_e (l_bin or_mul o_mul l_int (l_ixN 0 (fun _ _ => rfl) (pv 0) (Nat.le_of_ble_eq_true rfl) l_int))))) l_int)) l_int))
 (ls_one (ls_ret (l_bin op_mod o_mod (l_e (l_bin op_fdivW o_fdiv (l_name 3 (pv 3) (Nat.le_of_ble_eq_true rfl)) l_int)) (l_name 1 (pv 1) (Nat.le_of_ble_eq_true rfl)))))))))
theorem sc_law_commands : FnScope ["rng", "wide", "most", "found", "turn", "early", "late", "again"] ["rng", "wide", "most"] (defScope s_law_commands) := ⟨rfl, rfl, rfl, by decide +kernel, rfl, by decide +kernel, by decide +kernel⟩
set_option maxHeartbeats 4000000 in
theorem ok_law_commands (T : Tx P K mg) : FnG P w K mg base CX0 2 T.a_law_commands T.fd_law_commands ["rng", "wide", "most"] (liftSp K 3 [0] sp_law_commands) := by
  unfold sp_law_commands
  exact fng_lift T.F_law_commands sc_law_commands rfl rfl fun cdv A outer s H E0 E hfx hr hg =>
  have nd : (["rng", "wide", "most", "found", "turn", "early", "late", "again"] : List Str).Nodup := sc_law_commands.nd
  (ls_cons (ls_set (i := 3) (Nat.le_of_ble_eq_true rfl) (hfx 3 (by decide)) (fun te he => ps_set nd rfl (Or.inl rfl) he) (l_lst l_anil))
 (ls_cons (ls_B [4, 5, 6, 7] (ls_for (t := (.nm 4)) PassesOwn.never rfl (li_rng1 (by rfl) T.n_range (l_acons (l_e (l_call (ok_law_draw T) (hr.mono (by decide)) hg (by rfl) T.m_law_draw T.F_law_draw.kp (bd_law_draw T) (l_alend 0 (pv 0) (Nat.le_of_ble_eq_true rfl) (l_acons (l_e (l_bin or_add o_add (l_name 2 (pv 2) (Nat.le_of_ble_eq_true rfl)) l_int)) l_anil)))) l_anil)) (pg_nm (pg_name (i := 4) nd rfl (Or.inl rfl))) (fix_all hfx rfl) (ls_W [4, 5, 6, 7] (ls_cons (ls_set (i := 5) (Nat.le_of_ble_eq_true rfl) (hfx 5 (by decide)) (fun te he => ps_set nd rfl (Or.inl rfl) he) (l_bin or_add o_add l_int (l_e (l_call (ok_law_draw T) (hr.mono (by decide)) hg (by rfl) T.m_law_draw T.F_law_draw.kp (bd_law_draw T) (l_alend 0 (pv 0) (Nat.le_of_ble_eq_true rfl) (l_acons (l_name 1 (pv 1) (Nat.le_of_ble_eq_true rfl)) l_anil))))))
 (ls_cons (ls_set (i := 6) (Nat.le_of_ble_eq_true rfl) (hfx 6 (by decide)) (fun te he => ps_set nd rfl (Or.inl rfl) he) (l_ix (fun _ _ => rfl) (l_e (l_lst (l_acons (l_name 5 (pv 5) (Nat.le_of_ble_eq_true rfl)) (l_acons (l_e (l_callB (c_min rfl) o_min (by rfl) T.n_min (by decide +kernel) (l_acons (l_name 1 (pv 1) (Nat.le_of_ble_eq_true rfl)) (l_acons (l_e (l_bin or_add o_add (l_name 5 (pv 5) (Nat.le_of_ble_eq_true rfl)) l_int)) l_anil)))) (l_acons (l_e (l_bin or_add o_add (l_name 5 (pv 5) (Nat.le_of_ble_eq_true rfl)) (l_e (l_call (ok_law_draw T) (hr.mono (by decide)) hg (by rfl) T.m_law_draw T.F_law_draw.kp (bd_law_draw T) (l_alend 0 (pv 0) (Nat.le_of_ble_eq_true rfl) (l_acons (l_e (l_bin or_add o_add (l_e (l_bin op_sub o_sub (l_name 1 (pv 1) (Nat.le_of_ble_eq_true rfl)) (l_name 5 (pv 5) (Nat.le_of_ble_eq_true rfl)))) l_int)) l_anil)))))) (l_acons (l_name 1 (pv 1) (Nat.le_of_ble_eq_true rfl)) l_anil)))))) (l_e (l_call (ok_law_draw T) (hr.mono (by decide)) hg (by rfl) T.m_law_draw T.F_law_draw.kp (bd_law_draw T) (l_alend 0 (pv 0) (Nat.le_of_ble_eq_true rfl) (l_acons l_int l_anil))))))
 (ls_cons (ls_set (i := 7) (Nat.le_of_ble_eq_true rfl) (hfx 7 (by decide)) (fun te he => ps_set nd rfl (Or.inl rfl) he) (l_v (l_bor [3] (l_and (l_e (l_cmp (op_neP (un64 hr)) o_ne (l_name 3 (pv 3) (Nat.le_of_ble_eq_true rfl)) (l_e (l_lst l_anil)) (nomark _))) (l_one (l_e (l_cmp (op_eqP (un64 hr)) o_eq (l_e (l_call (ok_law_draw T) (hr.mono (by decide)) hg (by rfl) T.m_law_draw T.F_law_draw.kp (bd_law_draw T) (l_alend 0 (pv 0) (Nat.le_of_ble_eq_true rfl) (l_acons l_int l_anil)))) l_int (nomark _))))))))
 (ls_one (ls_expr (l_v (l_meth 3 m_append (Nat.le_of_ble_eq_true rfl) (fun t ht => pe_bm PySem.F.plainAttrs_list PySem.F.slot_list_append PySem.F.type_list_append mt_append (pv 3) ht) (l_acons (l_ifE (lt_val (l_v (l_name 7 (pv 7) (Nat.le_of_ble_eq_true rfl)))) (l_ixN 3 (fun _ _ => rfl) (pv 3) (Nat.le_of_ble_eq_true rfl) (l_e (l_neg l_int))) (l_e (l_tup (l_acons (l_name 5 (pv 5) (Nat.le_of_ble_eq_true rfl)) (l_acons (l_name 6 (pv 6) (Nat.le_of_ble_eq_true rfl)) l_anil))))) l_anil)))))))))))
 (ls_one (ls_retName 3 (pv 3)))))
theorem sc_law_arranged : FnScope ["rng", "wide", "left", "found"] ["rng", "wide"] (defScope s_law_arranged) := ⟨rfl, rfl, rfl, by decide +kernel, rfl, by decide +kernel, by decide +kernel⟩
set_option maxHeartbeats 4000000 in
theorem ok_law_arranged (T : Tx P K mg) : FnG P w K mg base CX0 2 T.a_law_arranged T.fd_law_arranged ["rng", "wide"] (liftSp K 2 [0] sp_law_arranged) := by
  unfold sp_law_arranged
  exact fng_lift T.F_law_arranged sc_law_arranged rfl rfl fun cdv A outer s H E0 E hfx hr hg =>
  have nd : (["rng", "wide", "left", "found"] : List Str).Nodup := sc_law_arranged.nd
  (ls_cons (ls_par2 (i := 2) (j := 3) ⟨(Nat.le_of_ble_eq_true rfl), (hfx 2 (by decide))⟩ ⟨(Nat.le_of_ble_eq_true rfl), (hfx 3 (by decide))⟩ (fun ta ha => ps_par rfl nd rfl rfl (by decide) rfl rfl ha (by rfl)) (lo_cons (l_listRng rfl rfl (by rfl) T.n_list (by rfl) T.n_range (l_acons l_int (l_acons (l_e (l_bin or_add o_add (l_name 1 (pv 1) (Nat.le_of_ble_eq_true rfl)) l_int)) l_anil)) (by rfl) (by rfl) (by rfl)) (fun E1 hE1 => (lo_cons (l_lst l_anil) (fun E2 hE2 => lo_nil)))))
 (ls_cons (ls_B [1] (ls_while PassesOwn.never (lt_bor [0, 2, 3] (lt_cmp (op_neP (un64 hr)) o_ne (l_name 2 (pv 2) (Nat.le_of_ble_eq_true rfl)) (l_e (l_lst l_anil)) (nomark _))) (ls_W [1] (ls_one (ls_expr (l_v (l_meth 3 m_append (Nat.le_of_ble_eq_true rfl) (fun t ht => pe_bm PySem.F.plainAttrs_list PySem.F.slot_list_append PySem.F.type_list_append mt_append (pv 3) ht) (l_acons (l_meth 2 m_popAt (Nat.le_of_ble_eq_true rfl) (fun t ht => pe_bm PySem.F.plainAttrs_list PySem.F.slot_list_pop PySem.F.type_list_pop mt_popAt (pv 2) ht) (l_acons (l_e (l_call (ok_law_draw T) (hr.mono (by decide)) hg (by rfl) T.m_law_draw T.F_law_draw.kp (bd_law_draw T) (l_alend 0 (pv 0) (Nat.le_of_ble_eq_true rfl) (l_acons (l_lenM 2 (pv 2) (Nat.le_of_ble_eq_true rfl) (by rfl) T.n_len (by decide +kernel)) l_anil)))) l_anil)) l_anil))))))))
 (ls_one (ls_retName 3 (pv 3)))))
theorem sc_law_values : FnScope ["rng", "wide", "way", "low", "many", "found", "place"] ["rng", "wide"] (defScope s_law_values) := ⟨rfl, rfl, rfl, by decide +kernel, rfl, by decide +kernel, by decide +kernel⟩
set_option maxHeartbeats 4000000 in
theorem ok_law_values (T : Tx P K mg) : FnG P w K mg base CX0 3 T.a_law_values T.fd_law_values ["rng", "wide"] (liftSp K 2 [0] sp_law_values) := by
  unfold sp_law_values
  exact fng_lift T.F_law_values sc_law_values rfl rfl fun cdv A outer s H E0 E hfx hr hg =>
  have nd : (["rng", "wide", "way", "low", "many", "found", "place"] : List Str).Nodup := sc_law_values.nd
  (ls_cons (ls_set (i := 2) (Nat.le_of_ble_eq_true rfl) (hfx 2 (by decide)) (fun te he => ps_set nd rfl (Or.inl rfl) he) (l_call (ok_law_draw T) (hr.mono (by decide)) hg (by rfl) T.m_law_draw T.F_law_draw.kp (bd_law_draw T) (l_alend 0 (pv 0) (Nat.le_of_ble_eq_true rfl) (l_acons l_int l_anil))))
 (ls_cons (ls_if (lt_cmp (op_eqP (un64 hr)) o_eq (l_name 2 (pv 2) (Nat.le_of_ble_eq_true rfl)) l_int (nomark _)) (ls_one (ls_ret (l_call (ok_law_arranged T) (hr.mono (by decide)) hg (by rfl) T.m_law_arranged T.F_law_arranged.kp (bd_law_arranged T) (l_alend 0 (pv 0) (Nat.le_of_ble_eq_true rfl) (l_acons (l_name 1 (pv 1) (Nat.le_of_ble_eq_true rfl)) l_anil))))) ls_nil)
 (ls_cons (ls_unp (t := (.tup [(.nm 3), (.nm 4)])) (fix_all hfx rfl) (fun te he => ps_asg he (pg_tp rfl (pgs_c (pg_nm (pg_name (i := 3) nd rfl (Or.inr rfl))) (pgs_c (pg_nm (pg_name (i := 4) nd rfl (Or.inr rfl))) pgs_n)))) (l_e (l_ix (fun _ _ => rfl) (l_e (l_lst (l_acons (l_e (l_tup (l_acons l_int (l_acons l_int l_anil)))) (l_acons (l_e (l_tup (l_acons (l_e (l_bin op_sub o_sub l_int (l_e (l_bin or_pow o_pow l_int l_int)))) (l_acons (l_e (l_bin or_add o_add (l_e (l_bin or_mul o_mul l_int (l_e (l_bin or_pow o_pow l_int l_int)))) l_int)) l_anil)))) (l_acons (l_e (l_tup (l_acons l_int (l_acons l_int l_anil)))) (l_acons (l_e (l_tup (l_acons l_int (l_acons l_int l_anil)))) (l_acons (l_e (l_tup (l_acons (l_e (l_bin op_sub o_sub l_int l_int)) (l_acons l_int l_anil)))) l_anil))))))) (l_name 2 (pv 2) (Nat.le_of_ble_eq_true rfl)))))
 (ls_cons (ls_lc (i := 5) (own := [("place", 6)]) (t := (.nm 6)) rfl rfl (hfx 5 (by decide)) (sw_true rfl rfl rfl (by decide +kernel)) rfl nd (li_rng1 (by rfl) T.n_range (l_acons (l_name 1 (pv 1) (Nat.le_of_ble_eq_true rfl)) l_anil)) (by kernel_rfl) (mem_all rfl) (fix_all hfx rfl) (fun _ _ _ _ _ => (pg_nm (pg_name (i := 6) nd rfl (by first | exact Or.inl rfl | exact Or.inr rfl)))) (fun _ _ _ _ _ => pts_yes) (fun _ _ _ _ _ => pe_any fun E1 hE1 => (l_e (l_bin or_add o_add (l_name 3 (pv 3) (Nat.le_of_ble_eq_true rfl)) (l_e (l_call (ok_law_draw T) (hr.mono (by decide)) hg (by rfl) T.m_law_draw T.F_law_draw.kp (bd_law_draw T) (l_alend 0 (pv 0) (Nat.le_of_ble_eq_true rfl) (l_acons (l_name 4 (pv 4) (Nat.le_of_ble_eq_true rfl)) l_anil))))))))
 (ls_one (ls_ret (l_v (l_ifE (lt_cmp (op_eqP (un64 hr)) o_eq (l_name 2 (pv 2) (Nat.le_of_ble_eq_true rfl)) l_int (nomark _)) (l_e (l_sortedR (by rfl) T.n_sorted (by decide +kernel) (l_acons (l_name 5 (pv 5) (Nat.le_of_ble_eq_true rfl)) l_anil) (lk_cons l_bl lk_nil))) (l_name 5 (pv 5) (Nat.le_of_ble_eq_true rfl))))))))))
theorem sc_law_kept : FnScope ["line", "told"] ["line"] (defScope s_law_kept) := ⟨rfl, rfl, rfl, by decide +kernel, rfl, by decide +kernel, by decide +kernel⟩
set_option maxHeartbeats 4000000 in
theorem ok_law_kept (T : Tx P K mg) : FnG P w K mg base CX0 5 T.a_law_kept T.fd_law_kept ["line"] (liftSp K 1 [] sp_law_kept) := by
  unfold sp_law_kept
  exact fng_lift T.F_law_kept sc_law_kept rfl rfl fun cdv A outer s H E0 E hfx hr hg =>
  have nd : (["line", "told"] : List Str).Nodup := sc_law_kept.nd
  (ls_cons (ls_tryN (cs := fun k => List.lookup k [(0, true)]) rfl rfl ⟨by rfl, by decide, Or.inl T.mE_Unreadable⟩ T.cs_Unreadable (fun _ => PassesOwnAt.never) (fun W pn xe R E1 hE1 tk po lk => (ls_one (ls_set (i := 1) (Nat.le_of_ble_eq_true rfl) ((fun i hi => (congrFun hE1 i).trans (hfx i hi)) 1 (by decide)) (fun te he => ps_set nd rfl (Or.inl rfl) he) (l_call (ok_show_script T) (hr.mono (by decide)) hg (by rfl) T.m_show_script T.F_show_script.kp (bd_show_script T) (l_acons (l_e (l_callX rfl (okx_read_script T) (hr.mono (by decide)) hg (by rfl) T.m_read_script T.F_read_script.kp (bd_read_script T) tk lk (l_acons (l_name 0 (pv 0) (Nat.le_of_ble_eq_true rfl)) l_anil))) l_anil)))))
 (fun a oe pn => (ls_one (ls_set (i := 1) (Nat.le_of_ble_eq_true rfl) (hfx 1 (by decide)) (fun te he => ps_set nd rfl (Or.inl rfl) he) (l_v (l_name 0 (pv 0) (Nat.le_of_ble_eq_true rfl)))))))
 (ls_one (ls_ret (l_v (l_e (l_cmp (op_eqP (un64 hr)) o_eq (l_name 1 (pv 1) (Nat.le_of_ble_eq_true rfl)) (l_name 0 (pv 0) (Nat.le_of_ble_eq_true rfl)) (nomark _)))))))
theorem sc_law_spoilt : FnScope ["rng", "line", "cut", "sign"] ["rng", "line"] (defScope s_law_spoilt) := ⟨rfl, rfl, rfl, by decide +kernel, rfl, by decide +kernel, by decide +kernel⟩
set_option maxHeartbeats 4000000 in
theorem ok_law_spoilt (T : Tx P K mg) : FnG P w K mg base CX0 2 T.a_law_spoilt T.fd_law_spoilt ["rng", "line"] (liftSp K 2 [0] sp_law_spoilt) := by
  unfold sp_law_spoilt
  exact fng_lift T.F_law_spoilt sc_law_spoilt rfl rfl fun cdv A outer s H E0 E hfx hr hg =>
  have nd : (["rng", "line", "cut", "sign"] : List Str).Nodup := sc_law_spoilt.nd
  (ls_cons (ls_set (i := 2) (Nat.le_of_ble_eq_true rfl) (hfx 2 (by decide)) (fun te he => ps_set nd rfl (Or.inl rfl) he) (l_call (ok_law_draw T) (hr.mono (by decide)) hg (by rfl) T.m_law_draw T.F_law_draw.kp (bd_law_draw T) (l_alend 0 (pv 0) (Nat.le_of_ble_eq_true rfl) (l_acons (l_e (l_bin or_add o_add (l_lenM 1 (pv 1) (Nat.le_of_ble_eq_true rfl) (by rfl) T.n_len (by decide +kernel)) l_int)) l_anil))))
 (ls_cons (ls_set (i := 3) (Nat.le_of_ble_eq_true rfl) (hfx 3 (by decide)) (fun te he => ps_set nd rfl (Or.inl rfl) he) (l_bin op_mulS o_mulS (l_e (l_ix (fun _ _ => rfl) l_str (l_e (l_call (ok_law_draw T) (hr.mono (by decide)) hg (by rfl) T.m_law_draw T.F_law_draw.kp (bd_law_draw T) (l_alend 0 (pv 0) (Nat.le_of_ble_eq_true rfl) (l_acons l_int l_anil)))))) (l_e (l_call (ok_law_draw T) (hr.mono (by decide)) hg (by rfl) T.m_law_draw T.F_law_draw.kp (bd_law_draw T) (l_alend 0 (pv 0) (Nat.le_of_ble_eq_true rfl) (l_acons l_int l_anil))))))
 (ls_cons (ls_set (i := 3) (Nat.le_of_ble_eq_true rfl) (hfx 3 (by decide)) (fun te he => ps_set nd rfl (Or.inl rfl) he) (l_v (l_ifE (lt_cmp op_in_sign o_inS l_str (l_e (l_sliceS (l_name 1 (pv 1) (Nat.le_of_ble_eq_true rfl)) (lb_some (l_e (l_callB (c_max rfl) o_max (by rfl) T.n_max (by decide +kernel) (l_acons l_int (l_acons (l_e (l_bin op_sub o_sub (l_name 2 (pv 2) (Nat.le_of_ble_eq_true rfl)) l_int)) l_anil))))) (lb_some (l_name 2 (pv 2) (Nat.le_of_ble_eq_true rfl))))) (by rfl)) l_str (l_name 3 (pv 3) (Nat.le_of_ble_eq_true rfl)))))
 (ls_one (ls_ret (l_bin or_add o_add (l_e (l_bin or_add o_add (l_e (l_sliceS (l_name 1 (pv 1) (Nat.le_of_ble_eq_true rfl)) lb_none (lb_some (l_name 2 (pv 2) (Nat.le_of_ble_eq_true rfl))))) (l_name 3 (pv 3) (Nat.le_of_ble_eq_true rfl)))) (l_e (l_sliceS (l_name 1 (pv 1) (Nat.le_of_ble_eq_true rfl)) (lb_some (l_e (l_bin or_add o_add (l_name 2 (pv 2) (Nat.le_of_ble_eq_true rfl)) (l_e (l_bin or_mul o_mul (l_e (l_call (ok_law_draw T) (hr.mono (by decide)) hg (by rfl) T.m_law_draw T.F_law_draw.kp (bd_law_draw T) (l_alend 0 (pv 0) (Nat.le_of_ble_eq_true rfl) (l_acons l_int l_anil)))) (l_e (l_callTy call_int1 o_int (by rfl) T.n_int (by decide +kernel) (l_acons (l_e (l_cmp (op_neP (un64 hr)) o_ne (l_name 3 (pv 3) (Nat.le_of_ble_eq_true rfl)) l_str (nomark _))) l_anil)))))))) lb_none))))))))
theorem sc_law_is_short : FnScope ["one", "word"] ["one"] (defScope s_law_is_short) := ⟨rfl, rfl, rfl, by decide +kernel, rfl, by decide +kernel, by decide +kernel⟩
set_option maxHeartbeats 4000000 in
theorem ok_law_is_short (T : Tx P K mg) : FnG P w K mg base CX0 1 T.a_law_is_short T.fd_law_is_short ["one"] (liftSp K 1 [] sp_law_is_short) := by
  unfold sp_law_is_short
  exact fng_lift T.F_law_is_short sc_law_is_short rfl rfl fun cdv A outer s H E0 E hfx hr hg =>
  have nd : (["one", "word"] : List Str).Nodup := sc_law_is_short.nd
  (ls_one (ls_ret (l_v (l_e (l_cmp (op_eqP (un64 hr)) o_eq (l_e (l_lc (own := [("word", 1)]) (t := (.nm 1)) rfl nd (li_list (l_e (l_split (l_name 0 (pv 0) (Nat.le_of_ble_eq_true rfl)) l_str))) (by kernel_rfl) (mem_all rfl) (fix_all hfx rfl) (fun _ _ _ _ _ => (pg_nm (pg_name (i := 1) nd rfl (by first | exact Or.inl rfl | exact Or.inr rfl)))) (fun _ _ _ _ _ => (pts_any fun E1 hE1 => (PW.pt (lw_and (lt_cmp op_in_sign o_inS l_str (l_name 1 (pv 1) (Nat.le_of_ble_eq_true rfl)) (by rfl)) (lw_and1 (lt_cmp op_gt o_gt (l_e (l_callB c_len o_len (by rfl) T.n_len (by decide +kernel) (l_acons (l_e (l_ix (fun _ _ => rfl) (l_e (l_split (l_name 1 (pv 1) (Nat.le_of_ble_eq_true rfl)) l_str)) (l_e (l_neg l_int)))) l_anil))) l_int (nomark _))))))) (fun _ _ _ _ _ => pe_any fun E1 hE1 => l_int))) (l_e (l_lst l_anil)) (nomark _))))))
theorem sc_law : FnScope ["script", "rng", "lap", "wide", "some", "other", "written", "again", "spoilt", "line", "wanted", "more", "back"] ["script"] (defScope s_law) := ⟨rfl, rfl, rfl, by decide +kernel, rfl, by decide +kernel, by decide +kernel⟩
set_option maxHeartbeats 4000000 in
theorem ok_law (T : Tx P K mg) : FnG P w K mg base CX0 6 T.a_law T.fd_law ["script"] (liftSp K 1 [0] sp_law) := by
  unfold sp_law
  exact fng_lift T.F_law sc_law rfl rfl fun cdv A outer s H E0 E hfx hr hg =>
  have nd : (["script", "rng", "lap", "wide", "some", "other", "written", "again", "spoilt", "line", "wanted", "more", "back"] : List Str).Nodup := sc_law.nd
  (ls_cons (ls_set (i := 1) (Nat.le_of_ble_eq_true rfl) (hfx 1 (by decide)) (fun te he => ps_set nd rfl (Or.inl rfl) he) (l_call (ok_law_rng T) (hr.mono (by decide)) hg (by rfl) T.m_law_rng T.F_law_rng.kp (bd_law_rng T) (l_alend 0 (pv 0) (Nat.le_of_ble_eq_true rfl) l_anil)))
 (ls_cons (ls_B [2, 3, 4, 5, 6, 7, 8, 9, 10, 11, 12] (ls_for (t := (.nm 2)) PassesOwn.never rfl (li_rng1 (by rfl) T.n_range (l_acons (l_e (l_bin or_add o_add l_int (l_e (l_callB (c_min rfl) o_min (by rfl) T.n_min (by decide +kernel) (l_acons l_int (l_acons (l_lenM 0 (pv 0) (Nat.le_of_ble_eq_true rfl) (by rfl) T.n_len (by decide +kernel)) l_anil)))))) l_anil)) (pg_nm (pg_name (i := 2) nd rfl (Or.inl rfl))) (fix_all hfx rfl) (ls_W [2, 3, 4, 5, 6, 7, 8, 9, 10, 11, 12] (ls_cons (ls_set (i := 3) (Nat.le_of_ble_eq_true rfl) (hfx 3 (by decide)) (fun te he => ps_set nd rfl (Or.inl rfl) he) (l_bin or_add o_add l_int (l_e (l_call (ok_law_draw T) (hr.mono (by decide)) hg (by rfl) T.m_law_draw T.F_law_draw.kp (bd_law_draw T) (l_alend 1 (pv 1) (Nat.le_of_ble_eq_true rfl) (l_acons (l_e (l_ix (fun _ _ => rfl) (l_e (l_lst (l_acons l_int (l_acons l_int l_anil)))) (l_e (l_call (ok_law_draw T) (hr.mono (by decide)) hg (by rfl) T.m_law_draw T.F_law_draw.kp (bd_law_draw T) (l_alend 1 (pv 1) (Nat.le_of_ble_eq_true rfl) (l_acons l_int l_anil)))))) l_anil))))))
 (ls_cons (ls_par2 (i := 4) (j := 5) ⟨(Nat.le_of_ble_eq_true rfl), (hfx 4 (by decide))⟩ ⟨(Nat.le_of_ble_eq_true rfl), (hfx 5 (by decide))⟩ (fun ta ha => ps_par rfl nd rfl rfl (by decide) rfl rfl ha (by rfl)) (lo_cons (l_call (ok_law_commands T) (hr.mono (by decide)) hg (by rfl) T.m_law_commands T.F_law_commands.kp (bd_law_commands T) (l_alend 1 (pv 1) (Nat.le_of_ble_eq_true rfl) (l_acons (l_name 3 (pv 3) (Nat.le_of_ble_eq_true rfl)) (l_acons (l_e (l_ix (fun _ _ => rfl) (l_e (l_lst (l_acons l_int (l_acons l_int l_anil)))) (l_e (l_call (ok_law_draw T) (hr.mono (by decide)) hg (by rfl) T.m_law_draw T.F_law_draw.kp (bd_law_draw T) (l_alend 1 (pv 1) (Nat.le_of_ble_eq_true rfl) (l_acons l_int l_anil)))))) l_anil)))) (fun E1 hE1 => (lo_cons (l_call (ok_law_commands T) (hr.mono (by decide)) hg (by rfl) T.m_law_commands T.F_law_commands.kp (bd_law_commands T) (l_alend 1 (pv 1) (Nat.le_of_ble_eq_true rfl) (l_acons (l_name 3 (pv 3) (Nat.le_of_ble_eq_true rfl)) (l_acons l_int l_anil)))) (fun E2 hE2 => lo_nil)))))
 (ls_cons (ls_set (i := 6) (Nat.le_of_ble_eq_true rfl) (hfx 6 (by decide)) (fun te he => ps_set nd rfl (Or.inl rfl) he) (l_call (ok_show_script T) (hr.mono (by decide)) hg (by rfl) T.m_show_script T.F_show_script.kp (bd_show_script T) (l_acons (l_name 4 (pv 4) (Nat.le_of_ble_eq_true rfl)) l_anil)))
 (ls_cons (ls_set (i := 7) (Nat.le_of_ble_eq_true rfl) (hfx 7 (by decide)) (fun te he => ps_set nd rfl (Or.inl rfl) he) (l_call (ok_read_script T) (hr.mono (by decide)) hg (by rfl) T.m_read_script T.F_read_script.kp (bd_read_script T) (l_acons (l_name 6 (pv 6) (Nat.le_of_ble_eq_true rfl)) l_anil)))
 (ls_cons (ls_if (PW.pt (lw_or (lt_cmp (op_neP (un64 hr)) o_ne (l_e (l_callB (c_repr hg (un64 hr)) o_repr (by rfl) T.n_repr (by decide +kernel) (l_acons (l_name 7 (pv 7) (Nat.le_of_ble_eq_true rfl)) l_anil))) (l_e (l_callB (c_repr hg (un64 hr)) o_repr (by rfl) T.n_repr (by decide +kernel) (l_acons (l_name 4 (pv 4) (Nat.le_of_ble_eq_true rfl)) l_anil))) (nomark _)) (lw_or1 (lt_cmp (op_neP (un64 hr)) o_ne (l_e (l_cmp (op_eqP (un64 hr)) o_eq (l_e (l_call (ok_show_script T) (hr.mono (by decide)) hg (by rfl) T.m_show_script T.F_show_script.kp (bd_show_script T) (l_acons (l_name 5 (pv 5) (Nat.le_of_ble_eq_true rfl)) l_anil))) (l_name 6 (pv 6) (Nat.le_of_ble_eq_true rfl)) (nomark _))) (l_e (l_cmp (op_eqP (un64 hr)) o_eq (l_name 5 (pv 5) (Nat.le_of_ble_eq_true rfl)) (l_name 4 (pv 4) (Nat.le_of_ble_eq_true rfl)) (nomark _))) (nomark _))))) (ls_one (ls_ret (l_v l_bl))) ls_nil)
 (ls_cons (ls_set (i := 8) (Nat.le_of_ble_eq_true rfl) (hfx 8 (by decide)) (fun te he => ps_set nd rfl (Or.inl rfl) he) (l_call (ok_law_spoilt T) (hr.mono (by decide)) hg (by rfl) T.m_law_spoilt T.F_law_spoilt.kp (bd_law_spoilt T) (l_alend 1 (pv 1) (Nat.le_of_ble_eq_true rfl) (l_acons (l_name 6 (pv 6) (Nat.le_of_ble_eq_true rfl)) l_anil))))
 (ls_cons (ls_if (PW.pt (lw_and (lt_val (l_call (ok_law_is_short T) (hr.mono (by decide)) hg (by rfl) T.m_law_is_short T.F_law_is_short.kp (bd_law_is_short T) (l_acons (l_name 8 (pv 8) (Nat.le_of_ble_eq_true rfl)) l_anil))) (lw_and1 (lt_not (lt_val (l_call (ok_law_kept T) (hr.mono (by decide)) hg (by rfl) T.m_law_kept T.F_law_kept.kp (bd_law_kept T) (l_acons (l_name 8 (pv 8) (Nat.le_of_ble_eq_true rfl)) l_anil))))))) (ls_one (ls_ret (l_v l_bl))) ls_nil)
 (ls_cons (ls_set (i := 9) (Nat.le_of_ble_eq_true rfl) (hfx 9 (by decide)) (fun te he => ps_set nd rfl (Or.inl rfl) he) (l_call (ok_law_values T) (hr.mono (by decide)) hg (by rfl) T.m_law_values T.F_law_values.kp (bd_law_values T) (l_alend 1 (pv 1) (Nat.le_of_ble_eq_true rfl) (l_acons (l_name 3 (pv 3) (Nat.le_of_ble_eq_true rfl)) l_anil))))
 (ls_cons (ls_if (PW.pt (lw_or (lt_cmp (op_neP (un64 hr)) o_ne (l_e (l_call (ok_run T) (hr.mono (by decide)) hg (by rfl) T.m_run T.F_run.kp (bd_run T) (l_acons (l_name 9 (pv 9) (Nat.le_of_ble_eq_true rfl)) (l_acons (l_name 7 (pv 7) (Nat.le_of_ble_eq_true rfl)) l_anil)))) (l_e (l_call (ok_run T) (hr.mono (by decide)) hg (by rfl) T.m_run T.F_run.kp (bd_run T) (l_acons (l_name 9 (pv 9) (Nat.le_of_ble_eq_true rfl)) (l_acons (l_name 4 (pv 4) (Nat.le_of_ble_eq_true rfl)) l_anil)))) (nomark _)) (lw_or1 (lt_cmp (op_neP (un64 hr)) o_ne (l_e (l_listG rfl (by rfl) T.n_list (by decide +kernel) (ok_stages T) (hr.mono (by decide)) hg (by rfl) T.m_stages T.F_stages.kp (bd_stages T) rfl (l_acons (l_name 9 (pv 9) (Nat.le_of_ble_eq_true rfl)) (l_acons (l_name 7 (pv 7) (Nat.le_of_ble_eq_true rfl)) l_anil)))) (l_e (l_listG rfl (by rfl) T.n_list (by decide +kernel) (ok_stages T) (hr.mono (by decide)) hg (by rfl) T.m_stages T.F_stages.kp (bd_stages T) rfl (l_acons (l_name 9 (pv 9) (Nat.le_of_ble_eq_true rfl)) (l_acons (l_name 4 (pv 4) (Nat.le_of_ble_eq_true rfl)) l_anil)))) (nomark _))))) (ls_one (ls_ret (l_v l_bl))) ls_nil)
 (ls_cons (ls_set (i := 10) (Nat.le_of_ble_eq_true rfl) (hfx 10 (by decide)) (fun te he => ps_set nd rfl (Or.inl rfl) he) (l_call (ok_effect T) (hr.mono (by decide)) hg (by rfl) T.m_effect T.F_effect.kp (bd_effect T) (l_acons (l_name 3 (pv 3) (Nat.le_of_ble_eq_true rfl)) (l_acons (l_name 4 (pv 4) (Nat.le_of_ble_eq_true rfl)) l_anil))))
 (ls_cons (ls_if (PW.pt (lw_or (lt_cmp (op_neP (un64 hr)) o_ne (l_e (l_call (ok_effect T) (hr.mono (by decide)) hg (by rfl) T.m_effect T.F_effect.kp (bd_effect T) (l_acons (l_name 3 (pv 3) (Nat.le_of_ble_eq_true rfl)) (l_acons (l_name 7 (pv 7) (Nat.le_of_ble_eq_true rfl)) l_anil)))) (l_name 10 (pv 10) (Nat.le_of_ble_eq_true rfl)) (nomark _)) (lw_or1 (lt_not (lt_val (l_call (ok_same_scripts T) (hr.mono (by decide)) hg (by rfl) T.m_same_scripts T.F_same_scripts.kp (bd_same_scripts T) (l_acons (l_name 3 (pv 3) (Nat.le_of_ble_eq_true rfl)) (l_acons (l_name 7 (pv 7) (Nat.le_of_ble_eq_true rfl)) (l_acons (l_name 4 (pv 4) (Nat.le_of_ble_eq_true rfl)) l_anil))))))))) (ls_one (ls_ret (l_v l_bl))) ls_nil)
 (ls_one (ls_B [2, 5, 6, 7, 8, 9, 11, 12] (ls_for (t := (.nm 11)) PassesOwn.never rfl (li_list (l_e (l_lst (l_acons (l_e (l_call (ok_trimmed T) (hr.mono (by decide)) hg (by rfl) T.m_trimmed T.F_trimmed.kp (bd_trimmed T) (l_acons (l_name 3 (pv 3) (Nat.le_of_ble_eq_true rfl)) (l_acons (l_name 4 (pv 4) (Nat.le_of_ble_eq_true rfl)) l_anil)))) (l_acons (l_e (l_call (ok_exchanges T) (hr.mono (by decide)) hg (by rfl) T.m_exchanges T.F_exchanges.kp (bd_exchanges T) (l_acons (l_name 10 (pv 10) (Nat.le_of_ble_eq_true rfl)) l_anil))) l_anil))))) (pg_nm (pg_name (i := 11) nd rfl (Or.inl rfl))) (fix_all hfx rfl) (ls_W [2, 5, 6, 7, 8, 9, 11, 12] (ls_cons (ls_set (i := 12) (Nat.le_of_ble_eq_true rfl) (hfx 12 (by decide)) (fun te he => ps_set nd rfl (Or.inl rfl) he) (l_call (ok_read_script T) (hr.mono (by decide)) hg (by rfl) T.m_read_script T.F_read_script.kp (bd_read_script T) (l_acons (l_e (l_call (ok_show_script T) (hr.mono (by decide)) hg (by rfl) T.m_show_script T.F_show_script.kp (bd_show_script T) (l_acons (l_name 11 (pv 11) (Nat.le_of_ble_eq_true rfl)) l_anil))) l_anil)))
 (ls_one (ls_if (PW.pt (lw_or (lt_cmp (op_neP (un64 hr)) o_ne (l_name 12 (pv 12) (Nat.le_of_ble_eq_true rfl)) (l_name 11 (pv 11) (Nat.le_of_ble_eq_true rfl)) (nomark _)) (lw_or1 (lt_cmp (op_neP (un64 hr)) o_ne (l_e (l_call (ok_effect T) (hr.mono (by decide)) hg (by rfl) T.m_effect T.F_effect.kp (bd_effect T) (l_acons (l_name 3 (pv 3) (Nat.le_of_ble_eq_true rfl)) (l_acons (l_name 12 (pv 12) (Nat.le_of_ble_eq_true rfl)) l_anil)))) (l_name 10 (pv 10) (Nat.le_of_ble_eq_true rfl)) (nomark _))))) (ls_one (ls_ret (l_v l_bl))) ls_nil)))))))))))))))))))))
 (ls_one (ls_ret (l_v (l_and (l_e (l_call (ok_law_kept T) (hr.mono (by decide)) hg (by rfl) T.m_law_kept T.F_law_kept.kp (bd_law_kept T) (l_acons l_str l_anil))) (l_and (l_e (l_call (ok_law_kept T) (hr.mono (by decide)) hg (by rfl) T.m_law_kept T.F_law_kept.kp (bd_law_kept T) (l_acons l_str l_anil))) (l_one (l_e (l_cmp (op_eqP (un64 hr)) o_eq (l_e (l_call (ok_read_script T) (hr.mono (by decide)) hg (by rfl) T.m_read_script T.F_read_script.kp (bd_read_script T) (l_acons l_str l_anil))) (l_e (l_lst l_anil)) (nomark _)))))))))))
end
theorem all_mk {l : PySem.W.OpenLaw} {w : World} {K : PySem.W.Frag} {h : Heap} {mg : Str → Option Value} {fa : Addr} (X : K.In h) (G : h.Ns mainGlobals mg) (hfa : mg "law" = some (.ref fa))
    {f_command_text : Addr} {od_command_text an_command_text : Option Addr} {sl_command_text : Array (Option Value)} {oc_command_text kV_command_text dc_command_text pm_command_text cd_command_text ct_command_text : Value}
    {f_show_script : Addr} {od_show_script an_show_script : Option Addr} {sl_show_script : Array (Option Value)} {oc_show_script kV_show_script dc_show_script pm_show_script cd_show_script ct_show_script : Value}
    {f_number_in : Addr} {od_number_in an_number_in : Option Addr} {sl_number_in : Array (Option Value)} {oc_number_in kV_number_in dc_number_in pm_number_in cd_number_in ct_number_in : Value}
    {f_command_in : Addr} {od_command_in an_command_in : Option Addr} {sl_command_in : Array (Option Value)} {oc_command_in kV_command_in dc_command_in pm_command_in cd_command_in ct_command_in : Value}
    {f_group_in : Addr} {od_group_in an_group_in : Option Addr} {sl_group_in : Array (Option Value)} {oc_group_in kV_group_in dc_group_in pm_group_in cd_group_in ct_group_in : Value}
    {f_read_script : Addr} {od_read_script an_read_script : Option Addr} {sl_read_script : Array (Option Value)} {oc_read_script kV_read_script dc_read_script pm_read_script cd_read_script ct_read_script : Value}
    {f_check_size : Addr} {od_check_size an_check_size : Option Addr} {sl_check_size : Array (Option Value)} {oc_check_size kV_check_size dc_check_size pm_check_size cd_check_size ct_check_size : Value}
    {f_check_script : Addr} {od_check_script an_check_script : Option Addr} {sl_check_script : Array (Option Value)} {oc_check_script kV_check_script dc_check_script pm_check_script cd_check_script ct_check_script : Value}
    {f_check_arrangement : Addr} {od_check_arrangement an_check_arrangement : Option Addr} {sl_check_arrangement : Array (Option Value)} {oc_check_arrangement kV_check_arrangement dc_check_arrangement pm_check_arrangement cd_check_arrangement ct_check_arrangement : Value}
    {f_after_command : Addr} {od_after_command an_after_command : Option Addr} {sl_after_command : Array (Option Value)} {oc_after_command kV_after_command dc_after_command pm_after_command cd_after_command ct_after_command : Value}
    {f_after_script : Addr} {od_after_script an_after_script : Option Addr} {sl_after_script : Array (Option Value)} {oc_after_script kV_after_script dc_after_script pm_after_script cd_after_script ct_after_script : Value}
    {f_check_run : Addr} {od_check_run an_check_run : Option Addr} {sl_check_run : Array (Option Value)} {oc_check_run kV_check_run dc_check_run pm_check_run cd_check_run ct_check_run : Value}
    {f_run : Addr} {od_run an_run : Option Addr} {sl_run : Array (Option Value)} {oc_run kV_run dc_run pm_run cd_run ct_run : Value}
    {f_stages : Addr} {od_stages an_stages : Option Addr} {sl_stages : Array (Option Value)} {oc_stages kV_stages dc_stages pm_stages cd_stages ct_stages : Value}
    {f_descending : Addr} {od_descending an_descending : Option Addr} {sl_descending : Array (Option Value)} {oc_descending kV_descending dc_descending pm_descending cd_descending ct_descending : Value}
    {f_effect_in : Addr} {od_effect_in an_effect_in : Option Addr} {sl_effect_in : Array (Option Value)} {oc_effect_in kV_effect_in dc_effect_in pm_effect_in cd_effect_in ct_effect_in : Value}
    {f_effect : Addr} {od_effect an_effect : Option Addr} {sl_effect : Array (Option Value)} {oc_effect kV_effect dc_effect pm_effect cd_effect ct_effect : Value}
    {f_check_scripts : Addr} {od_check_scripts an_check_scripts : Option Addr} {sl_check_scripts : Array (Option Value)} {oc_check_scripts kV_check_scripts dc_check_scripts pm_check_scripts cd_check_scripts ct_check_scripts : Value}
    {f_same_scripts : Addr} {od_same_scripts an_same_scripts : Option Addr} {sl_same_scripts : Array (Option Value)} {oc_same_scripts kV_same_scripts dc_same_scripts pm_same_scripts cd_same_scripts ct_same_scripts : Value}
    {f_turns_of : Addr} {od_turns_of an_turns_of : Option Addr} {sl_turns_of : Array (Option Value)} {oc_turns_of kV_turns_of dc_turns_of pm_turns_of cd_turns_of ct_turns_of : Value}
    {f_trimmed : Addr} {od_trimmed an_trimmed : Option Addr} {sl_trimmed : Array (Option Value)} {oc_trimmed kV_trimmed dc_trimmed pm_trimmed cd_trimmed ct_trimmed : Value}
    {f_exchanges_in : Addr} {od_exchanges_in an_exchanges_in : Option Addr} {sl_exchanges_in : Array (Option Value)} {oc_exchanges_in kV_exchanges_in dc_exchanges_in pm_exchanges_in cd_exchanges_in ct_exchanges_in : Value}
    {f_exchanges : Addr} {od_exchanges an_exchanges : Option Addr} {sl_exchanges : Array (Option Value)} {oc_exchanges kV_exchanges dc_exchanges pm_exchanges cd_exchanges ct_exchanges : Value}
    {f_law_rng : Addr} {od_law_rng an_law_rng : Option Addr} {sl_law_rng : Array (Option Value)} {oc_law_rng kV_law_rng dc_law_rng pm_law_rng cd_law_rng ct_law_rng : Value}
    {f_law_draw : Addr} {od_law_draw an_law_draw : Option Addr} {sl_law_draw : Array (Option Value)} {oc_law_draw kV_law_draw dc_law_draw pm_law_draw cd_law_draw ct_law_draw : Value}
    {f_law_commands : Addr} {od_law_commands an_law_commands : Option Addr} {sl_law_commands : Array (Option Value)} {oc_law_commands kV_law_commands dc_law_commands pm_law_commands cd_law_commands ct_law_commands : Value}
    {f_law_arranged : Addr} {od_law_arranged an_law_arranged : Option Addr} {sl_law_arranged : Array (Option Value)} {oc_law_arranged kV_law_arranged dc_law_arranged pm_law_arranged cd_law_arranged ct_law_arranged : Value}
    {f_law_values : Addr} {od_law_values an_law_values : Option Addr} {sl_law_values : Array (Option Value)} {oc_law_values kV_law_values dc_law_values pm_law_values cd_law_values ct_law_values : Value}
    {f_law_kept : Addr} {od_law_kept an_law_kept : Option Addr} {sl_law_kept : Array (Option Value)} {oc_law_kept kV_law_kept dc_law_kept pm_law_kept cd_law_kept ct_law_kept : Value}
    {f_law_spoilt : Addr} {od_law_spoilt an_law_spoilt : Option Addr} {sl_law_spoilt : Array (Option Value)} {oc_law_spoilt kV_law_spoilt dc_law_spoilt pm_law_spoilt cd_law_spoilt ct_law_spoilt : Value}
    {f_law_is_short : Addr} {od_law_is_short an_law_is_short : Option Addr} {sl_law_is_short : Array (Option Value)} {oc_law_is_short kV_law_is_short dc_law_is_short pm_law_is_short cd_law_is_short ct_law_is_short : Value}
    {f_law : Addr} {od_law an_law : Option Addr} {sl_law : Array (Option Value)} {oc_law kV_law dc_law pm_law cd_law ct_law : Value}
    {cE_Unreadable : Addr}
    {fE_Unreadable : Addr}
    {tk_DASH : Tok}
    {tk_EMPTY : Tok}
    {tk_BLANK : Tok}
    {tk_STAR : Tok}
    {tk_MOST_DIGITS : Tok}
    {tk_DIGITS : Tok}
    (a_command_text : PySem.W.nsIn K mainGlobals "command_text" = some (some (.ref f_command_text))) (l_command_text : K.lookup f_command_text = some ⟨oc_command_text, od_command_text, .func (PySem.W.fnOf "command_text" "command_text" (defArgs s_command_text) (defBody s_command_text) (defScope s_command_text) .none kV_command_text dc_command_text pm_command_text an_command_text cd_command_text ct_command_text), sl_command_text⟩) (c_command_text : PySem.W.codeIn K cd_command_text "command_text" = true) (k_command_text : PySem.W.keepIn K (.ref f_command_text) = true)
    (a_show_script : PySem.W.nsIn K mainGlobals "show_script" = some (some (.ref f_show_script))) (l_show_script : K.lookup f_show_script = some ⟨oc_show_script, od_show_script, .func (PySem.W.fnOf "show_script" "show_script" (defArgs s_show_script) (defBody s_show_script) (defScope s_show_script) .none kV_show_script dc_show_script pm_show_script an_show_script cd_show_script ct_show_script), sl_show_script⟩) (c_show_script : PySem.W.codeIn K cd_show_script "show_script" = true) (k_show_script : PySem.W.keepIn K (.ref f_show_script) = true)
    (a_number_in : PySem.W.nsIn K mainGlobals "number_in" = some (some (.ref f_number_in))) (l_number_in : K.lookup f_number_in = some ⟨oc_number_in, od_number_in, .func (PySem.W.fnOf "number_in" "number_in" (defArgs s_number_in) (defBody s_number_in) (defScope s_number_in) .none kV_number_in dc_number_in pm_number_in an_number_in cd_number_in ct_number_in), sl_number_in⟩) (c_number_in : PySem.W.codeIn K cd_number_in "number_in" = true) (k_number_in : PySem.W.keepIn K (.ref f_number_in) = true)
    (a_command_in : PySem.W.nsIn K mainGlobals "command_in" = some (some (.ref f_command_in))) (l_command_in : K.lookup f_command_in = some ⟨oc_command_in, od_command_in, .func (PySem.W.fnOf "command_in" "command_in" (defArgs s_command_in) (defBody s_command_in) (defScope s_command_in) .none kV_command_in dc_command_in pm_command_in an_command_in cd_command_in ct_command_in), sl_command_in⟩) (c_command_in : PySem.W.codeIn K cd_command_in "command_in" = true) (k_command_in : PySem.W.keepIn K (.ref f_command_in) = true)
    (a_group_in : PySem.W.nsIn K mainGlobals "group_in" = some (some (.ref f_group_in))) (l_group_in : K.lookup f_group_in = some ⟨oc_group_in, od_group_in, .func (PySem.W.fnOf "group_in" "group_in" (defArgs s_group_in) (defBody s_group_in) (defScope s_group_in) .none kV_group_in dc_group_in pm_group_in an_group_in cd_group_in ct_group_in), sl_group_in⟩) (c_group_in : PySem.W.codeIn K cd_group_in "group_in" = true) (k_group_in : PySem.W.keepIn K (.ref f_group_in) = true)
    (a_read_script : PySem.W.nsIn K mainGlobals "read_script" = some (some (.ref f_read_script))) (l_read_script : K.lookup f_read_script = some ⟨oc_read_script, od_read_script, .func (PySem.W.fnOf "read_script" "read_script" (defArgs s_read_script) (defBody s_read_script) (defScope s_read_script) .none kV_read_script dc_read_script pm_read_script an_read_script cd_read_script ct_read_script), sl_read_script⟩) (c_read_script : PySem.W.codeIn K cd_read_script "read_script" = true) (k_read_script : PySem.W.keepIn K (.ref f_read_script) = true)
    (a_check_size : PySem.W.nsIn K mainGlobals "check_size" = some (some (.ref f_check_size))) (l_check_size : K.lookup f_check_size = some ⟨oc_check_size, od_check_size, .func (PySem.W.fnOf "check_size" "check_size" (defArgs s_check_size) (defBody s_check_size) (defScope s_check_size) .none kV_check_size dc_check_size pm_check_size an_check_size cd_check_size ct_check_size), sl_check_size⟩) (c_check_size : PySem.W.codeIn K cd_check_size "check_size" = true) (k_check_size : PySem.W.keepIn K (.ref f_check_size) = true)
    (a_check_script : PySem.W.nsIn K mainGlobals "check_script" = some (some (.ref f_check_script))) (l_check_script : K.lookup f_check_script = some ⟨oc_check_script, od_check_script, .func (PySem.W.fnOf "check_script" "check_script" (defArgs s_check_script) (defBody s_check_script) (defScope s_check_script) .none kV_check_script dc_check_script pm_check_script an_check_script cd_check_script ct_check_script), sl_check_script⟩) (c_check_script : PySem.W.codeIn K cd_check_script "check_script" = true) (k_check_script : PySem.W.keepIn K (.ref f_check_script) = true)
    (a_check_arrangement : PySem.W.nsIn K mainGlobals "check_arrangement" = some (some (.ref f_check_arrangement))) (l_check_arrangement : K.lookup f_check_arrangement = some ⟨oc_check_arrangement, od_check_arrangement, .func (PySem.W.fnOf "check_arrangement" "check_arrangement" (defArgs s_check_arrangement) (defBody s_check_arrangement) (defScope s_check_arrangement) .none kV_check_arrangement dc_check_arrangement pm_check_arrangement an_check_arrangement cd_check_arrangement ct_check_arrangement), sl_check_arrangement⟩) (c_check_arrangement : PySem.W.codeIn K cd_check_arrangement "check_arrangement" = true) (k_check_arrangement : PySem.W.keepIn K (.ref f_check_arrangement) = true)
    (a_after_command : PySem.W.nsIn K mainGlobals "after_command" = some (some (.ref f_after_command))) (l_after_command : K.lookup f_after_command = some ⟨oc_after_command, od_after_command, .func (PySem.W.fnOf "after_command" "after_command" (defArgs s_after_command) (defBody s_after_command) (defScope s_after_command) .none kV_after_command dc_after_command pm_after_command an_after_command cd_after_command ct_after_command), sl_after_command⟩) (c_after_command : PySem.W.codeIn K cd_after_command "after_command" = true) (k_after_command : PySem.W.keepIn K (.ref f_after_command) = true)
    (a_after_script : PySem.W.nsIn K mainGlobals "after_script" = some (some (.ref f_after_script))) (l_after_script : K.lookup f_after_script = some ⟨oc_after_script, od_after_script, .func (PySem.W.fnOf "after_script" "after_script" (defArgs s_after_script) (defBody s_after_script) (defScope s_after_script) .none kV_after_script dc_after_script pm_after_script an_after_script cd_after_script ct_after_script), sl_after_script⟩) (c_after_script : PySem.W.codeIn K cd_after_script "after_script" = true) (k_after_script : PySem.W.keepIn K (.ref f_after_script) = true)
    (a_check_run : PySem.W.nsIn K mainGlobals "check_run" = some (some (.ref f_check_run))) (l_check_run : K.lookup f_check_run = some ⟨oc_check_run, od_check_run, .func (PySem.W.fnOf "check_run" "check_run" (defArgs s_check_run) (defBody s_check_run) (defScope s_check_run) .none kV_check_run dc_check_run pm_check_run an_check_run cd_check_run ct_check_run), sl_check_run⟩) (c_check_run : PySem.W.codeIn K cd_check_run "check_run" = true) (k_check_run : PySem.W.keepIn K (.ref f_check_run) = true)
    (a_run : PySem.W.nsIn K mainGlobals "run" = some (some (.ref f_run))) (l_run : K.lookup f_run = some ⟨oc_run, od_run, .func (PySem.W.fnOf "run" "run" (defArgs s_run) (defBody s_run) (defScope s_run) .none kV_run dc_run pm_run an_run cd_run ct_run), sl_run⟩) (c_run : PySem.W.codeIn K cd_run "run" = true) (k_run : PySem.W.keepIn K (.ref f_run) = true)
    (a_stages : PySem.W.nsIn K mainGlobals "stages" = some (some (.ref f_stages))) (l_stages : K.lookup f_stages = some ⟨oc_stages, od_stages, .func (PySem.W.fnOf "stages" "stages" (defArgs s_stages) (defBody s_stages) (defScope s_stages) .none kV_stages dc_stages pm_stages an_stages cd_stages ct_stages), sl_stages⟩) (c_stages : PySem.W.codeIn K cd_stages "stages" = true) (k_stages : PySem.W.keepIn K (.ref f_stages) = true)
    (a_descending : PySem.W.nsIn K mainGlobals "descending" = some (some (.ref f_descending))) (l_descending : K.lookup f_descending = some ⟨oc_descending, od_descending, .func (PySem.W.fnOf "descending" "descending" (defArgs s_descending) (defBody s_descending) (defScope s_descending) .none kV_descending dc_descending pm_descending an_descending cd_descending ct_descending), sl_descending⟩) (c_descending : PySem.W.codeIn K cd_descending "descending" = true) (k_descending : PySem.W.keepIn K (.ref f_descending) = true)
    (a_effect_in : PySem.W.nsIn K mainGlobals "effect_in" = some (some (.ref f_effect_in))) (l_effect_in : K.lookup f_effect_in = some ⟨oc_effect_in, od_effect_in, .func (PySem.W.fnOf "effect_in" "effect_in" (defArgs s_effect_in) (defBody s_effect_in) (defScope s_effect_in) .none kV_effect_in dc_effect_in pm_effect_in an_effect_in cd_effect_in ct_effect_in), sl_effect_in⟩) (c_effect_in : PySem.W.codeIn K cd_effect_in "effect_in" = true) (k_effect_in : PySem.W.keepIn K (.ref f_effect_in) = true)
    (a_effect : PySem.W.nsIn K mainGlobals "effect" = some (some (.ref f_effect))) (l_effect : K.lookup f_effect = some ⟨oc_effect, od_effect, .func (PySem.W.fnOf "effect" "effect" (defArgs s_effect) (defBody s_effect) (defScope s_effect) .none kV_effect dc_effect pm_effect an_effect cd_effect ct_effect), sl_effect⟩) (c_effect : PySem.W.codeIn K cd_effect "effect" = true) (k_effect : PySem.W.keepIn K (.ref f_effect) = true)
    (a_check_scripts : PySem.W.nsIn K mainGlobals "check_scripts" = some (some (.ref f_check_scripts))) (l_check_scripts : K.lookup f_check_scripts = some ⟨oc_check_scripts, od_check_scripts, .func (PySem.W.fnOf "check_scripts" "check_scripts" (defArgs s_check_scripts) (defBody s_check_scripts) (defScope s_check_scripts) .none kV_check_scripts dc_check_scripts pm_check_scripts an_check_scripts cd_check_scripts ct_check_scripts), sl_check_scripts⟩) (c_check_scripts : PySem.W.codeIn K cd_check_scripts "check_scripts" = true) (k_check_scripts : PySem.W.keepIn K (.ref f_check_scripts) = true)
    (a_same_scripts : PySem.W.nsIn K mainGlobals "same_scripts" = some (some (.ref f_same_scripts))) (l_same_scripts : K.lookup f_same_scripts = some ⟨oc_same_scripts, od_same_scripts, .func (PySem.W.fnOf "same_scripts" "same_scripts" (defArgs s_same_scripts) (defBody s_same_scripts) (defScope s_same_scripts) .none kV_same_scripts dc_same_scripts pm_same_scripts an_same_scripts cd_same_scripts ct_same_scripts), sl_same_scripts⟩) (c_same_scripts : PySem.W.codeIn K cd_same_scripts "same_scripts" = true) (k_same_scripts : PySem.W.keepIn K (.ref f_same_scripts) = true)
    (a_turns_of : PySem.W.nsIn K mainGlobals "turns_of" = some (some (.ref f_turns_of))) (l_turns_of : K.lookup f_turns_of = some ⟨oc_turns_of, od_turns_of, .func (PySem.W.fnOf "turns_of" "turns_of" (defArgs s_turns_of) (defBody s_turns_of) (defScope s_turns_of) .none kV_turns_of dc_turns_of pm_turns_of an_turns_of cd_turns_of ct_turns_of), sl_turns_of⟩) (c_turns_of : PySem.W.codeIn K cd_turns_of "turns_of" = true) (k_turns_of : PySem.W.keepIn K (.ref f_turns_of) = true)
    (a_trimmed : PySem.W.nsIn K mainGlobals "trimmed" = some (some (.ref f_trimmed))) (l_trimmed : K.lookup f_trimmed = some ⟨oc_trimmed, od_trimmed, .func (PySem.W.fnOf "trimmed" "trimmed" (defArgs s_trimmed) (defBody s_trimmed) (defScope s_trimmed) .none kV_trimmed dc_trimmed pm_trimmed an_trimmed cd_trimmed ct_trimmed), sl_trimmed⟩) (c_trimmed : PySem.W.codeIn K cd_trimmed "trimmed" = true) (k_trimmed : PySem.W.keepIn K (.ref f_trimmed) = true)
    (a_exchanges_in : PySem.W.nsIn K mainGlobals "exchanges_in" = some (some (.ref f_exchanges_in))) (l_exchanges_in : K.lookup f_exchanges_in = some ⟨oc_exchanges_in, od_exchanges_in, .func (PySem.W.fnOf "exchanges_in" "exchanges_in" (defArgs s_exchanges_in) (defBody s_exchanges_in) (defScope s_exchanges_in) .none kV_exchanges_in dc_exchanges_in pm_exchanges_in an_exchanges_in cd_exchanges_in ct_exchanges_in), sl_exchanges_in⟩) (c_exchanges_in : PySem.W.codeIn K cd_exchanges_in "exchanges_in" = true) (k_exchanges_in : PySem.W.keepIn K (.ref f_exchanges_in) = true)
    (a_exchanges : PySem.W.nsIn K mainGlobals "exchanges" = some (some (.ref f_exchanges))) (l_exchanges : K.lookup f_exchanges = some ⟨oc_exchanges, od_exchanges, .func (PySem.W.fnOf "exchanges" "exchanges" (defArgs s_exchanges) (defBody s_exchanges) (defScope s_exchanges) .none kV_exchanges dc_exchanges pm_exchanges an_exchanges cd_exchanges ct_exchanges), sl_exchanges⟩) (c_exchanges : PySem.W.codeIn K cd_exchanges "exchanges" = true) (k_exchanges : PySem.W.keepIn K (.ref f_exchanges) = true)
    (a_law_rng : PySem.W.nsIn K mainGlobals "_law_rng" = some (some (.ref f_law_rng))) (l_law_rng : K.lookup f_law_rng = some ⟨oc_law_rng, od_law_rng, .func (PySem.W.fnOf "_law_rng" "_law_rng" (defArgs s_law_rng) (defBody s_law_rng) (defScope s_law_rng) .none kV_law_rng dc_law_rng pm_law_rng an_law_rng cd_law_rng ct_law_rng), sl_law_rng⟩) (c_law_rng : PySem.W.codeIn K cd_law_rng "_law_rng" = true) (k_law_rng : PySem.W.keepIn K (.ref f_law_rng) = true)
    (a_law_draw : PySem.W.nsIn K mainGlobals "_law_draw" = some (some (.ref f_law_draw))) (l_law_draw : K.lookup f_law_draw = some ⟨oc_law_draw, od_law_draw, .func (PySem.W.fnOf "_law_draw" "_law_draw" (defArgs s_law_draw) (defBody s_law_draw) (defScope s_law_draw) .none kV_law_draw dc_law_draw pm_law_draw an_law_draw cd_law_draw ct_law_draw), sl_law_draw⟩) (c_law_draw : PySem.W.codeIn K cd_law_draw "_law_draw" = true) (k_law_draw : PySem.W.keepIn K (.ref f_law_draw) = true)
    (a_law_commands : PySem.W.nsIn K mainGlobals "_law_commands" = some (some (.ref f_law_commands))) (l_law_commands : K.lookup f_law_commands = some ⟨oc_law_commands, od_law_commands, .func (PySem.W.fnOf "_law_commands" "_law_commands" (defArgs s_law_commands) (defBody s_law_commands) (defScope s_law_commands) .none kV_law_commands dc_law_commands pm_law_commands an_law_commands cd_law_commands ct_law_commands), sl_law_commands⟩) (c_law_commands : PySem.W.codeIn K cd_law_commands "_law_commands" = true) (k_law_commands : PySem.W.keepIn K (.ref f_law_commands) = true)
    (a_law_arranged : PySem.W.nsIn K mainGlobals "_law_arranged" = some (some (.ref f_law_arranged))) (l_law_arranged : K.lookup f_law_arranged = some ⟨oc_law_arranged, od_law_arranged, .func (PySem.W.fnOf "_law_arranged" "_law_arranged" (defArgs s_law_arranged) (defBody s_law_arranged) (defScope s_law_arranged) .none kV_law_arranged dc_law_arranged pm_law_arranged an_law_arranged cd_law_arranged ct_law_arranged), sl_law_arranged⟩) (c_law_arranged : PySem.W.codeIn K cd_law_arranged "_law_arranged" = true) (k_law_arranged : PySem.W.keepIn K (.ref f_law_arranged) = true)
    (a_law_values : PySem.W.nsIn K mainGlobals "_law_values" = some (some (.ref f_law_values))) (l_law_values : K.lookup f_law_values = some ⟨oc_law_values, od_law_values, .func (PySem.W.fnOf "_law_values" "_law_values" (defArgs s_law_values) (defBody s_law_values) (defScope s_law_values) .none kV_law_values dc_law_values pm_law_values an_law_values cd_law_values ct_law_values), sl_law_values⟩) (c_law_values : PySem.W.codeIn K cd_law_values "_law_values" = true) (k_law_values : PySem.W.keepIn K (.ref f_law_values) = true)
    (a_law_kept : PySem.W.nsIn K mainGlobals "_law_kept" = some (some (.ref f_law_kept))) (l_law_kept : K.lookup f_law_kept = some ⟨oc_law_kept, od_law_kept, .func (PySem.W.fnOf "_law_kept" "_law_kept" (defArgs s_law_kept) (defBody s_law_kept) (defScope s_law_kept) .none kV_law_kept dc_law_kept pm_law_kept an_law_kept cd_law_kept ct_law_kept), sl_law_kept⟩) (c_law_kept : PySem.W.codeIn K cd_law_kept "_law_kept" = true) (k_law_kept : PySem.W.keepIn K (.ref f_law_kept) = true)
    (a_law_spoilt : PySem.W.nsIn K mainGlobals "_law_spoilt" = some (some (.ref f_law_spoilt))) (l_law_spoilt : K.lookup f_law_spoilt = some ⟨oc_law_spoilt, od_law_spoilt, .func (PySem.W.fnOf "_law_spoilt" "_law_spoilt" (defArgs s_law_spoilt) (defBody s_law_spoilt) (defScope s_law_spoilt) .none kV_law_spoilt dc_law_spoilt pm_law_spoilt an_law_spoilt cd_law_spoilt ct_law_spoilt), sl_law_spoilt⟩) (c_law_spoilt : PySem.W.codeIn K cd_law_spoilt "_law_spoilt" = true) (k_law_spoilt : PySem.W.keepIn K (.ref f_law_spoilt) = true)
    (a_law_is_short : PySem.W.nsIn K mainGlobals "_law_is_short" = some (some (.ref f_law_is_short))) (l_law_is_short : K.lookup f_law_is_short = some ⟨oc_law_is_short, od_law_is_short, .func (PySem.W.fnOf "_law_is_short" "_law_is_short" (defArgs s_law_is_short) (defBody s_law_is_short) (defScope s_law_is_short) .none kV_law_is_short dc_law_is_short pm_law_is_short an_law_is_short cd_law_is_short ct_law_is_short), sl_law_is_short⟩) (c_law_is_short : PySem.W.codeIn K cd_law_is_short "_law_is_short" = true) (k_law_is_short : PySem.W.keepIn K (.ref f_law_is_short) = true)
    (a_law : PySem.W.nsIn K mainGlobals "law" = some (some (.ref f_law))) (l_law : K.lookup f_law = some ⟨oc_law, od_law, .func (PySem.W.fnOf "law" "law" (defArgs s_law) (defBody s_law) (defScope s_law) .none kV_law dc_law pm_law an_law cd_law ct_law), sl_law⟩) (c_law : PySem.W.codeIn K cd_law "law" = true) (k_law : PySem.W.keepIn K (.ref f_law) = true)
    (aE_Unreadable : PySem.W.nsIn K mainGlobals "Unreadable" = some (some (.ref cE_Unreadable)))
    (iE_Unreadable : PySem.W.findIn K (.ref cE_Unreadable) "__init__" = some (some (.ref fE_Unreadable))) (tE_Unreadable : PySem.PLX.ErrTxt l.prog K cE_Unreadable fE_Unreadable)
    (x_Unreadable_Unreadable : PySem.W.exmOne K (.ref cE_Unreadable) (.ref cE_Unreadable) = some true)
    (gc_DASH : PySem.W.nsIn K mainGlobals "DASH" = some (some (.str (PySem.Str.ofString "-") tk_DASH)))
    (gc_EMPTY : PySem.W.nsIn K mainGlobals "EMPTY" = some (some (.str (PySem.Str.ofString "none") tk_EMPTY)))
    (gc_BLANK : PySem.W.nsIn K mainGlobals "BLANK" = some (some (.str (PySem.Str.ofString " ") tk_BLANK)))
    (gc_STAR : PySem.W.nsIn K mainGlobals "STAR" = some (some (.str (PySem.Str.ofString "*") tk_STAR)))
    (gc_MOST_DIGITS : PySem.W.nsIn K mainGlobals "MOST_DIGITS" = some (some (.int 40 tk_MOST_DIGITS)))
    (gc_DIGITS : PySem.W.nsIn K mainGlobals "DIGITS" = some (some (.str (PySem.Str.ofString "0123456789") tk_DIGITS)))
    (z_str : PySem.W.nsIn K mainGlobals "str" = some none)
    (z_enumerate : PySem.W.nsIn K mainGlobals "enumerate" = some none)
    (z_len : PySem.W.nsIn K mainGlobals "len" = some none)
    (z_all : PySem.W.nsIn K mainGlobals "all" = some none)
    (z_int : PySem.W.nsIn K mainGlobals "int" = some none)
    (z_zip : PySem.W.nsIn K mainGlobals "zip" = some none)
    (z_any : PySem.W.nsIn K mainGlobals "any" = some none)
    (z_sorted : PySem.W.nsIn K mainGlobals "sorted" = some none)
    (z_list : PySem.W.nsIn K mainGlobals "list" = some none)
    (z_range : PySem.W.nsIn K mainGlobals "range" = some none)
    (z_abs : PySem.W.nsIn K mainGlobals "abs" = some none)
    (z_min : PySem.W.nsIn K mainGlobals "min" = some none)
    (z_max : PySem.W.nsIn K mainGlobals "max" = some none)
    (z_repr : PySem.W.nsIn K mainGlobals "repr" = some none)
    (z_super : PySem.W.nsIn K mainGlobals "super" = some none) :
    ∃ fd : FuncData, (∀ (s : Shared) (v : Value), BindsTo s fd ⟨[v], []⟩ [("script", v)]) ∧ ∀ base : Heap, K.In base → base.Ns mainGlobals mg → FnG l.prog w K mg base CX0 6 fa fd ["script"] (liftSp K 1 [0] sp_law) := by
  have e := hfa.symm.trans (PySem.W.mg_of X G a_law)
  cases e
  let T : Tx l.prog K mg := { a_command_text := f_command_text, fd_command_text := _, F_command_text := fun_mk (st := s_command_text) l_command_text c_command_text k_command_text, m_command_text := PySem.W.mg_of X G a_command_text, a_show_script := f_show_script, fd_show_script := _, F_show_script := fun_mk (st := s_show_script) l_show_script c_show_script k_show_script, m_show_script := PySem.W.mg_of X G a_show_script, a_number_in := f_number_in, fd_number_in := _, F_number_in := fun_mk (st := s_number_in) l_number_in c_number_in k_number_in, m_number_in := PySem.W.mg_of X G a_number_in, a_command_in := f_command_in, fd_command_in := _, F_command_in := fun_mk (st := s_command_in) l_command_in c_command_in k_command_in, m_command_in := PySem.W.mg_of X G a_command_in, a_group_in := f_group_in, fd_group_in := _, F_group_in := fun_mk (st := s_group_in) l_group_in c_group_in k_group_in, m_group_in := PySem.W.mg_of X G a_group_in, a_read_script := f_read_script, fd_read_script := _, F_read_script := fun_mk (st := s_read_script) l_read_script c_read_script k_read_script, m_read_script := PySem.W.mg_of X G a_read_script, a_check_size := f_check_size, fd_check_size := _, F_check_size := fun_mk (st := s_check_size) l_check_size c_check_size k_check_size, m_check_size := PySem.W.mg_of X G a_check_size, a_check_script := f_check_script, fd_check_script := _, F_check_script := fun_mk (st := s_check_script) l_check_script c_check_script k_check_script, m_check_script := PySem.W.mg_of X G a_check_script, a_check_arrangement := f_check_arrangement, fd_check_arrangement := _, F_check_arrangement := fun_mk (st := s_check_arrangement) l_check_arrangement c_check_arrangement k_check_arrangement, m_check_arrangement := PySem.W.mg_of X G a_check_arrangement, a_after_command := f_after_command, fd_after_command := _, F_after_command := fun_mk (st := s_after_command) l_after_command c_after_command k_after_command, m_after_command := PySem.W.mg_of X G a_after_command, a_after_script := f_after_script, fd_after_script := _, F_after_script := fun_mk (st := s_after_script) l_after_script c_after_script k_after_script, m_after_script := PySem.W.mg_of X G a_after_script, a_check_run := f_check_run, fd_check_run := _, F_check_run := fun_mk (st := s_check_run) l_check_run c_check_run k_check_run, m_check_run := PySem.W.mg_of X G a_check_run, a_run := f_run, fd_run := _, F_run := fun_mk (st := s_run) l_run c_run k_run, m_run := PySem.W.mg_of X G a_run, a_stages := f_stages, fd_stages := _, F_stages := fun_mk (st := s_stages) l_stages c_stages k_stages, m_stages := PySem.W.mg_of X G a_stages, a_descending := f_descending, fd_descending := _, F_descending := fun_mk (st := s_descending) l_descending c_descending k_descending, m_descending := PySem.W.mg_of X G a_descending, a_effect_in := f_effect_in, fd_effect_in := _, F_effect_in := fun_mk (st := s_effect_in) l_effect_in c_effect_in k_effect_in, m_effect_in := PySem.W.mg_of X G a_effect_in, a_effect := f_effect, fd_effect := _, F_effect := fun_mk (st := s_effect) l_effect c_effect k_effect, m_effect := PySem.W.mg_of X G a_effect, a_check_scripts := f_check_scripts, fd_check_scripts := _, F_check_scripts := fun_mk (st := s_check_scripts) l_check_scripts c_check_scripts k_check_scripts, m_check_scripts := PySem.W.mg_of X G a_check_scripts, a_same_scripts := f_same_scripts, fd_same_scripts := _, F_same_scripts := fun_mk (st := s_same_scripts) l_same_scripts c_same_scripts k_same_scripts, m_same_scripts := PySem.W.mg_of X G a_same_scripts, a_turns_of := f_turns_of, fd_turns_of := _, F_turns_of := fun_mk (st := s_turns_of) l_turns_of c_turns_of k_turns_of, m_turns_of := PySem.W.mg_of X G a_turns_of, a_trimmed := f_trimmed, fd_trimmed := _, F_trimmed := fun_mk (st := s_trimmed) l_trimmed c_trimmed k_trimmed, m_trimmed := PySem.W.mg_of X G a_trimmed, a_exchanges_in := f_exchanges_in, fd_exchanges_in := _, F_exchanges_in := fun_mk (st := s_exchanges_in) l_exchanges_in c_exchanges_in k_exchanges_in, m_exchanges_in := PySem.W.mg_of X G a_exchanges_in, a_exchanges := f_exchanges, fd_exchanges := _, F_exchanges := fun_mk (st := s_exchanges) l_exchanges c_exchanges k_exchanges, m_exchanges := PySem.W.mg_of X G a_exchanges, a_law_rng := f_law_rng, fd_law_rng := _, F_law_rng := fun_mk (st := s_law_rng) l_law_rng c_law_rng k_law_rng, m_law_rng := PySem.W.mg_of X G a_law_rng, a_law_draw := f_law_draw, fd_law_draw := _, F_law_draw := fun_mk (st := s_law_draw) l_law_draw c_law_draw k_law_draw, m_law_draw := PySem.W.mg_of X G a_law_draw, a_law_commands := f_law_commands, fd_law_commands := _, F_law_commands := fun_mk (st := s_law_commands) l_law_commands c_law_commands k_law_commands, m_law_commands := PySem.W.mg_of X G a_law_commands, a_law_arranged := f_law_arranged, fd_law_arranged := _, F_law_arranged := fun_mk (st := s_law_arranged) l_law_arranged c_law_arranged k_law_arranged, m_law_arranged := PySem.W.mg_of X G a_law_arranged, a_law_values := f_law_values, fd_law_values := _, F_law_values := fun_mk (st := s_law_values) l_law_values c_law_values k_law_values, m_law_values := PySem.W.mg_of X G a_law_values, a_law_kept := f_law_kept, fd_law_kept := _, F_law_kept := fun_mk (st := s_law_kept) l_law_kept c_law_kept k_law_kept, m_law_kept := PySem.W.mg_of X G a_law_kept, a_law_spoilt := f_law_spoilt, fd_law_spoilt := _, F_law_spoilt := fun_mk (st := s_law_spoilt) l_law_spoilt c_law_spoilt k_law_spoilt, m_law_spoilt := PySem.W.mg_of X G a_law_spoilt, a_law_is_short := f_law_is_short, fd_law_is_short := _, F_law_is_short := fun_mk (st := s_law_is_short) l_law_is_short c_law_is_short k_law_is_short, m_law_is_short := PySem.W.mg_of X G a_law_is_short, a_law := fa, fd_law := _, F_law := fun_mk (st := s_law) l_law c_law k_law, m_law := PySem.W.mg_of X G a_law, cE_Unreadable := cE_Unreadable, mE_Unreadable := PySem.W.mg_of X G aE_Unreadable, fE_Unreadable := fE_Unreadable, tE_Unreadable := tE_Unreadable, x_Unreadable_Unreadable := x_Unreadable_Unreadable, g_DASH := ⟨tk_DASH, PySem.W.mg_of X G gc_DASH⟩, g_EMPTY := ⟨tk_EMPTY, PySem.W.mg_of X G gc_EMPTY⟩, g_BLANK := ⟨tk_BLANK, PySem.W.mg_of X G gc_BLANK⟩, g_STAR := ⟨tk_STAR, PySem.W.mg_of X G gc_STAR⟩, g_MOST_DIGITS := ⟨tk_MOST_DIGITS, PySem.W.mg_of X G gc_MOST_DIGITS⟩, g_DIGITS := ⟨tk_DIGITS, PySem.W.mg_of X G gc_DIGITS⟩, n_str := PySem.W.mg_none_of X G z_str, n_enumerate := PySem.W.mg_none_of X G z_enumerate, n_len := PySem.W.mg_none_of X G z_len, n_all := PySem.W.mg_none_of X G z_all, n_int := PySem.W.mg_none_of X G z_int, n_zip := PySem.W.mg_none_of X G z_zip, n_any := PySem.W.mg_none_of X G z_any, n_sorted := PySem.W.mg_none_of X G z_sorted, n_list := PySem.W.mg_none_of X G z_list, n_range := PySem.W.mg_none_of X G z_range, n_abs := PySem.W.mg_none_of X G z_abs, n_min := PySem.W.mg_none_of X G z_min, n_max := PySem.W.mg_none_of X G z_max, n_repr := PySem.W.mg_none_of X G z_repr, n_super := PySem.W.mg_none_of X G z_super }
  exact ⟨_, fun s v => .of_eq rfl, fun base _ _ => ok_law T⟩
end K52

open PySem PySem.W PyProof.Rows in
set_option maxRecDepth 100000 in
set_option maxHeartbeats 0 in
theorem PySem.Challenge.cw_sortstretches_k52_whole_texts_and_script_holds : PySem.Challenge.rw_sortstretches_k52_whole_texts_and_script.Holds := by
  w_on; o_law; k_head; (case hw => w_witness2)
  k_fill
  refine PL.walk_pl (l := PySem.Challenge.rw_sortstretches_k52_whole_texts_and_script) (n := 63) (k := 6) (x := "script") (sp := K52.sp_law) rfl (by decide) rfl ⟨rfl, by decide, by decide⟩ (fun w h Y => PySem.W.kIn_of Y) ?F K52.law_true
  case F =>
    intro w mg fa h KX G hmg
    refine' K52.all_mk KX G hmg ?a_command_text ?l_command_text ?c_command_text ?k_command_text ?a_show_script ?l_show_script ?c_show_script ?k_show_script ?a_number_in ?l_number_in ?c_number_in ?k_number_in ?a_command_in ?l_command_in ?c_command_in ?k_command_in ?a_group_in ?l_group_in ?c_group_in ?k_group_in ?a_read_script ?l_read_script ?c_read_script ?k_read_script ?a_check_size ?l_check_size ?c_check_size ?k_check_size ?a_check_script ?l_check_script ?c_check_script ?k_check_script ?a_check_arrangement ?l_check_arrangement ?c_check_arrangement ?k_check_arrangement ?a_after_command ?l_after_command ?c_after_command ?k_after_command ?a_after_script ?l_after_script ?c_after_script ?k_after_script ?a_check_run ?l_check_run ?c_check_run ?k_check_run ?a_run ?l_run ?c_run ?k_run ?a_stages ?l_stages ?c_stages ?k_stages ?a_descending ?l_descending ?c_descending ?k_descending ?a_effect_in ?l_effect_in ?c_effect_in ?k_effect_in ?a_effect ?l_effect ?c_effect ?k_effect ?a_check_scripts ?l_check_scripts ?c_check_scripts ?k_check_scripts ?a_same_scripts ?l_same_scripts ?c_same_scripts ?k_same_scripts ?a_turns_of ?l_turns_of ?c_turns_of ?k_turns_of ?a_trimmed ?l_trimmed ?c_trimmed ?k_trimmed ?a_exchanges_in ?l_exchanges_in ?c_exchanges_in ?k_exchanges_in ?a_exchanges ?l_exchanges ?c_exchanges ?k_exchanges ?a_law_rng ?l_law_rng ?c_law_rng ?k_law_rng ?a_law_draw ?l_law_draw ?c_law_draw ?k_law_draw ?a_law_commands ?l_law_commands ?c_law_commands ?k_law_commands ?a_law_arranged ?l_law_arranged ?c_law_arranged ?k_law_arranged ?a_law_values ?l_law_values ?c_law_values ?k_law_values ?a_law_kept ?l_law_kept ?c_law_kept ?k_law_kept ?a_law_spoilt ?l_law_spoilt ?c_law_spoilt ?k_law_spoilt ?a_law_is_short ?l_law_is_short ?c_law_is_short ?k_law_is_short ?a_law ?l_law ?c_law ?k_law ?aE_Unreadable ?iE_Unreadable ?tE_Unreadable ?x_Unreadable_Unreadable ?gc_DASH ?gc_EMPTY ?gc_BLANK ?gc_STAR ?gc_MOST_DIGITS ?gc_DIGITS ?z_str ?z_enumerate ?z_len ?z_all ?z_int ?z_zip ?z_any ?z_sorted ?z_list ?z_range ?z_abs ?z_min ?z_max ?z_repr ?z_super
    (case a_command_text => k_is)
    (case l_command_text => k_is)
    (case c_command_text => k_is)
    (case k_command_text => k_is)
    (case a_show_script => k_is)
    (case l_show_script => k_is)
    (case c_show_script => k_is)
    (case k_show_script => k_is)
    (case a_number_in => k_is)
    (case l_number_in => k_is)
    (case c_number_in => k_is)
    (case k_number_in => k_is)
    (case a_command_in => k_is)
    (case l_command_in => k_is)
    (case c_command_in => k_is)
    (case k_command_in => k_is)
    (case a_group_in => k_is)
    (case l_group_in => k_is)
    (case c_group_in => k_is)
    (case k_group_in => k_is)
    (case a_read_script => k_is)
    (case l_read_script => k_is)
    (case c_read_script => k_is)
    (case k_read_script => k_is)
    (case a_check_size => k_is)
    (case l_check_size => k_is)
    (case c_check_size => k_is)
    (case k_check_size => k_is)
    (case a_check_script => k_is)
    (case l_check_script => k_is)
    (case c_check_script => k_is)
    (case k_check_script => k_is)
    (case a_check_arrangement => k_is)
    (case l_check_arrangement => k_is)
    (case c_check_arrangement => k_is)
    (case k_check_arrangement => k_is)
    (case a_after_command => k_is)
    (case l_after_command => k_is)
    (case c_after_command => k_is)
    (case k_after_command => k_is)
    (case a_after_script => k_is)
    (case l_after_script => k_is)
    (case c_after_script => k_is)
    (case k_after_script => k_is)
    (case a_check_run => k_is)
    (case l_check_run => k_is)
    (case c_check_run => k_is)
    (case k_check_run => k_is)
    (case a_run => k_is)
    (case l_run => k_is)
    (case c_run => k_is)
    (case k_run => k_is)
    (case a_stages => k_is)
    (case l_stages => k_is)
    (case c_stages => k_is)
    (case k_stages => k_is)
    (case a_descending => k_is)
    (case l_descending => k_is)
    (case c_descending => k_is)
    (case k_descending => k_is)
    (case a_effect_in => k_is)
    (case l_effect_in => k_is)
    (case c_effect_in => k_is)
    (case k_effect_in => k_is)
    (case a_effect => k_is)
    (case l_effect => k_is)
    (case c_effect => k_is)
    (case k_effect => k_is)
    (case a_check_scripts => k_is)
    (case l_check_scripts => k_is)
    (case c_check_scripts => k_is)
    (case k_check_scripts => k_is)
    (case a_same_scripts => k_is)
    (case l_same_scripts => k_is)
    (case c_same_scripts => k_is)
    (case k_same_scripts => k_is)
    (case a_turns_of => k_is)
    (case l_turns_of => k_is)
    (case c_turns_of => k_is)
    (case k_turns_of => k_is)
    (case a_trimmed => k_is)
    (case l_trimmed => k_is)
    (case c_trimmed => k_is)
    (case k_trimmed => k_is)
    (case a_exchanges_in => k_is)
    (case l_exchanges_in => k_is)
    (case c_exchanges_in => k_is)
    (case k_exchanges_in => k_is)
    (case a_exchanges => k_is)
    (case l_exchanges => k_is)
    (case c_exchanges => k_is)
    (case k_exchanges => k_is)
    (case a_law_rng => k_is)
    (case l_law_rng => k_is)
    (case c_law_rng => k_is)
    (case k_law_rng => k_is)
    (case a_law_draw => k_is)
    (case l_law_draw => k_is)
    (case c_law_draw => k_is)
    (case k_law_draw => k_is)
    (case a_law_commands => k_is)
    (case l_law_commands => k_is)
    (case c_law_commands => k_is)
    (case k_law_commands => k_is)
    (case a_law_arranged => k_is)
    (case l_law_arranged => k_is)
    (case c_law_arranged => k_is)
    (case k_law_arranged => k_is)
    (case a_law_values => k_is)
    (case l_law_values => k_is)
    (case c_law_values => k_is)
    (case k_law_values => k_is)
    (case a_law_kept => k_is)
    (case l_law_kept => k_is)
    (case c_law_kept => k_is)
    (case k_law_kept => k_is)
    (case a_law_spoilt => k_is)
    (case l_law_spoilt => k_is)
    (case c_law_spoilt => k_is)
    (case k_law_spoilt => k_is)
    (case a_law_is_short => k_is)
    (case l_law_is_short => k_is)
    (case c_law_is_short => k_is)
    (case k_law_is_short => k_is)
    (case a_law => k_is)
    (case l_law => k_is)
    (case c_law => k_is)
    (case k_law => k_is)
    (case aE_Unreadable => k_is)
    (case iE_Unreadable => k_is)
    (case tE_Unreadable =>
      constructor
      case cls => exact ⟨_, _, _, _, _, _, _, _, _, _, _, _, _, _, _, by k_is, by decide +kernel⟩
      case sa => k_is
      case ga => k_is
      case gg => k_is
      case noN => k_is
      case iC => k_is
      case tC => k_is
      case kC => k_is
      case exC => k_is
      case veC => k_is
      case selfC => k_is
      case tyC => k_is
      case hdC => k_is
      case up => ks_is
      case op => k_is
      case top => rfl
      case fn => exact ⟨_, _, _, _, _, _, _, _, _, _, _, _, _, _, _, _, _, _, _, _, _, _, _, _, _, _, _, _, _, _, _, _, _, _, by k_is, by k_is, by k_is, by rfl, by first | rfl | decide +kernel, by k_is, fun _ => rfl⟩)
    (case x_Unreadable_Unreadable => first | k_is | rfl | decide +kernel)
    (case gc_DASH => k_is)
    (case gc_EMPTY => k_is)
    (case gc_BLANK => k_is)
    (case gc_STAR => k_is)
    (case gc_MOST_DIGITS => k_is)
    (case gc_DIGITS => k_is)
    (case z_str => k_is)
    (case z_enumerate => k_is)
    (case z_len => k_is)
    (case z_all => k_is)
    (case z_int => k_is)
    (case z_zip => k_is)
    (case z_any => k_is)
    (case z_sorted => k_is)
    (case z_list => k_is)
    (case z_range => k_is)
    (case z_abs => k_is)
    (case z_min => k_is)
    (case z_max => k_is)
    (case z_repr => k_is)
    (case z_super => k_is)

