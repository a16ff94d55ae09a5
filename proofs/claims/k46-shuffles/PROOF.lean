import PyProof.Rows.All
import Wide.All
import OpenK.AllK
import Wide.FinOn
import HandS.ForMost
import HandS.ForExc
import HandS.Walk
import HandS.Wide
import HandS.Style
import HandS.Conv
import HandS.HeadHook1
import HandS.HeadHook2
import HandS.Defaults
import HandS.ExcCtx
import HandS.HotCalls
import HandS.ExcField
import HandS.ExcIs
import HandS.Property
import HandS.ExcSuper
import KE.KExcSuper
import KE.KExcIs
import HandS.IsInst
import HandS.TupAny
import PySem.Challenge.RW_primedeep_k46_shuffles_at_every_depth
import KE.KStateDown
import HandS.Head0
import HandS.Head1
import HandS.Head2
import HandS.HeadEnd
set_option Elab.async false
set_option linter.all false
set_option maxRecDepth 100000
set_option autoImplicit false
set_option maxHeartbeats 4000000
namespace Y
open PySem L2

/-! ### data -/
inductive D where
  | non | bl (b : Bool) | int (i : Int) | str (s : Str) | ty (n : String)
  | tup (l : List D) | lst (l : List D) | lsr (l : List D)
  | obj (x : Str) (ns : List Str) (l : List D)
  | dic (ks : List Key) (l : List D)
  | exc (a : Addr) (d : Option Addr) (ns : List Str) (l : List D)

mutual
/-- the value v stands for d in the heap B -/
inductive At (K : PySem.W.Frag) (B : Hp) : V → D → Prop
  | non : At K B .non .non
  | bl (b : Bool) : At K B (.bl b) (.bl b)
  | int (i : Int) : At K B (.int i) (.int i)
  | str (s : Str) : At K B (.str s) (.str s)
  | ty (n : String) : At K B (.ty n) (.ty n)
  | tup {a : Addr} {vs : List V} {ds : List D} (h : SqT K B a vs) (r : Ats K B vs ds) : At K B (.ref a) (.tup ds)
  | lst {a : Addr} {vs : List V} {ds : List D} (h : B a = some (.lst vs)) (r : Ats K B vs ds) : At K B (.ref a) (.lst ds)
  | lsr {a : Addr} {vs : List V} {ds : List D} (h : SqL K B a vs) (r : Ats K B vs ds) : At K B (.ref a) (.lsr ds)
  | obj {a dx : Addr} {x : Str} {ns : List Str} {vs : List V} {ds : List D} (h : B a = some (.ins (He.ga K x) dx (ns.zip vs))) (hl : ns.length = vs.length) (r : Ats K B vs ds) : At K B (.ref a) (.obj x ns ds)
  | dic {a : Addr} {ks : List Key} {vs : List V} {ds : List D} (h : B a = some (.dK (ks.zip vs))) (hl : ks.length = vs.length) (r : Ats K B vs ds) : At K B (.ref a) (.dic ks ds)
  | exc0 {a : Addr} : At K B (.ref a) (.exc a none [] [])
  | exc1 {a dx : Addr} {ns : List Str} {vs : List V} {ds : List D} (h : B dx = some (.xd (ns.zip vs))) (hl : ns.length = vs.length) (r : Ats K B vs ds) : At K B (.ref a) (.exc a (some dx) ns ds)
inductive Ats (K : PySem.W.Frag) (B : Hp) : List V → List D → Prop
  | nil : Ats K B [] []
  | cons {v : V} {d : D} {vs : List V} {ds : List D} (h : At K B v d) (r : Ats K B vs ds) : Ats K B (v :: vs) (d :: ds)
end

section
variable {K : PySem.W.Frag} {B B' H H' : Hp}
theorem same_t {a : Addr} {xs : List V} (e : Same B B') (h : SqT K B a xs) : SqT K B' a xs := by
  rcases h with (h | ⟨o, h⟩) | h
  · exact .inl (.inl (e _ _ h))
  · exact .inl (.inr ⟨o, e _ _ h⟩)
  · exact .inr h
mutual
theorem At.up (e : Same B B') {v : V} {d : D} (h : At K B v d) : At K B' v d := by
  cases h with
  | non => exact .non
  | bl b => exact .bl b
  | int b => exact .int b
  | str b => exact .str b
  | ty b => exact .ty b
  | tup h r => exact .tup (same_t e h) (Ats.up e r)
  | lst h r => exact .lst (e _ _ h) (Ats.up e r)
  | lsr h r => exact .lsr (e.seq h) (Ats.up e r)
  | obj h l r => exact .obj (e _ _ h) l (Ats.up e r)
  | dic h l r => exact .dic (e _ _ h) l (Ats.up e r)
  | exc0 => exact .exc0
  | exc1 h l r => exact .exc1 (e _ _ h) l (Ats.up e r)
theorem Ats.up (e : Same B B') {vs : List V} {ds : List D} (h : Ats K B vs ds) : Ats K B' vs ds := by
  cases h with
  | nil => exact .nil
  | cons h r => exact .cons (At.up e h) (Ats.up e r)
end
theorem Ats.length : ∀ {vs : List V} {ds : List D}, Ats K B vs ds → vs.length = ds.length
  | _, _, .nil => rfl
  | _, _, .cons _ r => congrArg (· + 1) (Ats.length r)
theorem Ats.get : ∀ {vs : List V} {ds : List D} {i : Nat} {d : D}, Ats K B vs ds → ds[i]? = some d → ∃ v, vs[i]? = some v ∧ At K B v d
  | _, _, i, d, .nil, e => by simp at e
  | _, _, 0, d, .cons h _, e => by
    simp at e
    subst e
    exact ⟨_, rfl, h⟩
  | _, _, i + 1, d, .cons _ r, e => by
    obtain ⟨v, h1, h2⟩ := Ats.get (i := i) (d := d) r (by simpa using e)
    exact ⟨v, by simpa using h1, h2⟩
theorem Ats.getV : ∀ {vs : List V} {ds : List D} {i : Nat} {v : V}, Ats K B vs ds → vs[i]? = some v → ∃ d, ds[i]? = some d ∧ At K B v d
  | _, _, i, d, .nil, e => by simp at e
  | _, _, 0, d, .cons h _, e => by
    simp at e
    subst e
    exact ⟨_, rfl, h⟩
  | _, _, i + 1, d, .cons _ r, e => by
    obtain ⟨v, h1, h2⟩ := Ats.getV (i := i) (v := d) r (by simpa using e)
    exact ⟨v, by simpa using h1, h2⟩
theorem Ats.append : ∀ {vs ws : List V} {ds es : List D}, Ats K B vs ds → Ats K B ws es → Ats K B (vs ++ ws) (ds ++ es)
  | _, _, _, _, .nil, s => s
  | _, _, _, _, .cons h r, s => .cons h (Ats.append r s)
theorem Ats.one {v : V} {d : D} (h : At K B v d) : Ats K B [v] [d] := .cons h .nil
theorem Ats.set : ∀ {vs : List V} {ds : List D} {v : V} {d : D} (i : Nat), Ats K B vs ds → At K B v d → Ats K B (vs.set i v) (ds.set i d)
  | _, _, _, _, i, .nil, _ => .nil
  | _, _, _, _, 0, .cons _ r, h => .cons h r
  | _, _, _, _, i + 1, .cons q r, h => .cons q (Ats.set i r h)
theorem Ats.drop : ∀ {vs : List V} {ds : List D} (n : Nat), Ats K B vs ds → Ats K B (vs.drop n) (ds.drop n)
  | _, _, 0, h => h
  | _, _, _ + 1, .nil => .nil
  | _, _, n + 1, .cons _ r => Ats.drop n r
theorem Ats.take : ∀ {vs : List V} {ds : List D} (n : Nat), Ats K B vs ds → Ats K B (vs.take n) (ds.take n)
  | _, _, 0, _ => .nil
  | _, _, _ + 1, .nil => .nil
  | _, _, n + 1, .cons h r => .cons h (Ats.take n r)
theorem ats_int : ∀ l : List Int, Ats K B (l.map V.int) (l.map D.int)
  | [] => .nil
  | i :: r => .cons (.int i) (ats_int r)
theorem ats_bl : ∀ l : List Bool, Ats K B (l.map V.bl) (l.map D.bl)
  | [] => .nil
  | i :: r => .cons (.bl i) (ats_bl r)
theorem Ats.ints : ∀ {vs : List V} {l : List Int}, Ats K B vs (l.map D.int) → vs = l.map V.int
  | [], [], _ => rfl
  | _ :: _, [], h => by cases h
  | [], _ :: _, h => by cases h
  | v :: vs, i :: l, h => by
    cases h with
    | cons h r =>
      cases h
      rw [Ats.ints r]
      rfl
theorem Ats.bls : ∀ {vs : List V} {l : List Bool}, Ats K B vs (l.map D.bl) → vs = l.map V.bl
  | [], [], _ => rfl
  | _ :: _, [], h => by cases h
  | [], _ :: _, h => by cases h
  | v :: vs, i :: l, h => by
    cases h with
    | cons h r =>
      cases h
      rw [Ats.bls r]
      rfl

/-! ### slots -/
inductive Sl where
  | un
  | va (d : D)
  | ow (d : D)

inductive Own (K : PySem.W.Frag) (B H : Hp) (p : Addr) : D → Prop
  | lst {vs : List V} {ds : List D} (h : H p = some (.lst vs)) (r : Ats K B vs ds) : Own K B H p (.lst ds)
  | obj {dx : Addr} {x : Str} {ns : List Str} {vs : List V} {ds : List D} (h : H p = some (.ins (He.ga K x) dx (ns.zip vs))) (hl : ns.length = vs.length) (r : Ats K B vs ds) : Own K B H p (.obj x ns ds)
  | dic {ks : List Key} {vs : List V} {ds : List D} (h : H p = some (.dK (ks.zip vs))) (hl : ks.length = vs.length) (r : Ats K B vs ds) : Own K B H p (.dic ks ds)
theorem Own.up {p : Addr} {d : D} (h : Own K B H p d) (e : Same B B') (k : ∀ o, H p = some o → H' p = some o) : Own K B' H' p d := by
  cases h with
  | lst h r => exact .lst (k _ h) (r.up e)
  | obj h l r => exact .obj (k _ h) l (r.up e)
  | dic h l r => exact .dic (k _ h) l (r.up e)
theorem Own.there {p : Addr} {d : D} (h : Own K B H p d) : ∃ o, H p = some o := by
  cases h with
  | lst h r => exact ⟨_, h⟩
  | obj h l r => exact ⟨_, h⟩
  | dic h l r => exact ⟨_, h⟩
theorem Own.at_ {p : Addr} {d : D} (h : Own K B H p d) (hb : B p = none) : ∃ o, H p = some o ∧ At K (upd B p o) (.ref p) d := by
  have e : ∀ o, Same B (upd B p o) := fun o b u q => by
    rw [upd_ne (ne_of_none q hb)]
    exact q
  cases h with
  | lst h r => exact ⟨_, h, .lst upd_same (r.up (e _))⟩
  | obj h l r => exact ⟨_, h, .obj upd_same l (r.up (e _))⟩
  | dic h l r => exact ⟨_, h, .dic upd_same l (r.up (e _))⟩
end

/-- the surroundings: the written part, what stood ahead of the call, what the callers own -/
structure Amb where
  K : PySem.W.Frag
  B0 : Hp
  F : Hp

def SlOk (A : Amb) (B H : Hp) (o : Option V) : Sl → Prop
  | .un => True
  | .va d => ∃ v, o = some v ∧ At A.K B v d
  | .ow d => ∃ p, o = some (.ref p) ∧ B p = none ∧ A.F p = none ∧ Own A.K B H p d

structure Sat (A : Amb) (Γ : List Sl) (σ : St) (B H : Hp) : Prop where
  b0 : Same A.B0 B
  bh : Same B H
  fh : Same A.F H
  fb : ∀ a o, A.F a = some o → B a = none
  len : σ.length = Γ.length
  sl : ∀ (i : Nat) (s : Sl), Γ[i]? = some s → SlOk A B H (σ[i]?.join) s
  ap : ∀ (i j : Nat) (di dj : D) (p : Addr), Γ[i]? = some (.ow di) → Γ[j]? = some (.ow dj) → σ[i]? = some (some (.ref p)) → σ[j]? = some (some (.ref p)) → i = j

section
variable {A : Amb} {Γ : List Sl} {σ : St} {B H : Hp}
theorem join_some {α : Type} {o : Option (Option α)} {v : α} (h : o.join = some v) : o = some (some v) := by
  cases o with
  | none => cases h
  | some o => exact congrArg some h
theorem Sat.va (S : Sat A Γ σ B H) {i : Nat} {d : D} (h : Γ[i]? = some (.va d)) : ∃ v, σ[i]? = some (some v) ∧ At A.K B v d := by
  obtain ⟨v, e, a⟩ := S.sl i _ h
  exact ⟨v, join_some e, a⟩
theorem Sat.ow (S : Sat A Γ σ B H) {i : Nat} {d : D} (h : Γ[i]? = some (.ow d)) : ∃ p, σ[i]? = some (some (.ref p)) ∧ B p = none ∧ A.F p = none ∧ Own A.K B H p d := by
  obtain ⟨v, e, a⟩ := S.sl i _ h
  exact ⟨v, join_some e, a⟩
theorem SlOk.up {B' H' : Hp} {o : Option V} {s : Sl} (h : SlOk A B H o s) (e : Same B B') (kb : ∀ d p, s = .ow d → o = some (.ref p) → B p = none → A.F p = none → (∃ u, H p = some u) → B' p = none) (k : ∀ p u, o = some (.ref p) → B p = none → H p = some u → H' p = some u) : SlOk A B' H' o s := by
  cases s with
  | un => trivial
  | va d =>
    obtain ⟨v, q, a⟩ := h
    exact ⟨v, q, a.up e⟩
  | ow d =>
    obtain ⟨p, q, n, f, w⟩ := h
    exact ⟨p, q, kb _ p rfl q n f w.there, f, w.up e fun o z => k p o q n z⟩
/-- nothing but new things, that nobody owns -/
theorem Sat.new (S : Sat A Γ σ B H) {p : Addr} {o : HO} (hp : H p = none) : Sat A Γ σ (upd B p o) (upd H p o) where
  b0 := S.b0.trans fun b u q => by
    rw [upd_ne (ne_of_none (S.bh _ _ q) hp)]
    exact q
  bh := fun b u q => by
    by_cases hb : b = p
    · subst hb
      rw [upd_same] at q ⊢
      exact q
    · rw [upd_ne hb] at q ⊢
      exact S.bh _ _ q
  fh := fun b u q => by
    rw [upd_ne (ne_of_none (S.fh _ _ q) hp)]
    exact S.fh _ _ q
  fb := fun b u q => by
    rw [upd_ne (ne_of_none (S.fh _ _ q) hp)]
    exact S.fb _ _ q
  len := S.len
  sl := fun i s h => (S.sl i s h).up (fun b u q => by
    rw [upd_ne (ne_of_none (S.bh _ _ q) hp)]
    exact q) (fun _ q _ _ n _ ⟨u, hu⟩ => by
      rw [upd_ne (ne_of_none hu hp)]
      exact n) fun q u _ _ hu => by
      rw [upd_ne (ne_of_none hu hp)]
      exact hu
  ap := S.ap
/-- a new thing, not in the ground -/
theorem Sat.newO (S : Sat A Γ σ B H) {p : Addr} {o : HO} (hp : H p = none) : Sat A Γ σ B (upd H p o) where
  b0 := S.b0
  bh := fun b u q => by
    rw [upd_ne (ne_of_none (S.bh _ _ q) hp)]
    exact S.bh _ _ q
  fh := fun b u q => by
    rw [upd_ne (ne_of_none (S.fh _ _ q) hp)]
    exact S.fh _ _ q
  fb := S.fb
  len := S.len
  sl := fun i s h => (S.sl i s h).up (Same.refl B) (fun _ _ _ _ n _ _ => n) fun q u _ _ hu => by
      rw [upd_ne (ne_of_none hu hp)]
      exact hu
  ap := S.ap
theorem Sat.same (S : Sat A Γ σ B H) {p : Addr} {o : HO} (hp : H p = none) : Same B (upd B p o) := fun b u q => by
  rw [upd_ne (ne_of_none (S.bh _ _ q) hp)]
  exact q
theorem Sat.bnone (S : Sat A Γ σ B H) {p : Addr} (hp : H p = none) : B p = none := S.bh.free hp
theorem Sat.fnone (S : Sat A Γ σ B H) {p : Addr} (hp : H p = none) : A.F p = none := S.fh.free hp
/-- what is owned is not new -/
theorem Sat.apart (S : Sat A Γ σ B H) {p : Addr} (hp : H p = none) {i : Nat} {d : D} (h : Γ[i]? = some (.ow d)) : σ[i]? ≠ some (some (.ref p)) := fun e => by
  obtain ⟨q, e2, _, _, w⟩ := S.ow h
  rw [e] at e2
  cases e2
  obtain ⟨u, hu⟩ := w.there
  rw [hp] at hu
  cases hu
theorem set_get {α : Type} {l : List α} {i j : Nat} {x y : α} (h : (l.set i x)[j]? = some y) : (j = i ∧ y = x) ∨ (j ≠ i ∧ l[j]? = some y) := by
  by_cases e : i = j
  · subst e
    by_cases hl : i < l.length
    · rw [List.getElem?_set_self hl] at h
      exact .inl ⟨rfl, (Option.some.inj h).symm⟩
    · rw [List.getElem?_eq_none (by rw [List.length_set]; omega)] at h
      cases h
  · rw [List.getElem?_set_ne e] at h
    exact .inr ⟨Ne.symm e, h⟩
theorem Sat.set_va (S : Sat A Γ σ B H) (i : Nat) {v : V} {d : D} (a : At A.K B v d) : Sat A (Γ.set i (.va d)) (σ.set i (some v)) B H where
  b0 := S.b0
  bh := S.bh
  fh := S.fh
  fb := S.fb
  len := by rw [List.length_set, List.length_set, S.len]
  sl := fun j s h => by
    have hl : j < Γ.length := by
      have := (List.getElem?_eq_some_iff.mp h).1
      rw [List.length_set] at this
      exact this
    rcases set_get h with ⟨rfl, rfl⟩ | ⟨ne, h⟩
    · rw [List.getElem?_set_self (by rw [S.len]; exact hl)]
      exact ⟨v, rfl, a⟩
    · rw [List.getElem?_set_ne (Ne.symm ne)]
      exact S.sl j s h
  ap := fun j k dj dk p hj hk ej ek => by
    rcases set_get hj with ⟨rfl, z⟩ | ⟨n1, hj⟩
    · cases z
    rcases set_get hk with ⟨rfl, z⟩ | ⟨n2, hk⟩
    · cases z
    rw [List.getElem?_set_ne (Ne.symm n1)] at ej
    rw [List.getElem?_set_ne (Ne.symm n2)] at ek
    exact S.ap j k dj dk p hj hk ej ek
theorem Sat.set_ow (S : Sat A Γ σ B H) (i : Nat) {p : Addr} {d : D} (hb : B p = none) (hf : A.F p = none) (w : Own A.K B H p d) (n : ∀ (j : Nat) (dj : D), j ≠ i → Γ[j]? = some (.ow dj) → σ[j]? ≠ some (some (.ref p))) : Sat A (Γ.set i (.ow d)) (σ.set i (some (.ref p))) B H where
  b0 := S.b0
  bh := S.bh
  fh := S.fh
  fb := S.fb
  len := by rw [List.length_set, List.length_set, S.len]
  sl := fun j s h => by
    have hl : j < Γ.length := by
      have := (List.getElem?_eq_some_iff.mp h).1
      rw [List.length_set] at this
      exact this
    rcases set_get h with ⟨rfl, rfl⟩ | ⟨ne, h⟩
    · rw [List.getElem?_set_self (by rw [S.len]; exact hl)]
      exact ⟨p, rfl, hb, hf, w⟩
    · rw [List.getElem?_set_ne (Ne.symm ne)]
      exact S.sl j s h
  ap := fun j k dj dk q hj hk ej ek => by
    rcases set_get hj with ⟨rfl, z⟩ | ⟨n1, hj'⟩
    · rcases set_get hk with ⟨rfl, z⟩ | ⟨n2, hk⟩
      · rfl
      · rw [List.getElem?_set_ne (Ne.symm n2)] at ek
        have hl : j < σ.length := by
          have := (List.getElem?_eq_some_iff.mp ej).1
          rw [List.length_set] at this
          exact this
        rw [List.getElem?_set_self hl] at ej
        cases ej
        exact absurd ek (n k dk n2 hk)
    · rcases set_get hk with ⟨rfl, z⟩ | ⟨n2, hk⟩
      · rw [List.getElem?_set_ne (Ne.symm n1)] at ej
        have hl : k < σ.length := by
          have := (List.getElem?_eq_some_iff.mp ek).1
          rw [List.length_set] at this
          exact this
        rw [List.getElem?_set_self hl] at ek
        cases ek
        exact absurd ej (n j dj n1 hj')
      · rw [List.getElem?_set_ne (Ne.symm n1)] at ej
        rw [List.getElem?_set_ne (Ne.symm n2)] at ek
        exact S.ap j k dj dk q hj' hk ej ek
/-- the slot i forgotten -/
theorem Sat.un (S : Sat A Γ σ B H) (i : Nat) (o : Option V) : Sat A (Γ.set i .un) (σ.set i o) B H where
  b0 := S.b0
  bh := S.bh
  fh := S.fh
  fb := S.fb
  len := by rw [List.length_set, List.length_set, S.len]
  sl := fun j s h => by
    rcases set_get h with ⟨rfl, rfl⟩ | ⟨ne, h⟩
    · trivial
    · rw [List.getElem?_set_ne (Ne.symm ne)]
      exact S.sl j s h
  ap := fun j k dj dk p hj hk ej ek => by
    rcases set_get hj with ⟨rfl, z⟩ | ⟨n1, hj⟩
    · cases z
    rcases set_get hk with ⟨rfl, z⟩ | ⟨n2, hk⟩
    · cases z
    rw [List.getElem?_set_ne (Ne.symm n1)] at ej
    rw [List.getElem?_set_ne (Ne.symm n2)] at ek
    exact S.ap j k dj dk p hj hk ej ek
/-- what the slot i owns is changed -/
theorem Sat.upd_ow (S : Sat A Γ σ B H) {i : Nat} {d d' : D} {p : Addr} {o : HO} (h : Γ[i]? = some (.ow d)) (e : σ[i]? = some (some (.ref p))) (w : ∀ H', H' p = some o → Own A.K B H' p d') : Sat A (Γ.set i (.ow d')) σ B (upd H p o) := by
  obtain ⟨p', e', hb, hf, w0⟩ := S.ow h
  rw [e] at e'
  cases e'
  obtain ⟨u, hu⟩ := w0.there
  refine ⟨S.b0, fun b v q => ?_, fun b v q => ?_, S.fb, by rw [List.length_set, S.len], fun j s hj => ?_, fun j k dj dk q hj hk ej ek => ?_⟩
  · rw [upd_ne (fun z => by rw [z, hb] at q; cases q)]
    exact S.bh _ _ q
  · rw [upd_ne (fun z => by rw [z, hf] at q; cases q)]
    exact S.fh _ _ q
  · rcases set_get hj with ⟨rfl, rfl⟩ | ⟨ne, hj⟩
    · rw [e]
      exact ⟨p, rfl, hb, hf, w _ upd_same⟩
    · have z := S.sl j s hj
      cases s with
      | un => trivial
      | va d => exact z
      | ow d2 =>
        obtain ⟨q, eq, b1, b2, b3⟩ := z
        refine ⟨q, eq, b1, b2, b3.up (Same.refl _) fun v hv => ?_⟩
        rw [upd_ne]
        · exact hv
        · intro z
          subst z
          exact ne (S.ap _ _ _ _ _ hj h (join_some eq) e)
  · have f : ∀ {m : Nat} {dm : D}, (Γ.set i (.ow d'))[m]? = some (.ow dm) → ∃ dm', Γ[m]? = some (.ow dm') := fun {m dm} hm => by
      rcases set_get hm with ⟨rfl, z⟩ | ⟨_, hm⟩
      · exact ⟨d, h⟩
      · exact ⟨dm, hm⟩
    obtain ⟨_, h1⟩ := f hj
    obtain ⟨_, h2⟩ := f hk
    exact S.ap j k _ _ q h1 h2 ej ek
/-- what the slot i owns becomes a value -/
theorem Sat.freeze (S : Sat A Γ σ B H) {i : Nat} {d : D} (h : Γ[i]? = some (.ow d)) : ∃ p B', σ[i]? = some (some (.ref p)) ∧ Same B B' ∧ At A.K B' (.ref p) d ∧ Sat A (Γ.set i (.va d)) σ B' H := by
  obtain ⟨p, e, hb, hf, w⟩ := S.ow h
  obtain ⟨o, ho, a⟩ := w.at_ hb
  have sm : Same B (upd B p o) := fun b u q => by
    rw [upd_ne (ne_of_none q hb)]
    exact q
  refine ⟨p, upd B p o, e, sm, a, ⟨S.b0.trans sm, fun b v q => ?_, S.fh, fun b v q => ?_, by rw [List.length_set, S.len], fun j s hj => ?_, fun j k dj dk q hj hk ej ek => ?_⟩⟩
  · by_cases hbp : b = p
    · subst hbp
      rw [upd_same] at q
      cases q
      exact ho
    · rw [upd_ne hbp] at q
      exact S.bh _ _ q
  · rw [upd_ne (fun z => by rw [z, hf] at q; cases q)]
    exact S.fb _ _ q
  · rcases set_get hj with ⟨rfl, rfl⟩ | ⟨ne, hj⟩
    · rw [e]
      exact ⟨_, rfl, a⟩
    · refine (S.sl j s hj).up sm (fun d2 q es eq n _ _ => ?_) fun q u _ _ hu => hu
      rw [upd_ne]
      · exact n
      · intro z
        subst z
        subst es
        exact ne (S.ap _ _ _ _ _ hj h (join_some eq) e)
  · rcases set_get hj with ⟨rfl, z⟩ | ⟨n1, hj⟩
    · cases z
    rcases set_get hk with ⟨rfl, z⟩ | ⟨n2, hk⟩
    · cases z
    exact S.ap j k _ _ q hj hk ej ek
end
end Y
set_option maxHeartbeats 4000000
namespace Y
open PySem L2

/-! ### judgements -/
section
variable (K : PySem.W.Frag)
def Ev (te : TE) (Γ Γ' : List Sl) (d : D) : Prop := ∀ (B0 F : Hp) (σ : St) (B H : Hp), Sat ⟨K, B0, F⟩ Γ σ B H → ∀ Q : VK, (∀ v B' H', Sat ⟨K, B0, F⟩ Γ' σ B' H' → Same B B' → At K B' v d → Q v H') → te σ H Q
/-- not one of what the slots own -/
def Apart (Γ : List Sl) (σ : St) (p : Addr) : Prop := ∀ (i : Nat) (d : D), Γ[i]? = some (.ow d) → σ[i]? ≠ some (some (.ref p))
def EvO (te : TE) (Γ Γ' : List Sl) (d : D) : Prop := ∀ (B0 F : Hp) (σ : St) (B H : Hp), Sat ⟨K, B0, F⟩ Γ σ B H → ∀ Q : VK, (∀ p B' H', Sat ⟨K, B0, F⟩ Γ' σ B' H' → Same B B' → B' p = none → F p = none → Own K B' H' p d → Apart Γ' σ p → Q (.ref p) H') → te σ H Q
def EvT (tt : TT) (Γ Γ' : List Sl) (b : Bool) : Prop := ∀ (B0 F : Hp) (σ : St) (B H : Hp), Sat ⟨K, B0, F⟩ Γ σ B H → ∀ Q : Bool → Hp → Prop, (∀ B' H', Sat ⟨K, B0, F⟩ Γ' σ B' H' → Same B B' → Q b H') → tt σ H Q
inductive Ag | v (d : D) | o (i : Nat)
def AgOk (σ : St) (B : Hp) (v : V) : Ag → Prop
  | .v d => At K B v d
  | .o i => σ[i]? = some (some v)
inductive Ags (σ : St) (B : Hp) : List V → List Ag → Prop
  | nil : Ags σ B [] []
  | cons {v : V} {a : Ag} {vs : List V} {as : List Ag} (h : AgOk K σ B v a) (r : Ags σ B vs as) : Ags σ B (v :: vs) (a :: as)
def EvA (ta : TA) (Γ Γ' : List Sl) (as : List Ag) : Prop := ∀ (B0 F : Hp) (σ : St) (B H : Hp), Sat ⟨K, B0, F⟩ Γ σ B H → ∀ Q : List V → Hp → Prop, (∀ vs B' H', Sat ⟨K, B0, F⟩ Γ' σ B' H' → Same B B' → Ags K σ B' vs as → Q vs H') → ta σ H Q
def EvP (to : TO) (Γ Γ' : List Sl) (o : Option Int) : Prop := ∀ (B0 F : Hp) (σ : St) (B H : Hp), Sat ⟨K, B0, F⟩ Γ σ B H → ∀ Q : Option Int → Hp → Prop, (∀ B' H', Sat ⟨K, B0, F⟩ Γ' σ B' H' → Same B B' → Q o H') → to σ H Q
end

section
variable {K : PySem.W.Frag} {Γ Γ1 Γ2 Γ3 : List Sl} {ta tb tc te : TE} {d x y z : D} {t u : TT} {a b c : Bool}
theorem Ags.up {σ : St} {B B' : Hp} (e : Same B B') : ∀ {vs : List V} {as : List Ag}, Ags K σ B vs as → Ags K σ B' vs as
  | _, _, .nil => .nil
  | _, _, .cons (a := .v d) h r => .cons (a := .v d) (At.up e h) (r.up e)
  | _, _, .cons (a := .o i) h r => .cons (a := .o i) h (r.up e)
theorem Ags.ats {σ : St} {B : Hp} : ∀ {vs : List V} {ds : List D}, Ags K σ B vs (ds.map .v) → Ats K B vs ds
  | [], [], _ => .nil
  | [], _ :: _, h => by cases h
  | _ :: _, [], h => by cases h
  | _ :: _, _ :: _, .cons h r => .cons h (Ags.ats r)
theorem Ev.is (h : Ev K te Γ Γ1 x) (e : x = y) : Ev K te Γ Γ1 y := e ▸ h
theorem EvT.is (h : EvT K t Γ Γ1 a) (e : a = b) : EvT K t Γ Γ1 b := e ▸ h
theorem EvO.is (h : EvO K te Γ Γ1 x) (e : x = y) : EvO K te Γ Γ1 y := e ▸ h
/-- what is owned by nobody but us is handed on as a value -/
theorem EvO.ev (h : EvO K te Γ Γ1 d) : Ev K te Γ Γ1 d := fun B0 F σ B H S Q q => h B0 F σ B H S Q fun p B' H' S' sm hb hf w ap => by
  obtain ⟨o, ho, at_⟩ := w.at_ hb
  have sm2 : Same B' (upd B' p o) := fun b u z => by
    rw [upd_ne (ne_of_none z hb)]
    exact z
  refine q _ (upd B' p o) H' ⟨S'.b0.trans sm2, fun b v z => ?_, S'.fh, fun b v z => ?_, S'.len, fun j s hj => ?_, S'.ap⟩ (sm.trans sm2) at_
  · by_cases hbp : b = p
    · subst hbp
      rw [upd_same] at z
      cases z
      exact ho
    · rw [upd_ne hbp] at z
      exact S'.bh _ _ z
  · rw [upd_ne (fun e => by rw [e] at z; exact absurd (hf.symm.trans z) (by simp))]
    exact S'.fb _ _ z
  · refine (S'.sl j s hj).up sm2 (fun d2 r es eq n _ _ => ?_) fun q u _ _ hu => hu
    rw [upd_ne]
    · exact n
    · intro e
      subst e
      subst es
      exact ap j d2 hj (join_some eq)

/-! ### atoms -/
theorem ev_var {i : Nat} (h : Γ[i]? = some (.va d)) : Ev K (tVar i) Γ Γ d := fun _ _ σ B H S _ q => by
  obtain ⟨v, e, a⟩ := S.va h
  exact ⟨v, e, q v B H S (Same.refl B) a⟩
theorem ev_int {i : Int} : Ev K (tC (.int i)) Γ Γ (.int i) := fun _ _ σ B H S _ q => q _ B H S (Same.refl B) (.int i)
theorem ev_bl {i : Bool} : Ev K (tC (.bl i)) Γ Γ (.bl i) := fun _ _ σ B H S _ q => q _ B H S (Same.refl B) (.bl i)
theorem ev_str {i : Str} : Ev K (tC (.str i)) Γ Γ (.str i) := fun _ _ σ B H S _ q => q _ B H S (Same.refl B) (.str i)
theorem ev_non : Ev K (tC .non) Γ Γ .non := fun _ _ σ B H S _ q => q _ B H S (Same.refl B) .non
theorem ev_ty {n : String} : Ev K (tC (.ty n)) Γ Γ (.ty n) := fun _ _ σ B H S _ q => q _ B H S (Same.refl B) (.ty n)
/-- a written tuple, list of the module -/
theorem ev_glob {a : Addr} (h : ∀ B, At K B (.ref a) d) : Ev K (tC (.ref a)) Γ Γ d := fun _ _ σ B H S _ q => q _ B H S (Same.refl B) (h B)

/-! ### two operands -/
def RV (K : PySem.W.Frag) (r : R2) (x y z : D) : Prop := ∀ (B H : Hp) (vx vy : V), Same B H → At K B vx x → At K B vy y → ∀ Q : VK, (∀ v, At K B v z → Q v H) → r vx vy H Q
theorem ev_op {r : R2} (ha : Ev K ta Γ Γ1 x) (hb : Ev K tb Γ1 Γ2 y) (hr : RV K r x y z) : Ev K (tOp r ta tb) Γ Γ2 z := fun B0 F σ B H S Q q =>
  ha B0 F σ B H S _ fun vx B1 H1 S1 s1 a1 => hb B0 F σ B1 H1 S1 _ fun vy B2 H2 S2 s2 a2 => hr B2 H2 vx vy S2.bh (a1.up s2) a2 Q fun v av => q v B2 H2 S2 (s1.trans s2) av
abbrev rAddI : R2 := rI0 fun i j => .int (i + j)
abbrev rSubI : R2 := rI0 fun i j => .int (i - j)
abbrev rMulI : R2 := rI CMulW fun i j => .int (i * j)
abbrev rDivI : R2 := rI CDivW fun i j => .int (i / j)
abbrev rModI : R2 := rI (fun _ j => 0 < j) fun i j => .int (i % j)
abbrev rPowI : R2 := rI CPow fun i j => .int (i ^ j.toNat)
abbrev rLtI : R2 := rI0 fun i j => .bl (decide (i < j))
abbrev rLeI : R2 := rI0 fun i j => .bl (decide (i ≤ j))
abbrev rGtI : R2 := rI0 fun i j => .bl (decide (j < i))
abbrev rGeI : R2 := rI0 fun i j => .bl (decide (j ≤ i))
def rIsNn : R2 := fun x y H Q => y = .non ∧ Q (.bl (decide (x = .non))) H
def rNotNn : R2 := fun x y H Q => y = .non ∧ Q (.bl (!decide (x = .non))) H
def rInc : R2 := fun x y H Q => ∃ i j, x = .str i ∧ y = .str j ∧ i.length + j.length ≤ sizeLine ∧ Q (.str (i ++ j)) H
theorem rv_I0 {g : Int → Int → V} {g' : Int → Int → D} (hg : ∀ i j B, At K B (g i j) (g' i j)) {i j : Int} : RV K (rI0 g) (.int i) (.int j) (g' i j) := fun B H vx vy _ hx hy Q q => by
  cases hx
  cases hy
  exact ⟨i, j, rfl, rfl, q _ (hg i j B)⟩
theorem rv_I {C : Int → Int → Prop} {g : Int → Int → V} {g' : Int → Int → D} (hg : ∀ i j B, At K B (g i j) (g' i j)) {i j : Int} (hc : C i j) : RV K (rI C g) (.int i) (.int j) (g' i j) := fun B H vx vy _ hx hy Q q => by
  cases hx
  cases hy
  exact ⟨i, j, rfl, rfl, hc, q _ (hg i j B)⟩
section
variable {i j : Int}
theorem rv_add : RV K rAddI (.int i) (.int j) (.int (i + j)) := rv_I0 (g' := fun i j => .int (i + j)) fun _ _ _ => .int _
theorem rv_sub : RV K rSubI (.int i) (.int j) (.int (i - j)) := rv_I0 (g' := fun i j => .int (i - j)) fun _ _ _ => .int _
theorem rv_mul (h : CMulW i j) : RV K rMulI (.int i) (.int j) (.int (i * j)) := rv_I (g' := fun i j => .int (i * j)) (fun _ _ _ => .int _) h
theorem rv_div (h : CDivW i j) : RV K rDivI (.int i) (.int j) (.int (i / j)) := rv_I (g' := fun i j => .int (i / j)) (fun _ _ _ => .int _) h
theorem rv_mod (h : 0 < j) : RV K rModI (.int i) (.int j) (.int (i % j)) := rv_I (g' := fun i j => .int (i % j)) (fun _ _ _ => .int _) h
theorem rv_pow (h : CPow i j) : RV K rPowI (.int i) (.int j) (.int (i ^ j.toNat)) := rv_I (g' := fun i j => .int (i ^ j.toNat)) (fun _ _ _ => .int _) h
theorem rv_lt : RV K rLtI (.int i) (.int j) (.bl (decide (i < j))) := rv_I0 (g' := fun i j => .bl (decide (i < j))) fun _ _ _ => .bl _
theorem rv_le : RV K rLeI (.int i) (.int j) (.bl (decide (i ≤ j))) := rv_I0 (g' := fun i j => .bl (decide (i ≤ j))) fun _ _ _ => .bl _
theorem rv_gt : RV K rGtI (.int i) (.int j) (.bl (decide (j < i))) := rv_I0 (g' := fun i j => .bl (decide (j < i))) fun _ _ _ => .bl _
theorem rv_ge : RV K rGeI (.int i) (.int j) (.bl (decide (j ≤ i))) := rv_I0 (g' := fun i j => .bl (decide (j ≤ i))) fun _ _ _ => .bl _
theorem rv_eq : RV K rEq (.int i) (.int j) (.bl (decide (i = j))) := fun B H vx vy _ hx hy Q q => by
  cases hx
  cases hy
  have e : decide (V.int i = V.int j) = decide (i = j) := by
    rw [Bool.eq_iff_iff]
    simp
  exact ⟨rfl, by rw [e]; exact q _ (.bl _)⟩
theorem rv_ne : RV K rNe (.int i) (.int j) (.bl (!decide (i = j))) := fun B H vx vy _ hx hy Q q => by
  cases hx
  cases hy
  have e : decide (V.int i = V.int j) = decide (i = j) := by
    rw [Bool.eq_iff_iff]
    simp
  exact ⟨rfl, by rw [e]; exact q _ (.bl _)⟩
end
theorem rv_eqS {s s' : Str} : RV K rEq (.str s) (.str s') (.bl (decide (s = s'))) := fun B H vx vy _ hx hy Q q => by
  cases hx
  cases hy
  have e : decide (V.str s = V.str s') = decide (s = s') := by
    rw [Bool.eq_iff_iff]
    simp
  exact ⟨rfl, by rw [e]; exact q _ (.bl _)⟩
theorem rv_eqB {s s' : Bool} : RV K rEq (.bl s) (.bl s') (.bl (decide (s = s'))) := fun B H vx vy _ hx hy Q q => by
  cases hx
  cases hy
  have e : decide (V.bl s = V.bl s') = decide (s = s') := by
    rw [Bool.eq_iff_iff]
    simp
  exact ⟨rfl, by rw [e]; exact q _ (.bl _)⟩
theorem rv_neB {s s' : Bool} : RV K rNe (.bl s) (.bl s') (.bl (!decide (s = s'))) := fun B H vx vy _ hx hy Q q => by
  cases hx
  cases hy
  have e : decide (V.bl s = V.bl s') = decide (s = s') := by
    rw [Bool.eq_iff_iff]
    simp
  exact ⟨rfl, by rw [e]; exact q _ (.bl _)⟩
/-- is it None -/
def isN : D → Bool
  | .non => true
  | _ => false
theorem At.isN {B : Hp} {v : V} (h : At K B v x) : decide (v = V.non) = Y.isN x := by
  cases h <;> first | rfl | simp [Y.isN]
theorem rv_isN : RV K rIsNn x .non (.bl (isN x)) := fun B H vx vy _ hx hy Q q => by
  cases hy
  exact ⟨rfl, by rw [hx.isN]; exact q _ (.bl _)⟩
theorem rv_notN : RV K rNotNn x .non (.bl (!isN x)) := fun B H vx vy _ hx hy Q q => by
  cases hy
  exact ⟨rfl, by rw [hx.isN]; exact q _ (.bl _)⟩
theorem rv_isB {p q : Bool} : RV K rIsB (.bl p) (.bl q) (.bl (decide (p = q))) := fun B H vx vy _ hx hy Q k => by
  cases hx
  cases hy
  exact ⟨p, q, rfl, rfl, k _ (.bl _)⟩
theorem rv_notB {p q : Bool} : RV K rNotB (.bl p) (.bl q) (.bl (!decide (p = q))) := fun B H vx vy _ hx hy Q k => by
  cases hx
  cases hy
  exact ⟨p, q, rfl, rfl, k _ (.bl _)⟩
theorem atI_ats {B : Hp} {vs : List V} {ds : List D} {i : Int} (r : Ats K B vs ds) (h : atI ds i = some d) : ∃ v, atI vs i = some v ∧ At K B v d := by
  unfold atI at h ⊢
  rw [r.length]
  cases e : ixN ds.length i with
  | none =>
    rw [e] at h
    cases h
  | some j =>
    rw [e] at h
    exact r.get h
theorem rv_ixT {ds : List D} {i : Int} (h : atI ds i = some d) : RV K (rIxT K) (.tup ds) (.int i) d := fun B H vx vy bh hx hy Q q => by
  cases hy
  cases hx with
  | tup hh r =>
    obtain ⟨v, e, a⟩ := atI_ats r h
    exact ⟨_, _, i, v, rfl, rfl, same_t bh hh, e, q v a⟩
theorem rv_ixL {ds : List D} {i : Int} (h : atI ds i = some d) : RV K (rIxL K) (.lst ds) (.int i) d := fun B H vx vy bh hx hy Q q => by
  cases hy
  cases hx with
  | lst hh r =>
    obtain ⟨v, e, a⟩ := atI_ats r h
    exact ⟨_, _, i, v, rfl, rfl, SqL.of (bh _ _ hh), e, q v a⟩
theorem rv_ixLT {ds : List D} {i : Int} (h : atI ds i = some d) : RV K (rIx K) (.tup ds) (.int i) d := fun B H vx vy bh hx hy Q q => .inr (.inl (rv_ixT h B H vx vy bh hx hy Q q))
theorem rv_ixLL {ds : List D} {i : Int} (h : atI ds i = some d) : RV K (rIx K) (.lst ds) (.int i) d := fun B H vx vy bh hx hy Q q => .inl (rv_ixL h B H vx vy bh hx hy Q q)
/-- x in a tuple, a list of flat things -/
def flatD : D → Bool
  | .non => true | .bl _ => true | .int _ => true | .str _ => true
  | _ => false
def eqD : D → D → Bool
  | .non, .non => true
  | .bl a, .bl b => a == b
  | .bl a, .int b => (if a then 1 else 0) == b
  | .int a, .bl b => a == (if b then 1 else 0)
  | .int a, .int b => a == b
  | .str a, .str b => a == b
  | _, _ => false
theorem At.flat {B : Hp} {v : V} (h : At K B v x) (f : flatD x = true) : flatV v = true := by
  cases h <;> first | rfl | cases f
theorem At.eqv {B : Hp} {v w : V} (h : At K B v x) (g : At K B w y) (f : flatD x = true) (f2 : flatD y = true) : eqV v w = eqD x y := by
  cases h <;> (first | cases f; done | skip) <;> cases g <;> first | rfl | cases f2
def inD (x : D) (l : List D) : Bool := l.any fun y => eqD y x
theorem Ats.inV {B : Hp} {v : V} (h : At K B v x) (f : flatD x = true) : ∀ {vs : List V} {ds : List D}, Ats K B vs ds → ds.all flatD = true → vs.all flatV = true ∧ L2.inV v vs = inD x ds
  | _, _, .nil, _ => ⟨rfl, rfl⟩
  | _, _, .cons g r, e => by
    rw [List.all_cons, Bool.and_eq_true] at e
    obtain ⟨h1, h2⟩ := Ats.inV h f r e.2
    refine ⟨by rw [List.all_cons, g.flat e.1, h1]; rfl, ?_⟩
    unfold L2.inV inD at h2 ⊢
    rw [List.any_cons, List.any_cons, h2, g.eqv h e.1 f]
theorem rv_inT {ds : List D} (f : flatD x = true) (e : ds.all flatD = true) : RV K (rIn K false) x (.tup ds) (.bl (inD x ds)) := fun B H vx vy bh hx hy Q q => by
  cases hy with
  | tup hh r =>
    obtain ⟨h1, h2⟩ := Ats.inV hx f r e
    exact ⟨_, _, rfl, .inr (same_t bh hh), hx.flat f, h1, by rw [h2]; exact q _ (.bl _)⟩
theorem rv_niT {ds : List D} (f : flatD x = true) (e : ds.all flatD = true) : RV K (rIn K true) x (.tup ds) (.bl (!inD x ds)) := fun B H vx vy bh hx hy Q q => by
  cases hy with
  | tup hh r =>
    obtain ⟨h1, h2⟩ := Ats.inV hx f r e
    exact ⟨_, _, rfl, .inr (same_t bh hh), hx.flat f, h1, by rw [h2]; exact q _ (.bl _)⟩
theorem rv_inL {ds : List D} (f : flatD x = true) (e : ds.all flatD = true) : RV K (rIn K false) x (.lst ds) (.bl (inD x ds)) := fun B H vx vy bh hx hy Q q => by
  cases hy with
  | lst hh r =>
    obtain ⟨h1, h2⟩ := Ats.inV hx f r e
    exact ⟨_, _, rfl, .inl (SqL.of (bh _ _ hh)), hx.flat f, h1, by rw [h2]; exact q _ (.bl _)⟩
theorem rv_niL {ds : List D} (f : flatD x = true) (e : ds.all flatD = true) : RV K (rIn K true) x (.lst ds) (.bl (!inD x ds)) := fun B H vx vy bh hx hy Q q => by
  cases hy with
  | lst hh r =>
    obtain ⟨h1, h2⟩ := Ats.inV hx f r e
    exact ⟨_, _, rfl, .inl (SqL.of (bh _ _ hh)), hx.flat f, h1, by rw [h2]; exact q _ (.bl _)⟩

/-! ### one operand -/
abbrev rNegI : V → Hp → VK → Prop := rU fun i => .int (-i)
theorem ev_neg {i : Int} (h : Ev K ta Γ Γ1 (.int i)) : Ev K (tUn rNegI ta) Γ Γ1 (.int (-i)) := fun B0 F σ B H S Q q => h B0 F σ B H S _ fun v B1 H1 S1 s1 a1 => by
  cases a1
  exact ⟨i, rfl, q _ B1 H1 S1 s1 (.int _)⟩

/-! ### tests -/
theorem et_test (h : Ev K te Γ Γ1 (.bl b)) : EvT K (tTest te) Γ Γ1 b := fun B0 F σ B H S Q q => h B0 F σ B H S _ fun v B1 H1 S1 s1 a1 => by
  cases a1
  exact ⟨b, rfl, q B1 H1 S1 s1⟩
theorem et_B (h : Ev K te Γ Γ1 (.bl b)) : EvT K (tB te) Γ Γ1 b := fun B0 F σ B H S Q q => h B0 F σ B H S _ fun v B1 H1 S1 s1 a1 => by
  cases a1
  exact ⟨b, rfl, q B1 H1 S1 s1⟩
theorem et_not (h : EvT K t Γ Γ1 a) : EvT K (tNot t) Γ Γ1 (!a) := fun B0 F σ B H S Q q => h B0 F σ B H S _ fun B1 H1 S1 s1 => q B1 H1 S1 s1
/-- and, or: the second in the surroundings that the first leaves; both are asked alike -/
theorem et_and (h1 : EvT K t Γ Γ1 a) (h2 : a = true → EvT K u Γ1 Γ1 b) : EvT K (tAnd t u) Γ Γ1 (a && b) := fun B0 F σ B H S Q q => h1 B0 F σ B H S _ fun B1 H1 S1 s1 => by
  cases a with
  | true => exact h2 rfl B0 F σ B1 H1 S1 Q fun B2 H2 S2 s2 => q B2 H2 S2 (s1.trans s2)
  | false => exact q B1 H1 S1 s1
theorem et_or (h1 : EvT K t Γ Γ1 a) (h2 : a = false → EvT K u Γ1 Γ1 b) : EvT K (tOr t u) Γ Γ1 (a || b) := fun B0 F σ B H S Q q => h1 B0 F σ B H S _ fun B1 H1 S1 s1 => by
  cases a with
  | false => exact h2 rfl B0 F σ B1 H1 S1 Q fun B2 H2 S2 s2 => q B2 H2 S2 (s1.trans s2)
  | true => exact q B1 H1 S1 s1
theorem ev_andV (h1 : Ev K ta Γ Γ1 (.bl a)) (h2 : a = true → Ev K tb Γ1 Γ1 (.bl b)) : Ev K (tAndV ta tb) Γ Γ1 (.bl (a && b)) := fun B0 F σ B H S Q q => h1 B0 F σ B H S _ fun v B1 H1 S1 s1 a1 => by
  cases a1
  refine ⟨a, rfl, ?_⟩
  cases a with
  | true => exact h2 rfl B0 F σ B1 H1 S1 Q fun v B2 H2 S2 s2 => q v B2 H2 S2 (s1.trans s2)
  | false => exact q _ B1 H1 S1 s1 (.bl _)
theorem ev_orV (h1 : Ev K ta Γ Γ1 (.bl a)) (h2 : a = false → Ev K tb Γ1 Γ1 (.bl b)) : Ev K (tOrV ta tb) Γ Γ1 (.bl (a || b)) := fun B0 F σ B H S Q q => h1 B0 F σ B H S _ fun v B1 H1 S1 s1 a1 => by
  cases a1
  refine ⟨a, rfl, ?_⟩
  cases a with
  | false => exact h2 rfl B0 F σ B1 H1 S1 Q fun v B2 H2 S2 s2 => q v B2 H2 S2 (s1.trans s2)
  | true => exact q _ B1 H1 S1 s1 (.bl _)
theorem ev_notV (h1 : Ev K ta Γ Γ1 (.bl a)) : Ev K (tNotV ta) Γ Γ1 (.bl (!a)) := fun B0 F σ B H S Q q => h1 B0 F σ B H S _ fun v B1 H1 S1 s1 a1 => by
  cases a1
  exact ⟨a, rfl, q _ B1 H1 S1 s1 (.bl _)⟩
theorem ev_ifE (h : EvT K t Γ Γ1 a) (h1 : a = true → Ev K ta Γ1 Γ1 d) (h2 : a = false → Ev K tb Γ1 Γ1 d) : Ev K (tIf t ta tb) Γ Γ1 d := fun B0 F σ B H S Q q => h B0 F σ B H S _ fun B1 H1 S1 s1 => by
  cases a with
  | true => exact h1 rfl B0 F σ B1 H1 S1 Q fun v B2 H2 S2 s2 => q v B2 H2 S2 (s1.trans s2)
  | false => exact h2 rfl B0 F σ B1 H1 S1 Q fun v B2 H2 S2 s2 => q v B2 H2 S2 (s1.trans s2)
/-- a < b < c -/
theorem ev_chain {r r' : R2} (ha : Ev K ta Γ Γ1 x) (hb : Ev K tb Γ1 Γ2 y) (hr : RV K r x y (.bl a)) (hc : a = true → Ev K tc Γ2 Γ2 z) (hr' : a = true → RV K r' y z (.bl b)) : Ev K (tChain r r' ta tb tc) Γ Γ2 (.bl (a && b)) := fun B0 F σ B H S Q q =>
  ha B0 F σ B H S _ fun vx B1 H1 S1 s1 a1 => hb B0 F σ B1 H1 S1 _ fun vy B2 H2 S2 s2 a2 => hr B2 H2 vx vy S2.bh (a1.up s2) a2 _ fun v av => by
    cases av
    refine ⟨a, rfl, ?_⟩
    cases a with
    | true => exact hc rfl B0 F σ B2 H2 S2 _ fun vz B3 H3 S3 s3 a3 => hr' rfl B3 H3 vy vz S3.bh (a2.up s3) a3 Q fun v av => q v B3 H3 S3 ((s1.trans s2).trans s3) av
    | false => exact q _ B2 H2 S2 (s1.trans s2) (.bl _)
/-- a value's truth -/
def truD : D → Bool
  | .non => false | .bl b => b | .int i => i != 0
  | .lst l => !l.isEmpty | .tup l => !l.isEmpty | .lsr l => !l.isEmpty | .dic ks _ => !ks.isEmpty
  | _ => true
def truOk : D → Bool
  | .non => true | .bl _ => true | .int _ => true | .lst _ => true | .tup _ => true
  | _ => false
def tTru (K : PySem.W.Frag) (ta : TE) : TT := fun σ H Q => ta σ H fun x H' => ∃ k, TruV K x H' k ∧ Q k H'
theorem Ats.empty {B : Hp} {vs : List V} {ds : List D} (r : Ats K B vs ds) : vs.isEmpty = ds.isEmpty := by
  cases r <;> rfl
theorem et_tru (h : Ev K te Γ Γ1 x) (ok : truOk x = true) : EvT K (tTru K te) Γ Γ1 (truD x) := fun B0 F σ B H S Q q => h B0 F σ B H S _ fun v B1 H1 S1 s1 a1 => by
  refine ⟨truD x, ?_, q B1 H1 S1 s1⟩
  cases a1 with
  | non => rfl
  | bl b => rfl
  | int i => rfl
  | str s => cases ok
  | ty s => cases ok
  | tup hh r => exact .inr (.inl ⟨_, same_t S1.bh hh, by rw [r.empty]; rfl⟩)
  | lst hh r => exact .inl ⟨_, SqL.of (S1.bh _ _ hh), by rw [r.empty]; rfl⟩
  | lsr hh r => cases ok
  | obj hh _ _ => cases ok
  | dic hh _ _ => cases ok
  | exc0 => cases ok
  | exc1 hh _ _ => cases ok

/-! ### arguments, displays -/
theorem ea_nil : EvA K tNil Γ Γ [] := fun _ _ σ B H S _ q => q [] B H S (Same.refl B) .nil
theorem ea_cons {tr : TA} {as : List Ag} (h : Ev K ta Γ Γ1 x) (r : EvA K tr Γ1 Γ2 as) : EvA K (tCons ta tr) Γ Γ2 (.v x :: as) := fun B0 F σ B H S Q q =>
  h B0 F σ B H S _ fun v B1 H1 S1 s1 a1 => r B0 F σ B1 H1 S1 _ fun vs B2 H2 S2 s2 a2 => q (v :: vs) B2 H2 S2 (s1.trans s2) (.cons (a := .v x) (a1.up s2) a2)
theorem ea_own {tr : TA} {as : List Ag} {i : Nat} (h : Γ[i]? = some (.ow d)) (r : EvA K tr Γ Γ2 as) : EvA K (tCons (tVar i) tr) Γ Γ2 (.o i :: as) := fun B0 F σ B H S Q q => by
  obtain ⟨p, e, _⟩ := S.ow h
  exact ⟨.ref p, e, r B0 F σ B H S _ fun vs B2 H2 S2 s2 a2 => q (.ref p :: vs) B2 H2 S2 s2 (.cons (a := .o i) e a2)⟩
theorem line_of {n : Nat} (h : n ≤ 16777216) : n ≤ sizeLine := by
  rw [sizeLine_eq]
  exact h
theorem line_lt {n : Nat} (h : n < 16777216) : n < sizeLine := by
  rw [sizeLine_eq]
  exact h
theorem ev_tup {tr : TA} {ds : List D} (h : EvA K tr Γ Γ1 (ds.map .v)) (hl : ds.length ≤ 16777216 := by decide) : Ev K (tTup tr) Γ Γ1 (.tup ds) := fun B0 F σ B H S Q q => h B0 F σ B H S _ fun vs B1 H1 S1 s1 a1 =>
  ⟨line_of (by rw [a1.ats.length]; exact hl), fun p hp => q _ _ _ (S1.new hp) (s1.trans (S1.same hp)) (.tup (SqT.of upd_same) (a1.ats.up (S1.same hp)))⟩
theorem eo_lst {tr : TA} {ds : List D} (h : EvA K tr Γ Γ1 (ds.map .v)) (hl : ds.length ≤ 16777216 := by decide) : EvO K (tLst tr) Γ Γ1 (.lst ds) := fun B0 F σ B H S Q q => h B0 F σ B H S _ fun vs B1 H1 S1 s1 a1 =>
  ⟨line_of (by rw [a1.ats.length]; exact hl), fun p hp => q p B1 _ (S1.newO hp) s1 (S1.bnone hp) (S1.fnone hp) (.lst upd_same a1.ats) fun i d hi => S1.apart hp hi⟩
/-! ### slices -/
theorem ep_none : EvP K tNoPart Γ Γ none := fun _ _ σ B H S _ q => q B H S (Same.refl B)
theorem ep_some {i : Int} (h : Ev K ta Γ Γ1 (.int i)) : EvP K (tPart ta) Γ Γ1 (some i) := fun B0 F σ B H S Q q => h B0 F σ B H S _ fun v B1 H1 S1 s1 a1 => by
  cases a1
  exact ⟨i, rfl, q B1 H1 S1 s1⟩
def cutD (xs : List D) (lo hi : Option Int) : List D := (xs.drop (HT.sIx xs.length 0 lo)).take (HT.sIx xs.length xs.length hi - HT.sIx xs.length 0 lo)
theorem Ats.cut {B : Hp} {vs : List V} {ds : List D} (r : Ats K B vs ds) (lo hi : Option Int) : Ats K B (cutV vs lo hi) (cutD ds lo hi) := by
  unfold cutV cutD
  rw [r.length]
  exact (r.drop _).take _
theorem eo_slL {tl th : TO} {ds : List D} {lo hi : Option Int} (h : Ev K ta Γ Γ1 (.lst ds)) (h1 : EvP K tl Γ1 Γ2 lo) (h2 : EvP K th Γ2 Γ3 hi) : EvO K (tSl (rSlL K) ta tl th) Γ Γ3 (.lst (cutD ds lo hi)) := fun B0 F σ B H S Q q =>
  h B0 F σ B H S _ fun v B1 H1 S1 s1 a1 => h1 B0 F σ B1 H1 S1 _ fun B2 H2 S2 s2 => h2 B0 F σ B2 H2 S2 _ fun B3 H3 S3 s3 => by
    cases a1.up (s2.trans s3) with
    | lst hh r => exact ⟨_, _, rfl, SqL.of (S3.bh _ _ hh), fun p hp => q p B3 _ (S3.newO hp) ((s1.trans s2).trans s3) (S3.bnone hp) (S3.fnone hp) (.lst upd_same (r.cut _ _)) fun i d hi => S3.apart hp hi⟩
theorem eo_slR {tl th : TO} {ds : List D} {lo hi : Option Int} (h : Ev K ta Γ Γ1 (.lsr ds)) (h1 : EvP K tl Γ1 Γ2 lo) (h2 : EvP K th Γ2 Γ3 hi) : EvO K (tSl (rSlL K) ta tl th) Γ Γ3 (.lst (cutD ds lo hi)) := fun B0 F σ B H S Q q =>
  h B0 F σ B H S _ fun v B1 H1 S1 s1 a1 => h1 B0 F σ B1 H1 S1 _ fun B2 H2 S2 s2 => h2 B0 F σ B2 H2 S2 _ fun B3 H3 S3 s3 => by
    cases a1.up (s2.trans s3) with
    | lsr hh r => exact ⟨_, _, rfl, S3.bh.seq hh, fun p hp => q p B3 _ (S3.newO hp) ((s1.trans s2).trans s3) (S3.bnone hp) (S3.fnone hp) (.lst upd_same (r.cut _ _)) fun i d hi => S3.apart hp hi⟩
theorem eo_slOwn {tl th : TO} {ds : List D} {lo hi : Option Int} {i : Nat} (h1 : EvP K tl Γ Γ1 lo) (h2 : EvP K th Γ1 Γ2 hi) (h0 : Γ[i]? = some (.ow d)) (h : Γ2[i]? = some (.ow (.lst ds))) : EvO K (tSl (rSlL K) (tVar i) tl th) Γ Γ2 (.lst (cutD ds lo hi)) := fun B0 F σ B H S Q q => by
  obtain ⟨p, e, _⟩ := S.ow h0
  refine ⟨.ref p, e, h1 B0 F σ B H S _ fun B2 H2 S2 s2 => h2 B0 F σ B2 H2 S2 _ fun B3 H3 S3 s3 => ?_⟩
  obtain ⟨p', e', _, _, w⟩ := S3.ow h
  rw [e] at e'
  cases e'
  cases w with
  | lst hh r => exact ⟨_, _, rfl, SqL.of hh, fun p hp => q p B3 _ (S3.newO hp) (s2.trans s3) (S3.bnone hp) (S3.fnone hp) (.lst upd_same (r.cut _ _)) fun i d hi => S3.apart hp hi⟩

/-! ### lists joined, repeated -/
theorem eo_cat {xs ys : List D} (ha : Ev K ta Γ Γ1 (.lst xs)) (hb : Ev K tb Γ1 Γ2 (.lst ys)) (hl : xs.length + ys.length ≤ 16777216) : EvO K (tOp rCat ta tb) Γ Γ2 (.lst (xs ++ ys)) := fun B0 F σ B H S Q q =>
  ha B0 F σ B H S _ fun vx B1 H1 S1 s1 a1 => hb B0 F σ B1 H1 S1 _ fun vy B2 H2 S2 s2 a2 => by
    cases a1.up s2 with
    | lst h1 r1 =>
      cases a2 with
      | lst h2 r2 =>
        exact ⟨_, _, _, _, rfl, rfl, S2.bh _ _ h1, S2.bh _ _ h2, line_of (by rw [r1.length, r2.length]; exact hl), fun p hp => q p B2 _ (S2.newO hp) (s1.trans s2) (S2.bnone hp) (S2.fnone hp) (.lst upd_same (r1.append r2)) fun i d hi => S2.apart hp hi⟩
def repD (xs : List D) : Nat → List D
  | 0 => []
  | n + 1 => xs ++ repD xs n
end
end Y
set_option maxHeartbeats 4000000
namespace Y
open PySem L2
section
variable {K : PySem.W.Frag} {Γ Γ1 Γ2 Γ3 : List Sl} {ta tb tc te : TE} {d x y z : D} {t u : TT} {a b c : Bool} {tr : TA}

/-! ### [x] * n -/
theorem flat_ints {B : Hp} {vs : List V} {ds : List D} (r : Ats K B vs ds) : ∀ n : Nat, Ats K B (List.replicate n vs).flatten (List.replicate n ds).flatten
  | 0 => .nil
  | n + 1 => by
    rw [List.replicate_succ, List.replicate_succ, List.flatten_cons, List.flatten_cons]
    exact r.append (flat_ints r n)
theorem eo_rep {xs : List D} {k : Int} (ha : Ev K ta Γ Γ1 (.lst xs)) (hb : Ev K tb Γ1 Γ2 (.int k)) (h1 : -(2 ^ 63) ≤ k) (h2 : k < 2 ^ 63) (hl : xs.length * k.toNat ≤ 16777216) : EvO K (tOp rRep ta tb) Γ Γ2 (.lst (List.replicate k.toNat xs).flatten) := fun B0 F σ B H S Q q =>
  ha B0 F σ B H S _ fun vx B1 H1 S1 s1 a1 => hb B0 F σ B1 H1 S1 _ fun vy B2 H2 S2 s2 a2 => by
    cases a2
    cases a1.up s2 with
    | lst h1' r1 => exact ⟨_, _, _, rfl, rfl, S2.bh _ _ h1', h1, h2, line_of (by rw [r1.length]; exact hl), fun p hp => q p B2 _ (S2.newO hp) (s1.trans s2) (S2.bnone hp) (S2.fnone hp) (.lst upd_same (flat_ints r1 _)) fun i d hi => S2.apart hp hi⟩

/-! ### what a slot owns, read -/
theorem ev_ixOwn {i : Nat} {ds : List D} {k : Int} {d0 : D} (h0 : Γ[i]? = some (.ow d0)) (hb : Ev K tb Γ Γ1 (.int k)) (h : Γ1[i]? = some (.ow (.lst ds))) (e : atI ds k = some d) : Ev K (tOp (rIxL K) (tVar i) tb) Γ Γ1 d := fun B0 F σ B H S Q q => by
  obtain ⟨p, ep, _⟩ := S.ow h0
  refine ⟨.ref p, ep, hb B0 F σ B H S _ fun v B1 H1 S1 s1 a1 => ?_⟩
  cases a1
  obtain ⟨p', e', _, _, w⟩ := S1.ow h
  rw [ep] at e'
  cases e'
  cases w with
  | lst hh r =>
    obtain ⟨v, ev, av⟩ := atI_ats r e
    exact ⟨_, _, _, _, rfl, rfl, SqL.of hh, ev, q v B1 H1 S1 s1 av⟩
theorem ev_ixOwnA {i : Nat} {ds : List D} {k : Int} {d0 : D} (h0 : Γ[i]? = some (.ow d0)) (hb : Ev K tb Γ Γ1 (.int k)) (h : Γ1[i]? = some (.ow (.lst ds))) (e : atI ds k = some d) : Ev K (tOp (rIx K) (tVar i) tb) Γ Γ1 d := fun B0 F σ B H S Q q => by
  obtain ⟨p, ep, _⟩ := S.ow h0
  refine ⟨.ref p, ep, hb B0 F σ B H S _ fun v B1 H1 S1 s1 a1 => ?_⟩
  cases a1
  obtain ⟨p', e', _, _, w⟩ := S1.ow h
  rw [ep] at e'
  cases e'
  cases w with
  | lst hh r =>
    obtain ⟨v, ev, av⟩ := atI_ats r e
    exact .inl ⟨_, _, _, _, rfl, rfl, SqL.of hh, ev, q v B1 H1 S1 s1 av⟩

/-! ### built-in functions -/
def RC (K : PySem.W.Frag) (r : List V → Hp → VK → Prop) (ds : List D) (z : D) : Prop := ∀ (B H : Hp) (vs : List V), Same B H → Ats K B vs ds → ∀ Q : VK, (∀ v, At K B v z → Q v H) → r vs H Q
theorem ev_cb {r : List V → Hp → VK → Prop} {ds : List D} (h : EvA K tr Γ Γ1 (ds.map .v)) (hr : RC K r ds z) : Ev K (tCB r tr) Γ Γ1 z := fun B0 F σ B H S Q q => h B0 F σ B H S _ fun vs B1 H1 S1 s1 a1 => hr B1 H1 vs S1.bh a1.ats Q fun v av => q v B1 H1 S1 s1 av
def rLenQ (K : PySem.W.Frag) : List V → Hp → VK → Prop := fun xs H Q => ∃ p ys, xs = [.ref p] ∧ (SqL K H p ys ∨ SqT K H p ys) ∧ Q (.int ys.length) H
theorem call_lenQ {X : Cx} : CallR X (.builtin "len") (rLenQ X.K) := call_len_seq
theorem rc_lenL {ds : List D} : RC K (rLenQ K) [.lst ds] (.int ds.length) := fun B H vs bh r Q q => by
  cases r with
  | cons h r =>
    cases r
    cases h with
    | lst hh r => exact ⟨_, _, rfl, .inl (SqL.of (bh _ _ hh)), by rw [r.length]; exact q _ (.int _)⟩
theorem rc_lenT {ds : List D} : RC K (rLenQ K) [.tup ds] (.int ds.length) := fun B H vs bh r Q q => by
  cases r with
  | cons h r =>
    cases r
    cases h with
    | tup hh r => exact ⟨_, _, rfl, .inr (same_t bh hh), by rw [r.length]; exact q _ (.int _)⟩
theorem ev_lenOwn {i : Nat} {ds : List D} (h : Γ[i]? = some (.ow (.lst ds))) : Ev K (tCB (rLenQ K) (tCons (tVar i) tNil)) Γ Γ (.int ds.length) := fun B0 F σ B H S Q q => by
  obtain ⟨p, e, _, _, w⟩ := S.ow h
  cases w with
  | lst hh r => exact ⟨.ref p, e, _, _, rfl, .inl (SqL.of hh), by rw [r.length]; exact q _ B H S (Same.refl B) (.int _)⟩
def rAbsQ : List V → Hp → VK → Prop := fun xs H Q => ∃ i, xs = [.int i] ∧ Q (.int (if i < 0 then -i else i)) H
theorem call_absQ {X : Cx} : CallR X (.builtin "abs") rAbsQ := call_abs
theorem rc_abs {i : Int} : RC K rAbsQ [.int i] (.int i.natAbs) := fun B H vs bh r Q q => by
  cases r with
  | cons h r =>
    cases r
    cases h
    refine ⟨i, rfl, ?_⟩
    have e : (if i < 0 then -i else i) = (i.natAbs : Int) := by split <;> omega
    rw [e]
    exact q _ (.int _)
def rMax2Q : List V → Hp → VK → Prop := fun xs H Q => ∃ i j, xs = [.int i, .int j] ∧ Q (.int (if j > i then j else i)) H
theorem call_max2Q {X : Cx} (hc : X.calm = true) : CallR X (.builtin "max") rMax2Q := call_max2 hc
theorem rc_max2 {i j : Int} : RC K rMax2Q [.int i, .int j] (.int (max i j)) := fun B H vs bh r Q q => by
  cases r with
  | cons h r =>
    cases r with
    | cons h2 r =>
      cases r
      cases h
      cases h2
      refine ⟨i, j, rfl, ?_⟩
      have e : (if j > i then j else i) = max i j := by split <;> omega
      rw [e]
      exact q _ (.int _)
def rMin2Q : List V → Hp → VK → Prop := fun xs H Q => ∃ i j, xs = [.int i, .int j] ∧ Q (.int (if j < i then j else i)) H
theorem call_min2Q {X : Cx} (hc : X.calm = true) : CallR X (.builtin "min") rMin2Q := call_min2 hc
theorem rc_min2 {i j : Int} : RC K rMin2Q [.int i, .int j] (.int (min i j)) := fun B H vs bh r Q q => by
  cases r with
  | cons h r =>
    cases r with
    | cons h2 r =>
      cases r
      cases h
      cases h2
      refine ⟨i, j, rfl, ?_⟩
      have e : (if j < i then j else i) = min i j := by split <;> omega
      rw [e]
      exact q _ (.int _)
def rIntQ : List V → Hp → VK → Prop := fun xs H Q => (∃ i, xs = [.int i] ∧ Q (.int i) H) ∨ ∃ k, xs = [.bl k] ∧ Q (.int (if k then 1 else 0)) H
theorem call_intQ {X : Cx} : CallR X (.type "int") rIntQ := call_int1
theorem rc_int {i : Int} : RC K rIntQ [.int i] (.int i) := fun B H vs bh r Q q => by
  cases r with
  | cons h r =>
    cases r
    cases h
    exact .inl ⟨i, rfl, q _ (.int _)⟩
theorem rc_intB {k : Bool} : RC K rIntQ [.bl k] (.int (if k then 1 else 0)) := fun B H vs bh r Q q => by
  cases r with
  | cons h r =>
    cases r
    cases h
    exact .inr ⟨k, rfl, q _ (.int _)⟩
def rListQ (K : PySem.W.Frag) : List V → Hp → VK → Prop := fun xs H Q => ∃ p ys, xs = [.ref p] ∧ (SqL K H p ys ∨ SqT K H p ys) ∧ ∀ l, H l = none → Q (.ref l) (upd H l (.lst ys))
theorem call_listQ {X : Cx} : CallR X (.type "list") (rListQ X.K) := call_list_of
def rTupQ (K : PySem.W.Frag) : List V → Hp → VK → Prop := fun xs H Q => ∃ p ys, xs = [.ref p] ∧ ((SqL K H p ys ∧ ∀ l, H l = none → Q (.ref l) (upd H l (.tup ys))) ∨ (SqT K H p ys ∧ Q (.ref p) H))
theorem call_tupQ {X : Cx} : CallR X (.type "tuple") (rTupQ X.K) := call_tuple_of
theorem eo_listL {ds : List D} (h : Ev K ta Γ Γ1 (.lst ds)) : EvO K (tCB (rListQ K) (tCons ta tNil)) Γ Γ1 (.lst ds) := fun B0 F σ B H S Q q => h B0 F σ B H S _ fun v B1 H1 S1 s1 a1 => by
  cases a1 with
  | lst hh r => exact ⟨_, _, rfl, .inl (SqL.of (S1.bh _ _ hh)), fun p hp => q p B1 _ (S1.newO hp) s1 (S1.bnone hp) (S1.fnone hp) (.lst upd_same r) fun i d hi => S1.apart hp hi⟩
theorem eo_listT {ds : List D} (h : Ev K ta Γ Γ1 (.tup ds)) : EvO K (tCB (rListQ K) (tCons ta tNil)) Γ Γ1 (.lst ds) := fun B0 F σ B H S Q q => h B0 F σ B H S _ fun v B1 H1 S1 s1 a1 => by
  cases a1 with
  | tup hh r => exact ⟨_, _, rfl, .inr (same_t S1.bh hh), fun p hp => q p B1 _ (S1.newO hp) s1 (S1.bnone hp) (S1.fnone hp) (.lst upd_same r) fun i d hi => S1.apart hp hi⟩
theorem eo_listOwn {i : Nat} {ds : List D} (h : Γ[i]? = some (.ow (.lst ds))) : EvO K (tCB (rListQ K) (tCons (tVar i) tNil)) Γ Γ (.lst ds) := fun B0 F σ B H S Q q => by
  obtain ⟨p, e, _, _, w⟩ := S.ow h
  cases w with
  | lst hh r => exact ⟨.ref p, e, _, _, rfl, .inl (SqL.of hh), fun p hp => q p B _ (S.newO hp) (Same.refl B) (S.bnone hp) (S.fnone hp) (.lst upd_same r) fun i d hi => S.apart hp hi⟩
theorem ev_tupL {ds : List D} (h : Ev K ta Γ Γ1 (.lst ds)) : Ev K (tCB (rTupQ K) (tCons ta tNil)) Γ Γ1 (.tup ds) := fun B0 F σ B H S Q q => h B0 F σ B H S _ fun v B1 H1 S1 s1 a1 => by
  cases a1 with
  | lst hh r => exact ⟨_, _, rfl, .inl ⟨SqL.of (S1.bh _ _ hh), fun p hp => q _ _ _ (S1.new hp) (s1.trans (S1.same hp)) (.tup (SqT.of upd_same) (r.up (S1.same hp)))⟩⟩
theorem ev_tupT {ds : List D} (h : Ev K ta Γ Γ1 (.tup ds)) : Ev K (tCB (rTupQ K) (tCons ta tNil)) Γ Γ1 (.tup ds) := fun B0 F σ B H S Q q => h B0 F σ B H S _ fun v B1 H1 S1 s1 a1 => by
  cases a1 with
  | tup hh r => exact ⟨_, _, rfl, .inr ⟨same_t S1.bh hh, q _ B1 H1 S1 s1 (.tup hh r)⟩⟩
theorem ev_tupOwn {i : Nat} {ds : List D} (h : Γ[i]? = some (.ow (.lst ds))) : Ev K (tCB (rTupQ K) (tCons (tVar i) tNil)) Γ Γ (.tup ds) := fun B0 F σ B H S Q q => by
  obtain ⟨p, e, _, _, w⟩ := S.ow h
  cases w with
  | lst hh r => exact ⟨.ref p, e, _, _, rfl, .inl ⟨SqL.of hh, fun p hp => q _ _ _ (S.new hp) (S.same hp) (.tup (SqT.of upd_same) (r.up (S.same hp)))⟩⟩
/-- the argument is a new list, dropped behind the call -/
theorem ev_cbL {r : List V → Hp → VK → Prop} {ds : List D} (h : Ev K ta Γ Γ1 (.lst ds)) (hr : RC K r [.lst ds] z) : Ev K (tCB r (tCons ta tNil)) Γ Γ1 z := ev_cb (ds := [.lst ds]) (ea_cons h ea_nil) hr
/-- a built-in on the list that a slot owns -/
theorem ev_cbOwn {r : List V → Hp → VK → Prop} {i : Nat} {ds : List D} (h : Γ[i]? = some (.ow (.lst ds))) (hr : RC K r [.lst ds] z) (hz : ∀ B B' v, At K B v z → At K B' v z) : Ev K (tCB r (tCons (tVar i) tNil)) Γ Γ z := fun B0 F σ B H S Q q => by
  obtain ⟨p, e, hb, _, w⟩ := S.ow h
  cases w with
  | lst hh r' =>
    refine ⟨.ref p, e, hr (upd B p (.lst _)) H [.ref p] (fun b u q => ?_) (.cons (.lst upd_same (r'.up fun b u q => ?_)) .nil) Q fun v av => q v B H S (Same.refl B) (hz _ _ v av)⟩
    · by_cases hbp : b = p
      · subst hbp
        rw [upd_same] at q
        cases q
        exact hh
      · rw [upd_ne hbp] at q
        exact S.bh _ _ q
    · rw [upd_ne (ne_of_none q hb)]
      exact q
theorem rc_sum {l : List Int} : RC K (rSum K) [.lst (l.map .int)] (.int l.sum) := fun B H vs bh r Q q => by
  cases r with
  | cons h r =>
    cases r
    cases h with
    | lst hh r => exact ⟨_, l, rfl, by rw [← r.ints]; exact SqL.of (bh _ _ hh), q _ (.int _)⟩
def maxL : List Int → Int
  | [] => 0
  | [x] => x
  | x :: y :: r => max x (maxL (y :: r))
theorem maxL_mem : ∀ {l : List Int}, l ≠ [] → maxL l ∈ l
  | [], h => absurd rfl h
  | [x], _ => List.mem_cons_self
  | x :: y :: r, _ => by
    have ih := maxL_mem (l := y :: r) (by simp)
    show max x (maxL (y :: r)) ∈ _
    by_cases hx : maxL (y :: r) ≤ x
    · rw [Int.max_eq_left hx]
      exact List.mem_cons_self
    · rw [Int.max_eq_right (by omega)]
      exact List.mem_cons_of_mem _ ih
theorem maxL_ge : ∀ {l : List Int} {z : Int}, z ∈ l → z ≤ maxL l
  | [], _, h => by cases h
  | [x], z, h => by
    rw [List.mem_singleton] at h
    rw [h]
    exact Int.le_refl _
  | x :: y :: r, z, h => by
    show z ≤ max x (maxL (y :: r))
    rcases List.mem_cons.mp h with h | h
    · omega
    · have := maxL_ge (l := y :: r) h
      omega
def minL : List Int → Int
  | [] => 0
  | [x] => x
  | x :: y :: r => min x (minL (y :: r))
theorem minL_mem : ∀ {l : List Int}, l ≠ [] → minL l ∈ l
  | [], h => absurd rfl h
  | [x], _ => List.mem_cons_self
  | x :: y :: r, _ => by
    have ih := minL_mem (l := y :: r) (by simp)
    show min x (minL (y :: r)) ∈ _
    by_cases hx : x ≤ minL (y :: r)
    · rw [Int.min_eq_left hx]
      exact List.mem_cons_self
    · rw [Int.min_eq_right (by omega)]
      exact List.mem_cons_of_mem _ ih
theorem minL_le : ∀ {l : List Int} {z : Int}, z ∈ l → minL l ≤ z
  | [], _, h => by cases h
  | [x], z, h => by
    rw [List.mem_singleton] at h
    rw [h]
    exact Int.le_refl _
  | x :: y :: r, z, h => by
    show min x (minL (y :: r)) ≤ z
    rcases List.mem_cons.mp h with h | h
    · omega
    · have := minL_le (l := y :: r) h
      omega
theorem rc_max {l : List Int} (h0 : l ≠ []) : RC K (rMax K) [.lst (l.map .int)] (.int (maxL l)) := fun B H vs bh r Q q => by
  cases r with
  | cons h r =>
    cases r
    cases h with
    | lst hh r =>
      refine ⟨_, l, rfl, by rw [← r.ints]; exact SqL.of (bh _ _ hh), List.length_pos_iff.mpr h0, fun m hm hle => ?_⟩
      have e : m = maxL l := Int.le_antisymm (maxL_ge hm) (hle _ (maxL_mem h0))
      rw [e]
      exact q _ (.int _)
theorem rc_min {l : List Int} (h0 : l ≠ []) : RC K (rMin K) [.lst (l.map .int)] (.int (minL l)) := fun B H vs bh r Q q => by
  cases r with
  | cons h r =>
    cases r
    cases h with
    | lst hh r =>
      refine ⟨_, l, rfl, by rw [← r.ints]; exact SqL.of (bh _ _ hh), List.length_pos_iff.mpr h0, fun m hm hle => ?_⟩
      have e : m = minL l := Int.le_antisymm (hle _ (minL_mem h0)) (minL_le hm)
      rw [e]
      exact q _ (.int _)
theorem rc_all {l : List Bool} : RC K (rAll K) [.lst (l.map .bl)] (.bl (l.all id)) := fun B H vs bh r Q q => by
  cases r with
  | cons h r =>
    cases r
    cases h with
    | lst hh r => exact ⟨_, l, rfl, by rw [← r.bls]; exact SqL.of (bh _ _ hh), q _ (.bl _)⟩
theorem rc_any {l : List Bool} : RC K (rAny K) [.lst (l.map .bl)] (.bl (l.any id)) := fun B H vs bh r Q q => by
  cases r with
  | cons h r =>
    cases r
    cases h with
    | lst hh r => exact ⟨_, l, rfl, by rw [← r.bls]; exact SqL.of (bh _ _ hh), q _ (.bl _)⟩
theorem at_int {i : Int} : ∀ B B' v, At K B v (.int i) → At K B' v (.int i) := fun _ _ _ h => by
  cases h
  exact .int i
theorem at_bl {i : Bool} : ∀ B B' v, At K B v (.bl i) → At K B' v (.bl i) := fun _ _ _ h => by
  cases h
  exact .bl i

/-! ### fields -/
theorem Ats.lookup {B : Hp} {f : Str} : ∀ {ns : List Str} {vs : List V} {ds : List D}, Ats K B vs ds → (ns.zip ds).lookup f = some d → ∃ v, (ns.zip vs).lookup f = some v ∧ At K B v d
  | [], _, _, _, h => by simp at h
  | n :: ns, _, _, .nil, h => by simp at h
  | n :: ns, v :: vs, e :: ds, .cons g r, h => by
    simp only [List.zip_cons_cons, List.lookup_cons] at h ⊢
    cases q : (f == n) with
    | true =>
      rw [q] at h
      cases h
      exact ⟨v, rfl, g⟩
    | false =>
      rw [q] at h
      exact Ats.lookup r h
theorem ev_fld {cx f : Str} {ns : List Str} {ds : List D} (h : Ev K ta Γ Γ1 (.obj cx ns ds)) (hc : Cls K (He.ga K cx)) (hn : NoAttr K (He.ga K cx) f) (hl : (ns.zip ds).lookup f = some d) : Ev K (tFld K ta f) Γ Γ1 d := fun B0 F σ B H S Q q => h B0 F σ B H S _ fun v B1 H1 S1 s1 a1 => by
  cases a1 with
  | obj hh _ r =>
    obtain ⟨w, e, aw⟩ := r.lookup hl
    exact ⟨_, _, _, _, w, rfl, S1.bh _ _ hh, hc, hn, e, q w B1 H1 S1 s1 aw⟩

/-! ### calls -/
/-- how a call ends: a value; something new that the caller may own; an error -/
inductive Out
  | ret (d : D) (Γ : List Sl)
  | own (d : D) (Γ : List Sl)
  | exc (x : Str) (ns : List Str) (ds : List D) (Γ : List Sl)
def XAt (K : PySem.W.Frag) (B : Hp) (dx : Option Addr) (ns : List Str) (ds : List D) : Prop := ∀ a : Addr, At K B (.ref a) (.exc a dx ns ds)
def Post (K : PySem.W.Frag) (B0 F B : Hp) (vs : List V) (Q : VK) (E : XK) : Out → Prop
  | .ret d Γ => ∀ v B' H', Sat ⟨K, B0, F⟩ Γ (vs.map some) B' H' → Same B B' → At K B' v d → Q v H'
  | .own d Γ => ∀ p B' H', Sat ⟨K, B0, F⟩ Γ (vs.map some) B' H' → Same B B' → B' p = none → F p = none → Own K B' H' p d → Apart Γ (vs.map some) p → Q (.ref p) H'
  | .exc x ns ds Γ => ∀ dx B' H', Sat ⟨K, B0, F⟩ Γ (vs.map some) B' H' → Same B B' → XAt K B' dx ns ds → E (.ref (He.ga K x)) dx H'
def spG (K : PySem.W.Frag) {α : Type} (pre : α → Prop) (inn : α → List Sl) (out : α → Out) : Sp := fun vs H Q E => ∃ (a : α) (B0 F B : Hp), pre a ∧ Sat ⟨K, B0, F⟩ (inn a) (vs.map some) B H ∧ Post K B0 F B vs Q E (out a)

open Classical in
/-- what a call must leave: all of the heap but the ground and what is handed over -/
noncomputable def cut (B H : Hp) (ps : List Addr) : Hp := fun b => if B b = none ∧ b ∉ ps then H b else none
theorem cut_some {B H : Hp} {ps : List Addr} {b : Addr} {o : HO} (h : cut B H ps b = some o) : B b = none ∧ b ∉ ps ∧ H b = some o := by
  unfold cut at h
  split at h
  · rename_i q
    exact ⟨q.1, q.2, h⟩
  · cases h
theorem cut_of {B H : Hp} {ps : List Addr} {b : Addr} {o : HO} (h1 : B b = none) (h2 : b ∉ ps) (h : H b = some o) : cut B H ps b = some o := by
  unfold cut
  rw [if_pos ⟨h1, h2⟩]
  exact h
theorem cut_in {B H : Hp} {ps : List Addr} {b : Addr} (h : b ∈ ps) : cut B H ps b = none := by
  unfold cut
  rw [if_neg fun q => q.2 h]
theorem Ats.slots {A : Amb} {B H : Hp} {vs : List V} {ds : List D} (r : Ats A.K B vs ds) (b0 : Same A.B0 B) (bh : Same B H) (fh : Same A.F H) (fb : ∀ a o, A.F a = some o → B a = none) : Sat A (ds.map .va) (vs.map some) B H where
  b0 := b0
  bh := bh
  fh := fh
  fb := fb
  len := by rw [List.length_map, List.length_map, r.length]
  sl := fun i s h => by
    rw [List.getElem?_map] at h
    cases e : ds[i]? with
    | none =>
      rw [e] at h
      cases h
    | some d =>
      rw [e] at h
      cases h
      obtain ⟨v, ev, av⟩ := r.get e
      exact ⟨v, by rw [List.getElem?_map, ev]; rfl, av⟩
  ap := fun i j di dj p h => by
    rw [List.getElem?_map] at h
    cases e : ds[i]? <;> rw [e] at h <;> cases h
/-- the caller's side behind a call that was handed values alone -/
theorem Sat.back {B0 F : Hp} {σ : St} {B H B' H' : Hp} {Γo : List Sl} {σo : St} (S : Sat ⟨K, B0, F⟩ Γ σ B H) (S' : Sat ⟨K, B, cut B H []⟩ Γo σo B' H') : Sat ⟨K, B0, F⟩ Γ σ B' H' where
  b0 := S.b0.trans S'.b0
  bh := S'.bh
  fh := fun b o h => S'.fh _ _ (cut_of (S.fb _ _ h) (by simp) (S.fh _ _ h))
  fb := fun b o h => S'.fb _ _ (cut_of (S.fb _ _ h) (by simp) (S.fh _ _ h))
  len := S.len
  sl := fun i s h => (S.sl i s h).up S'.b0 (fun _ p _ _ n _ ⟨u, hu⟩ => S'.fb _ _ (cut_of n (by simp) hu)) fun p u _ n hu => S'.fh _ _ (cut_of n (by simp) hu)
  ap := S.ap
variable {α : Type} {pre : α → Prop} {inn : α → List Sl} {out : α → Out} {a : α}
theorem call_vals {B0 F : Hp} {σ : St} {B H : Hp} {vs : List V} {ds : List D} (S : Sat ⟨K, B0, F⟩ Γ σ B H) (r : Ats K B vs ds) : Sat ⟨K, B, cut B H []⟩ (ds.map .va) (vs.map some) B H :=
  r.slots (A := ⟨K, B, cut B H []⟩) (Same.refl B) S.bh (fun b o h => (cut_some h).2.2) fun b o h => (cut_some h).1
theorem ev_callG {ds : List D} {E : St → XK} {Γo : List Sl} (h : EvA K tr Γ Γ1 (ds.map .v)) (hp : pre a) (hi : inn a = ds.map .va) (ho : out a = .ret d Γo) : Ev K (tCallS (spG K pre inn out) E tr) Γ Γ1 d := fun B0 F σ B H S Q q => h B0 F σ B H S _ fun vs B1 H1 S1 s1 a1 => by
  refine ⟨a, B1, cut B1 H1 [], B1, hp, by rw [hi]; exact call_vals S1 a1.ats, ?_⟩
  rw [ho]
  exact fun v B2 H2 S2 s2 av => q v B2 H2 (S1.back S2) (s1.trans s2) av
theorem eo_callG {ds : List D} {E : St → XK} {Γo : List Sl} (h : EvA K tr Γ Γ1 (ds.map .v)) (hp : pre a) (hi : inn a = ds.map .va) (ho : out a = .own d Γo) : EvO K (tCallS (spG K pre inn out) E tr) Γ Γ1 d := fun B0 F σ B H S Q q => h B0 F σ B H S _ fun vs B1 H1 S1 s1 a1 => by
  refine ⟨a, B1, cut B1 H1 [], B1, hp, by rw [hi]; exact call_vals S1 a1.ats, ?_⟩
  rw [ho]
  refine fun p B2 H2 S2 s2 b1 b2 w _ => q p B2 H2 (S1.back S2) (s1.trans s2) b1 ?_ w fun i di hi e => ?_
  · cases e : F p with
    | none => rfl
    | some o => exact absurd b2 (by rw [show (cut B1 H1 []) p = some o from cut_of (S1.fb _ _ e) (by simp) (S1.fh _ _ e)]; simp)
  · obtain ⟨p', e', n, _, w'⟩ := S1.ow hi
    rw [e] at e'
    cases e'
    obtain ⟨u, hu⟩ := w'.there
    exact absurd b2 (by rw [show (cut B1 H1 []) p = some u from cut_of n (by simp) hu]; simp)

/-! ### a call whose first argument is what a slot owns -/
theorem call_own {B0 F : Hp} {σ : St} {B H : Hp} {vs : List V} {ds : List D} {i : Nat} {p : Addr} {d0 : D} (S : Sat ⟨K, B0, F⟩ Γ σ B H) (h : Γ[i]? = some (.ow d0)) (e : σ[i]? = some (some (.ref p))) (r : Ats K B vs ds) : Sat ⟨K, B, cut B H [p]⟩ (.ow d0 :: ds.map .va) ((.ref p :: vs).map some) B H := by
  obtain ⟨p', e', hb, hf, w⟩ := S.ow h
  rw [e] at e'
  cases e'
  have T : Sat ⟨K, B, cut B H [p]⟩ (ds.map .va) (vs.map some) B H := r.slots (A := ⟨K, B, cut B H [p]⟩) (Same.refl B) S.bh (fun b o h => (cut_some h).2.2) fun b o h => (cut_some h).1
  refine ⟨T.b0, T.bh, T.fh, T.fb, by simpa using T.len, fun j s hj => ?_, fun j k dj dk q hj hk _ _ => ?_⟩
  · cases j with
    | zero =>
      cases hj
      exact ⟨p, rfl, hb, cut_in (by simp), w⟩
    | succ j =>
      have := T.sl j s (by simpa using hj)
      simpa using this
  · have f : ∀ {m : Nat} {dm : D}, (Sl.ow d0 :: ds.map .va)[m]? = some (.ow dm) → m = 0 := fun {m dm} hm => by
      cases m with
      | zero => rfl
      | succ m =>
        have hm' : (ds.map Sl.va)[m]? = some (.ow dm) := by simpa using hm
        rw [List.getElem?_map] at hm'
        cases q : ds[m]? <;> rw [q] at hm' <;> cases hm'
    rw [f hj, f hk]
theorem Sat.backO {B0 F : Hp} {σ : St} {B H B' H' : Hp} {Γr : List Sl} {σr : St} {i : Nat} {p : Addr} {d0 d1 : D} (S : Sat ⟨K, B0, F⟩ Γ σ B H) (h : Γ[i]? = some (.ow d0)) (e : σ[i]? = some (some (.ref p))) (S' : Sat ⟨K, B, cut B H [p]⟩ (.ow d1 :: Γr) (some (.ref p) :: σr) B' H') : Sat ⟨K, B0, F⟩ (Γ.set i (.ow d1)) σ B' H' := by
  obtain ⟨p', e', hb, hf, w⟩ := S.ow h
  rw [e] at e'
  cases e'
  obtain ⟨p2, e2, hb2, _, w2⟩ := S'.ow (i := 0) (d := d1) rfl
  cases e2
  have ne : ∀ {b : Addr} {o : HO}, F b = some o → b ≠ p := fun {b o} q z => by
    subst z
    exact absurd (hf.symm.trans q) (by simp)
  refine ⟨S.b0.trans S'.b0, S'.bh, fun b o q => S'.fh _ _ (cut_of (S.fb _ _ q) (by simpa using ne q) (S.fh _ _ q)), fun b o q => S'.fb _ _ (cut_of (S.fb _ _ q) (by simpa using ne q) (S.fh _ _ q)), by rw [List.length_set, S.len], fun j s hj => ?_, fun j k dj dk q hj hk ej ek => ?_⟩
  · rcases set_get hj with ⟨rfl, rfl⟩ | ⟨nj, hj⟩
    · rw [e]
      exact ⟨p, rfl, hb2, hf, w2⟩
    · cases s with
      | un => trivial
      | va d =>
        obtain ⟨v, ev, av⟩ := S.sl j _ hj
        exact ⟨v, ev, av.up S'.b0⟩
      | ow d =>
        obtain ⟨r, er, nr, fr, wr⟩ := S.sl j _ hj
        have npr : r ∉ [p] := by
          intro z
          rw [List.mem_singleton] at z
          subst z
          exact nj (S.ap _ _ _ _ _ hj h (join_some er) e)
        obtain ⟨u, hu⟩ := wr.there
        exact ⟨r, er, S'.fb _ _ (cut_of nr npr hu), fr, wr.up S'.b0 fun o ho => S'.fh _ _ (cut_of nr npr ho)⟩
  · have f : ∀ {m : Nat} {dm : D}, (Γ.set i (.ow d1))[m]? = some (.ow dm) → ∃ dm', Γ[m]? = some (.ow dm') := fun {m dm} hm => by
      rcases set_get hm with ⟨rfl, z⟩ | ⟨_, hm⟩
      · exact ⟨_, h⟩
      · exact ⟨dm, hm⟩
    obtain ⟨_, h1⟩ := f hj
    obtain ⟨_, h2⟩ := f hk
    exact S.ap j k _ _ q h1 h2 ej ek
theorem ev_callP {ds : List D} {E : St → XK} {i : Nat} {d0 d1 : D} {Γr : List Sl} (h : EvA K tr Γ Γ1 (.o i :: ds.map .v)) (h1 : Γ1[i]? = some (.ow d0)) (hp : pre a) (hi : inn a = .ow d0 :: ds.map .va) (ho : out a = .ret d (.ow d1 :: Γr)) : Ev K (tCallS (spG K pre inn out) E tr) Γ (Γ1.set i (.ow d1)) d := fun B0 F σ B H S Q q => h B0 F σ B H S _ fun vs B1 H1 S1 s1 a1 => by
  cases a1 with
  | cons g r =>
    obtain ⟨p, e, _⟩ := S1.ow h1
    have e2 : σ[i]? = some (some _) := g
    rw [e] at e2
    cases e2
    refine ⟨a, B1, cut B1 H1 [p], B1, hp, by rw [hi]; exact call_own S1 h1 e r.ats, ?_⟩
    rw [ho]
    exact fun v B2 H2 S2 s2 av => q v B2 H2 (S1.backO h1 e S2) (s1.trans s2) av
theorem eo_callP {ds : List D} {E : St → XK} {i : Nat} {d0 d1 : D} {Γr : List Sl} (h : EvA K tr Γ Γ1 (.o i :: ds.map .v)) (h1 : Γ1[i]? = some (.ow d0)) (hp : pre a) (hi : inn a = .ow d0 :: ds.map .va) (ho : out a = .own d (.ow d1 :: Γr)) : EvO K (tCallS (spG K pre inn out) E tr) Γ (Γ1.set i (.ow d1)) d := fun B0 F σ B H S Q q => h B0 F σ B H S _ fun vs B1 H1 S1 s1 a1 => by
  cases a1 with
  | cons g r =>
    obtain ⟨p, e, hbp, hfp, _⟩ := S1.ow h1
    have e2 : σ[i]? = some (some _) := g
    rw [e] at e2
    cases e2
    refine ⟨a, B1, cut B1 H1 [p], B1, hp, by rw [hi]; exact call_own S1 h1 e r.ats, ?_⟩
    rw [ho]
    refine fun p2 B2 H2 S2 s2 b1 b2 w ap2 => q p2 B2 H2 (S1.backO h1 e S2) (s1.trans s2) b1 ?_ w fun j dj hj ej => ?_
    · have np : p2 ≠ p := fun z => ap2 0 d1 rfl (by rw [z]; rfl)
      cases ef : F p2 with
      | none => rfl
      | some o => exact absurd b2 (by rw [show (cut B1 H1 [p]) p2 = some o from cut_of (S1.fb _ _ ef) (by simpa using np) (S1.fh _ _ ef)]; simp)
    · have np : p2 ≠ p := fun z => ap2 0 d1 rfl (by rw [z]; rfl)
      rcases set_get hj with ⟨rfl, z⟩ | ⟨_, hj⟩
      · rw [e] at ej
        cases ej
        exact np rfl
      · obtain ⟨p', e', n, _, w'⟩ := S1.ow hj
        rw [ej] at e'
        cases e'
        obtain ⟨u, hu⟩ := w'.there
        exact absurd b2 (by rw [show (cut B1 H1 [p]) p2 = some u from cut_of n (by simpa using np) hu]; simp)
end
end Y
set_option maxHeartbeats 4000000
namespace Y
open PySem L2

/-! ### targets -/
section
variable {K : PySem.W.Frag} {Γ Γ1 Γ2 Γ3 : List Sl} {d : D}
theorem wipe_set {o : Option V} : ∀ {vs : List Nat} {σ : St} {j : Nat}, j ∈ vs → wipe (σ.set j o) vs = wipe σ vs
  | [], _, _, h => by cases h
  | v :: vs, σ, j, h => by
    unfold wipe
    by_cases hj : j ∈ vs
    · rw [wipe_set hj]
    · have e : j = v := by
        rcases List.mem_cons.mp h with h | h
        · exact h
        · exact absurd h hj
      subst e
      have z : ∀ (vs : List Nat) (σ : St), j ∉ vs → wipe (σ.set j o) vs = (wipe σ vs).set j o := by
        intro vs
        induction vs with
        | nil => intro σ _; rfl
        | cons u us ih =>
          intro σ hn
          unfold wipe
          rw [ih σ (fun q => hn (List.mem_cons_of_mem _ q)), List.set_comm]
          intro q
          exact hn (by rw [q]; exact List.mem_cons_self)
      rw [z vs σ hj, List.set_set]
def Tg (K : PySem.W.Frag) (g : TG) (Γ : List Sl) (d : D) (Γ' : List Sl) (js : List Nat) : Prop := ∀ (B0 F : Hp) (σ : St) (B H : Hp) (v : V), Sat ⟨K, B0, F⟩ Γ σ B H → At K B v d → ∀ Q : St → Hp → Prop,
  (∀ σ', Sat ⟨K, B0, F⟩ Γ' σ' B H → (∀ vs : List Nat, (∀ j ∈ js, j ∈ vs) → wipe σ' vs = wipe σ vs) → (0 ∉ js → σ'[0]? = σ[0]?) → Q σ' H) → g v σ H Q
def Tgs (K : PySem.W.Frag) (g : TGs) (Γ : List Sl) (ds : List D) (Γ' : List Sl) (js : List Nat) : Prop := ∀ (B0 F : Hp) (σ : St) (B H : Hp) (vs : List V), Sat ⟨K, B0, F⟩ Γ σ B H → Ats K B vs ds → ∀ Q : St → Hp → Prop,
  (∀ σ', Sat ⟨K, B0, F⟩ Γ' σ' B H → (∀ vs : List Nat, (∀ j ∈ js, j ∈ vs) → wipe σ' vs = wipe σ vs) → (0 ∉ js → σ'[0]? = σ[0]?) → Q σ' H) → g vs σ H Q
theorem tg_name {i : Nat} : Tg K (gName i) Γ d (Γ.set i (.va d)) [i] := fun B0 F σ B H v S a Q q => by
  refine q _ (S.set_va i a) (fun vs h => wipe_set (h i (by simp))) fun h => ?_
  rw [List.getElem?_set_ne]
  intro e
  exact h (by simp [e])
theorem tgs_nil : Tgs K gNil Γ [] Γ [] := fun B0 F σ B H vs S a Q q => by
  cases a
  exact ⟨rfl, q σ S (fun _ _ => rfl) fun _ => rfl⟩
theorem tgs_cons {g : TG} {gs : TGs} {ds : List D} {js ks : List Nat} (h : Tg K g Γ d Γ1 js) (r : Tgs K gs Γ1 ds Γ2 ks) : Tgs K (gCons g gs) Γ (d :: ds) Γ2 (js ++ ks) := fun B0 F σ B H vs S a Q q => by
  cases a with
  | cons a as =>
    refine ⟨_, _, rfl, h B0 F σ B H _ S a _ fun σ1 S1 w1 z1 => r B0 F σ1 B H _ S1 as _ fun σ2 S2 w2 z2 => q σ2 S2 (fun us hu => ?_) fun hn => ?_⟩
    · rw [w2 us fun j hj => hu j (List.mem_append_right _ hj), w1 us fun j hj => hu j (List.mem_append_left _ hj)]
    · rw [z2 fun q => hn (List.mem_append_right _ q), z1 fun q => hn (List.mem_append_left _ q)]
theorem tg_tup {gs : TGs} {ds : List D} {n : Nat} {js : List Nat} (h : Tgs K gs Γ ds Γ1 js) (hn : ds.length = n) : Tg K (gTup K n gs) Γ (.tup ds) Γ1 js := fun B0 F σ B H v S a Q q => by
  cases a with
  | tup hh r => exact ⟨_, _, rfl, same_t S.bh hh, by rw [r.length]; exact hn, h B0 F σ B H _ S r Q q⟩

/-! ### what is walked -/
def ItemOk (K : PySem.W.Frag) (B' : Hp) (d : D) (H2 : Hp) (x : V) (H3 : Hp) : Prop := ∀ B2, Same B' B2 → Same B2 H2 →
  (H3 = H2 ∧ At K B2 x d) ∨ ∃ T o, H2 T = none ∧ H3 = upd H2 T o ∧ At K (upd B2 T o) x d
def EvI (K : PySem.W.Frag) (wi : TI) (Γ Γ' : List Sl) (n : Nat) (it : Nat → D) : Prop := ∀ (B0 F : Hp) (σ : St) (B H : Hp), Sat ⟨K, B0, F⟩ Γ σ B H → ∀ R : It → Hp → Prop,
  (∀ J B' H' G Y, Sat ⟨K, B0, F⟩ Γ' σ B' H' → Same B B' → Walk J n G Y → (∀ H2, Same B' H2 → G H2) → (∀ i H2 x H3, i < n → Same B' H2 → Y i H2 x H3 → ItemOk K B' (it i) H2 x H3) → R J H') → wi σ H R
variable {ta tb te : TE} {tr : TA}
theorem ei_list {ds : List D} {it : Nat → D} (h : Ev K ta Γ Γ1 (.lst ds)) (e : ∀ i, i < ds.length → ds[i]? = some (it i)) : EvI K (iList K ta) Γ Γ1 ds.length it := fun B0 F σ B H S R q => h B0 F σ B H S _ fun v B1 H1 S1 s1 a1 => by
  cases a1 with
  | @lst a vs _ hh r =>
    refine ⟨a, rfl, ⟨_, SqL.of (S1.bh _ _ hh)⟩, q _ B1 H1 _ _ S1 s1 (by rw [← r.length]; exact walk_list (K := K) (a := a) (xs := vs)) (fun H2 s => SqL.of (s _ _ hh)) fun i H2 x H3 hi _ hy B2 sb _ => ?_⟩
    obtain ⟨hy1, hy2⟩ := hy
    refine .inl ⟨hy1, ?_⟩
    obtain ⟨d, hd, ad⟩ := r.getV hy2
    rw [e i hi] at hd
    cases hd
    exact ad.up sb
theorem ei_lsr {ds : List D} {it : Nat → D} (h : Ev K ta Γ Γ1 (.lsr ds)) (e : ∀ i, i < ds.length → ds[i]? = some (it i)) : EvI K (iList K ta) Γ Γ1 ds.length it := fun B0 F σ B H S R q => h B0 F σ B H S _ fun v B1 H1 S1 s1 a1 => by
  cases a1 with
  | @lsr a vs _ hh r =>
    refine ⟨a, rfl, ⟨_, S1.bh.seq hh⟩, q _ B1 H1 _ _ S1 s1 (by rw [← r.length]; exact walk_list (K := K) (a := a) (xs := vs)) (fun H2 s => s.seq hh) fun i H2 x H3 hi _ hy B2 sb _ => ?_⟩
    obtain ⟨hy1, hy2⟩ := hy
    refine .inl ⟨hy1, ?_⟩
    obtain ⟨d, hd, ad⟩ := r.getV hy2
    rw [e i hi] at hd
    cases hd
    exact ad.up sb
theorem ei_tup {ds : List D} {it : Nat → D} (h : Ev K ta Γ Γ1 (.tup ds)) (e : ∀ i, i < ds.length → ds[i]? = some (it i)) : EvI K (iTup K ta) Γ Γ1 ds.length it := fun B0 F σ B H S R q => h B0 F σ B H S _ fun v B1 H1 S1 s1 a1 => by
  cases a1 with
  | @tup a vs _ hh r =>
    refine ⟨a, rfl, ⟨_, same_t S1.bh hh⟩, q _ B1 H1 _ _ S1 s1 (by rw [← r.length]; exact walk_tup (xs := vs)) (fun H2 s => same_t s hh) fun i H2 x H3 hi _ hy B2 sb _ => ?_⟩
    obtain ⟨hy1, hy2⟩ := hy
    refine .inl ⟨hy1, ?_⟩
    obtain ⟨d, hd, ad⟩ := r.getV hy2
    rw [e i hi] at hd
    cases hd
    exact ad.up sb
theorem ei_rng1 {j : Int} (h : EvA K tr Γ Γ1 [.v (.int j)]) (h2 : j < 2 ^ 62) (h1 : -(2 ^ 62) ≤ j) : EvI K (iRng1 tr) Γ Γ1 j.toNat (fun i => .int (i : Int)) := fun B0 F σ B H S R q => h B0 F σ B H S _ fun vs B1 H1 S1 s1 a1 => by
  cases a1 with
  | cons g r =>
    cases r
    cases g
    refine ⟨j, rfl, h1, h2, q _ B1 H1 _ _ S1 s1 walk_range (fun _ _ => trivial) fun i H2 x H3 hi _ hy B2 sb _ => ?_⟩
    obtain ⟨hy1, hy2⟩ := hy
    refine .inl ⟨hy1, ?_⟩
    have e : x = .int (i : Int) := by rw [hy2]; show V.int (0 + (i : Int)) = _; rw [Int.zero_add]
    rw [e]
    exact .int _
theorem ei_rng2 {l j : Int} (h : EvA K tr Γ Γ1 [.v (.int l), .v (.int j)]) (h2 : l < 2 ^ 62 ∧ j < 2 ^ 62) (h1 : -(2 ^ 62) ≤ l ∧ -(2 ^ 62) ≤ j) : EvI K (iRng2 tr) Γ Γ1 (j - l).toNat (fun i => .int (l + (i : Int))) := fun B0 F σ B H S R q => h B0 F σ B H S _ fun vs B1 H1 S1 s1 a1 => by
  cases a1 with
  | cons g r =>
    cases r with
    | cons g2 r =>
      cases r
      cases g
      cases g2
      refine ⟨l, j, rfl, ⟨h1.1, h2.1, h1.2, h2.2⟩, q _ B1 H1 _ _ S1 s1 walk_range (fun _ _ => trivial) fun i H2 x H3 hi _ hy B2 sb _ => .inl ⟨hy.1, ?_⟩⟩
      rw [hy.2]
      exact .int _
theorem ei_rng3 {l j c : Int} {n : Nat} (h : EvA K tr Γ Γ1 [.v (.int l), .v (.int j), .v (.int c)]) (hr : RgC l j c n) : EvI K (iRng3 tr) Γ Γ1 n (fun i => .int (l + (i : Int) * c)) := fun B0 F σ B H S R q => h B0 F σ B H S _ fun vs B1 H1 S1 s1 a1 => by
  cases a1 with
  | cons g r =>
    cases r with
    | cons g2 r =>
      cases r with
      | cons g3 r =>
        cases r
        cases g
        cases g2
        cases g3
        refine ⟨l, j, c, n, rfl, hr, q _ B1 H1 _ _ S1 s1 walk_rangeC (fun _ _ => trivial) fun i H2 x H3 hi _ hy B2 sb _ => .inl ⟨hy.1, ?_⟩⟩
        rw [hy.2]
        exact .int _
theorem same_upd {B H : Hp} {T : Addr} {o : HO} (s : Same B H) (hT : H T = none) : Same B (upd B T o) := fun b u q => by
  rw [upd_ne (ne_of_none (s _ _ q) hT)]
  exact q
theorem ei_enum {ds : List D} {it : Nat → D} (h : EvA K tr Γ Γ1 [.v (.lst ds)]) (e : ∀ i, i < ds.length → ds[i]? = some (it i)) : EvI K (iEnum K tr) Γ Γ1 ds.length (fun i => .tup [.int (i : Int), it i]) := fun B0 F σ B H S R q => h B0 F σ B H S _ fun vs B1 H1 S1 s1 a1 => by
  cases a1 with
  | cons g r =>
    cases r
    cases g with
    | @lst a vs _ hh r =>
      refine ⟨a, vs, rfl, SqL.of (S1.bh _ _ hh), q _ B1 H1 _ _ S1 s1 (by rw [← r.length]; exact walk_enum (xs := vs)) (fun H2 s => SqL.of (s _ _ hh)) fun i H2 x H3 hi _ hy B2 sb sh => ?_⟩
      obtain ⟨T, x1, x2, rfl, hT, rfl, e1, e2⟩ := hy
      cases e1
      obtain ⟨d, hd, ad⟩ := r.getV e2
      rw [e i hi] at hd
      cases hd
      exact .inr ⟨T, _, hT, rfl, .tup (SqT.of upd_same) (.cons (.int _) (.cons (ad.up (sb.trans (same_upd sh hT))) .nil))⟩
theorem ei_zip {ds es : List D} {n : Nat} {it jt : Nat → D} (h : EvA K tr Γ Γ1 [.v (.lst ds), .v (.lst es)]) (hn : n = min ds.length es.length) (e : ∀ i, i < n → ds[i]? = some (it i)) (f : ∀ i, i < n → es[i]? = some (jt i)) : EvI K (iZip K tr) Γ Γ1 n (fun i => .tup [it i, jt i]) := fun B0 F σ B H S R q => h B0 F σ B H S _ fun vs B1 H1 S1 s1 a1 => by
  cases a1 with
  | cons g r =>
    cases r with
    | cons g2 r =>
      cases r
      cases g with
      | @lst a vs _ hh r =>
        cases g2 with
        | @lst b ws _ hh2 r2 =>
          refine ⟨a, b, vs, ws, rfl, SqL.of (S1.bh _ _ hh), SqL.of (S1.bh _ _ hh2), q _ B1 H1 _ _ S1 s1 (walk_zip (xs := vs) (ys := ws) (by rw [r.length, r2.length]; exact hn)) (fun H2 s => ⟨SqL.of (s _ _ hh), SqL.of (s _ _ hh2)⟩) fun i H2 x H3 hi _ hy B2 sb sh => ?_⟩
          obtain ⟨T, x1, x2, rfl, hT, rfl, e1, e2⟩ := hy
          obtain ⟨d, hd, ad⟩ := r.getV e1
          rw [e i hi] at hd
          cases hd
          obtain ⟨d2, hd2, ad2⟩ := r2.getV e2
          rw [f i hi] at hd2
          cases hd2
          exact .inr ⟨T, _, hT, rfl, .tup (SqT.of upd_same) (.cons (ad.up (sb.trans (same_upd sh hT))) (.cons (ad2.up (sb.trans (same_upd sh hT))) .nil))⟩

/-! ### statements -/
def To (A : Amb) (pin : Option Addr) (Γ : List Sl) (P : St → Hp → Prop) : Prop := ∀ (σ : St) (B H : Hp), Sat A Γ σ B H → (∀ p, pin = some p → σ[0]? = some (some (.ref p))) → P σ H
variable {A : Amb} {pin : Option Addr} {E : Ends} {P : St → Hp → Prop} {t1 t2 tt : TS} {c : TT} {b : Bool}
theorem to_seq (h : To A pin Γ (t1 { E with nx := t2 E })) : To A pin Γ (tSeq t1 t2 E) := h
theorem to_next (h : To A pin Γ E.nx) : To A pin Γ (tNext E) := h
theorem to_brk (h : To A pin Γ E.bk) : To A pin Γ (tBreak E) := h
theorem to_cont (h : To A pin Γ E.ct) : To A pin Γ (tCont E) := h
theorem to_asg {g : TG} {js : List Nat} (h : Ev A.K te Γ Γ1 d) (ht : Tg A.K g Γ1 d Γ2 js) (q : To A pin Γ2 E.nx) (pk : 0 ∉ js ∨ pin = none := by first | exact .inl (by decide) | exact .inr rfl) : To A pin Γ (tAsg te g E) := fun σ B H S hp => h A.B0 A.F σ B H S _ fun v B1 H1 S1 s1 a1 => ht A.B0 A.F σ B1 H1 v S1 a1 _ fun σ' S' _ z => q σ' B1 H1 S' fun p e => by
  rcases pk with n | n
  · rw [z n]
    exact hp p e
  · rw [n] at e
    cases e
theorem to_set {i : Nat} (h : Ev A.K te Γ Γ1 d) (q : To A pin (Γ1.set i (.va d)) E.nx) (pk : 0 ∉ [i] ∨ pin = none := by first | exact .inl (by decide) | exact .inr rfl) : To A pin Γ (tAsg te (gName i) E) := to_asg h tg_name q pk
theorem to_setO {i : Nat} (h : EvO A.K te Γ Γ1 d) (q : To A pin (Γ1.set i (.ow d)) E.nx) (pk : 0 ∉ [i] ∨ pin = none := by first | exact .inl (by decide) | exact .inr rfl) : To A pin Γ (tAsg te (gName i) E) := fun σ B H S hp => h A.B0 A.F σ B H S _ fun v B1 H1 S1 s1 hb hf w ap => by
  show E.nx (σ.set i (some (.ref v))) H1
  refine q _ B1 H1 (S1.set_ow i hb hf w fun j dj _ hj => ap j dj hj) fun p e => ?_
  rcases pk with n | n
  · rw [List.getElem?_set_ne (fun z => n (by simp [z]))]
    exact hp p e
  · rw [n] at e
    cases e
theorem to_drop (h : Ev A.K te Γ Γ1 d) (q : To A pin Γ1 E.nx) : To A pin Γ (tDrop te E) := fun σ B H S hp => h A.B0 A.F σ B H S _ fun v B1 H1 S1 s1 a1 => q σ B1 H1 S1 hp
def Rt (A : Amb) (pin : Option Addr) (Γ : List Sl) (d : D) (R : VK) : Prop := ∀ (σ : St) (B H : Hp) (v : V), Sat A Γ σ B H → (∀ p, pin = some p → σ[0]? = some (some (.ref p))) → At A.K B v d → R v H
def RtO (A : Amb) (pin : Option Addr) (Γ : List Sl) (d : D) (R : VK) : Prop := ∀ (σ : St) (B H : Hp) (p : Addr), Sat A Γ σ B H → (∀ p, pin = some p → σ[0]? = some (some (.ref p))) → B p = none → A.F p = none → Own A.K B H p d → (∀ q, pin = some q → p ≠ q) → R (.ref p) H
theorem to_ret (h : Ev A.K te Γ Γ1 d) (q : Rt A pin Γ1 d E.rt) : To A pin Γ (tRet te E) := fun σ B H S hp => h A.B0 A.F σ B H S _ fun v B1 H1 S1 s1 a1 => q σ B1 H1 v S1 hp a1
theorem to_retN (q : Rt A pin Γ .non E.rt) : To A pin Γ (tRetN E) := fun σ B H S hp => q σ B H .non S hp .non
theorem to_retO {d0 : D} (h : EvO A.K te Γ Γ1 d) (q : RtO A pin Γ1 d E.rt) (h0 : ∀ p, pin = some p → Γ1[0]? = some (.ow d0)) : To A pin Γ (tRet te E) := fun σ B H S hp => h A.B0 A.F σ B H S _ fun v B1 H1 S1 s1 hb hf w ap => q σ B1 H1 v S1 hp hb hf w fun r e z => by
  subst z
  exact ap 0 d0 (h0 _ e) (hp _ e)
/-- what a slot owns is handed back -/
theorem to_retOwn {i : Nat} (h : Γ[i]? = some (.ow d)) (q : RtO A pin (Γ.set i .un) d E.rt) (h0 : ∀ p, pin = some p → i ≠ 0 ∧ ∃ d0, Γ[0]? = some (.ow d0)) : To A pin Γ (tRet (tVar i) E) := fun σ B H S hp => by
  obtain ⟨p, e, hb, hf, w⟩ := S.ow h
  have S' := S.un i (some (.ref p))
  have e2 : σ.set i (some (.ref p)) = σ := by
    apply List.ext_getElem?
    intro j
    by_cases hj : i = j
    · subst hj
      rw [List.getElem?_set_self (List.getElem?_eq_some_iff.mp e).1, e]
    · rw [List.getElem?_set_ne hj]
  rw [e2] at S'
  refine ⟨.ref p, e, q σ B H p S' hp hb hf w fun r er z => ?_⟩
  subst z
  obtain ⟨hi, d0, h0⟩ := h0 _ er
  exact hi (S.ap _ _ _ _ _ h h0 e (hp _ er))
theorem to_if (h : EvT A.K c Γ Γ1 b) (h1 : b = true → To A pin Γ1 (t1 E)) (h2 : b = false → To A pin Γ1 (t2 E)) : To A pin Γ (tIfS c t1 t2 E) := fun σ B H S hp => h A.B0 A.F σ B H S _ fun B1 H1 S1 s1 => by
  cases b with
  | true => exact h1 rfl σ B1 H1 S1 hp
  | false => exact h2 rfl σ B1 H1 S1 hp
/-- several ways are joined -/
theorem to_cut (Γj : List Sl) (h : ∀ N, To A pin Γj N → To A pin Γ (t1 { E with nx := N })) (q : To A pin Γj (t2 E)) : To A pin Γ (tSeq t1 t2 E) := h _ q
/-- a weaker description -/
theorem to_un (i : Nat) (h : To A pin (Γ.set i .un) P) : To A pin Γ P := fun σ B H S hp => by
  by_cases hi : i < σ.length
  · have S' := S.un i σ[i]
    have e : σ.set i σ[i] = σ := List.set_getElem_self hi
    rw [e] at S'
    exact h σ B H S' hp
  · have e : Γ.set i .un = Γ := List.set_eq_of_length_le (by have := S.len; omega)
    rw [e] at h
    exact h σ B H S hp
/-- what a slot owns becomes a value for good -/
theorem to_freeze {i : Nat} (h : Γ[i]? = some (.ow d)) (q : To A pin (Γ.set i (.va d)) P) : To A pin Γ P := fun σ B H S hp => by
  obtain ⟨_, B', _, _, _, S'⟩ := S.freeze h
  exact q σ B' H S' hp
theorem to_while {α : Type} (I : α → List Sl) (Ok : α → Prop) (m : α → Nat) (bt : α → Bool) {a0 : α} (h0 : Ok a0) (e0 : Γ = I a0) (ht : ∀ a, Ok a → EvT A.K c (I a) (I a) (bt a))
    (hs : ∀ a, Ok a → bt a = true → ∀ N, (∀ a', Ok a' → m a' < m a → To A pin (I a') N) → To A pin (I a) (tt { E with nx := N, ct := N, bk := E.nx })) (hd : ∀ a, Ok a → bt a = false → To A pin (I a) E.nx) : To A pin Γ (tWhile c tt E) := fun σ B H S hp => by
  subst e0
  refine ⟨fun k σ H => ∃ a B, Ok a ∧ m a = k ∧ Sat A (I a) σ B H ∧ ∀ p, pin = some p → σ[0]? = some (some (.ref p)), ⟨_, a0, B, h0, rfl, S, hp⟩, ?_⟩
  rintro k σ H ⟨a, B, ho, rfl, S, hp⟩
  refine ht a ho A.B0 A.F σ B H S _ fun B1 H1 S1 s1 => ?_
  cases e : bt a with
  | true =>
    refine ⟨fun σ' H' => ∃ a' B', Ok a' ∧ m a' < m a ∧ Sat A (I a') σ' B' H' ∧ ∀ p, pin = some p → σ'[0]? = some (some (.ref p)), fun σ' H' ⟨a', B', h1, h2, h3, h4⟩ => ⟨_, h2, a', B', h1, rfl, h3, h4⟩, ?_⟩
    exact hs a ho e _ (fun a' h1 h2 σ' B' H' S' hp' => ⟨a', B', h1, h2, S', hp'⟩) σ B1 H1 S1 hp
  | false => exact hd a ho e σ B1 H1 S1 hp
theorem Sat.item {σ : St} {B B2 H H2 H3 : Hp} {x : V} (S : Sat A Γ σ B2 H2) (sb : Same B B2) (h : ItemOk A.K B d H2 x H3) : ∃ B3, Sat A Γ σ B3 H3 ∧ Same B2 B3 ∧ At A.K B3 x d := by
  rcases h B2 sb S.bh with ⟨rfl, a⟩ | ⟨T, o, hT, rfl, a⟩
  · exact ⟨B2, S, Same.refl _, a⟩
  · exact ⟨upd B2 T o, S.new hT, S.same hT, a⟩
/-- the surroundings with more ground known -/
abbrev Amb.at (A : Amb) (B : Hp) : Amb := ⟨A.K, B, A.F⟩
theorem Sat.off {B1 : Hp} (sb : Same A.B0 B1) {σ : St} {B H : Hp} (S : Sat (A.at B1) Γ σ B H) : Sat A Γ σ B H := ⟨sb.trans S.b0, S.bh, S.fh, S.fb, S.len, S.sl, S.ap⟩
theorem To.up {B1 : Hp} (sb : Same A.B0 B1) (h : To A pin Γ P) : To (A.at B1) pin Γ P := fun σ B H S hp => h σ B H (S.off sb) hp
theorem Rt.up {B1 : Hp} {R : VK} (sb : Same A.B0 B1) (h : Rt A pin Γ d R) : Rt (A.at B1) pin Γ d R := fun σ B H v S hp => h σ B H v (S.off sb) hp
theorem RtO.up {B1 : Hp} {R : VK} (sb : Same A.B0 B1) (h : RtO A pin Γ d R) : RtO (A.at B1) pin Γ d R := fun σ B H v S hp => h σ B H v (S.off sb) hp
theorem to_for {α : Type} (G : Nat → α → List Sl) (Ok : Nat → α → Prop) {wi : TI} {g : TG} {n : Nat} {it : Nat → D} {a0 : α} (hi : EvI A.K wi Γ Γ1 n it) (h0 : Ok 0 a0) (e0 : Γ1 = G 0 a0)
    (hs : ∀ B1, Same A.B0 B1 → ∀ i a, i < n → Ok i a → ∀ N, (∀ a', Ok (i + 1) a' → To (A.at B1) pin (G (i + 1) a') N) → ∃ Γt js, Tg A.K g (G i a) (it i) Γt js ∧ (0 ∉ js ∨ pin = none) ∧ To (A.at B1) pin Γt (tt { E with nx := N, ct := N, bk := E.nx }))
    (hd : ∀ a, Ok n a → To A pin (G n a) E.nx) : To A pin Γ (tFor wi g tt E) := fun σ B H S hp => by
  subst e0
  refine hi A.B0 A.F σ B H S _ fun J B1 H1 Gd Yd S1 s1 w hg hy => ?_
  have S1' : Sat (A.at B1) (G 0 a0) σ B1 H1 := ⟨Same.refl _, S1.bh, S1.fh, S1.fb, S1.len, S1.sl, S1.ap⟩
  have sA : Same A.B0 B1 := S1.b0
  refine for_it w (fun i σ H => ∃ a B, Ok i a ∧ Sat (A.at B1) (G i a) σ B H ∧ ∀ p, pin = some p → σ[0]? = some (some (.ref p))) ⟨a0, B1, h0, S1', hp⟩ (fun i σ H _ ⟨a, B, _, S, _⟩ => hg H (S.b0.trans S.bh)) ?_ (fun σ H ⟨a, B, ho, S, hp⟩ => hd a ho σ B H (S.off sA) hp)
  rintro i x σ H H' hl ⟨a, B, ho, S, hp⟩ yy
  obtain ⟨B3, S3, s3, a3⟩ := S.item (H := H) S.b0 (hy i H x H' hl (S.b0.trans S.bh) yy)
  obtain ⟨Γt, js, tg, pk, ts⟩ := hs B1 sA i a hl ho (fun σ' H' => ∃ a' B', Ok (i + 1) a' ∧ Sat (A.at B1) (G (i + 1) a') σ' B' H' ∧ ∀ p, pin = some p → σ'[0]? = some (some (.ref p))) (fun a' ho' σ' B' H' S' hp' => ⟨a', B', ho', S', hp'⟩)
  refine tg B1 A.F σ B3 H' x S3 a3 _ fun σ' S' _ z => ts σ' B3 H' S' fun p e => ?_
  rcases pk with n | n
  · rw [z n]
    exact hp p e
  · rw [n] at e
    cases e

/-! ### comprehensions -/
def wipeG (Γ : List Sl) : List Nat → List Sl
  | [] => Γ
  | v :: vs => (wipeG Γ vs).set v .un
theorem Sat.wipe {σ : St} {B H : Hp} (S : Sat A Γ σ B H) : ∀ vs : List Nat, Sat A (wipeG Γ vs) (L2.wipe σ vs) B H
  | [] => S
  | v :: vs => (S.wipe vs).un v none
theorem wipeG_un : ∀ {vs : List Nat} {j : Nat} {s : Sl}, j ∈ vs → (wipeG Γ vs)[j]? = some s → s = .un
  | [], _, _, h, _ => by cases h
  | v :: vs, j, s, h, e => by
    unfold wipeG at e
    rcases set_get e with ⟨_, q⟩ | ⟨n, e⟩
    · exact q
    · rcases List.mem_cons.mp h with h | h
      · exact absurd h n
      · exact wipeG_un h e
theorem wipe_ne {σ : St} {j : Nat} : ∀ {vs : List Nat}, j ∉ vs → (L2.wipe σ vs)[j]? = σ[j]?
  | [], _ => rfl
  | v :: vs, h => by
    unfold L2.wipe
    rw [List.getElem?_set_ne (fun q => h (by rw [q]; exact List.mem_cons_self)), wipe_ne fun q => h (List.mem_cons_of_mem _ q)]
theorem Sat.unwipe {σ : St} {B H : Hp} {vs : List Nat} (e : wipeG Γ vs = Γ) (S : Sat A Γ (L2.wipe σ vs) B H) : Sat A Γ σ B H where
  b0 := S.b0
  bh := S.bh
  fh := S.fh
  fb := S.fb
  len := by rw [← S.len, wipe_length]
  sl := fun i s h => by
    by_cases hi : i ∈ vs
    · rw [← e] at h
      rw [wipeG_un hi h]
      trivial
    · have := S.sl i s h
      rw [wipe_ne hi] at this
      exact this
  ap := fun i j di dj p hi hj ei ej => by
    have f : ∀ {m : Nat} {dm : D}, Γ[m]? = some (.ow dm) → m ∉ vs := fun {m dm} hm q => by
      rw [← e] at hm
      have := wipeG_un q hm
      cases this
    exact S.ap i j di dj p hi hj (by rw [wipe_ne (f hi)]; exact ei) (by rw [wipe_ne (f hj)]; exact ej)
/-- a list that is being made counts as a caller's -/
theorem Sat.hide {K : PySem.W.Frag} {B0 F : Hp} {σ : St} {B H : Hp} {p : Addr} {o : HO} (S : Sat ⟨K, B0, F⟩ Γ σ B H) (hb : B p = none) (ho : H p = some o) (ap : Apart Γ σ p) : Sat ⟨K, B0, upd F p o⟩ Γ σ B H where
  b0 := S.b0
  bh := S.bh
  fh := fun b u q => by
    by_cases e : b = p
    · subst e
      have q' : (upd F b o) b = some u := q
      rw [upd_same] at q'
      cases q'
      exact ho
    · have q' : (upd F p o) b = some u := q
      rw [upd_ne e] at q'
      exact S.fh _ _ q'
  fb := fun b u q => by
    by_cases e : b = p
    · subst e
      exact hb
    · have q' : (upd F p o) b = some u := q
      rw [upd_ne e] at q'
      exact S.fb _ _ q'
  len := S.len
  sl := fun i s h => by
    have z := S.sl i s h
    cases s with
    | un => trivial
    | va d => exact z
    | ow d =>
      obtain ⟨q, e, b, f, w⟩ := z
      refine ⟨q, e, b, ?_, w⟩
      show (upd F p o) q = none
      rw [upd_ne]
      · exact f
      · intro eq
        subst eq
        exact ap i d h (join_some e)
  ap := S.ap
theorem Sat.swap {K : PySem.W.Frag} {B0 F : Hp} {σ : St} {B H : Hp} {p : Addr} {o o' : HO} (S : Sat ⟨K, B0, upd F p o⟩ Γ σ B H) : Sat ⟨K, B0, upd F p o'⟩ Γ σ B (upd H p o') where
  b0 := S.b0
  bh := fun b u q => by
    have hb := S.fb p o (show (upd F p o) p = some o from upd_same)
    rw [upd_ne (fun e => by rw [e, hb] at q; cases q)]
    exact S.bh _ _ q
  fh := fun b u q => by
    have q' : (upd F p o') b = some u := q
    by_cases e : b = p
    · subst e
      rw [upd_same] at q' ⊢
      exact q'
    · rw [upd_ne e] at q' ⊢
      exact S.fh b u (show (upd F p o) b = some u by rw [upd_ne e]; exact q')
  fb := fun b u q => by
    have q' : (upd F p o') b = some u := q
    by_cases e : b = p
    · subst e
      exact S.fb b o (show (upd F b o) b = some o from upd_same)
    · rw [upd_ne e] at q'
      exact S.fb b u (show (upd F p o) b = some u by rw [upd_ne e]; exact q')
  len := S.len
  sl := fun i s h => by
    have z := S.sl i s h
    cases s with
    | un => trivial
    | va d => exact z
    | ow d =>
      obtain ⟨q, e, b, f, w⟩ := z
      have f' : (upd F p o) q = none := f
      have ne : q ≠ p := fun eq => by
        subst eq
        rw [upd_same] at f'
        cases f'
      refine ⟨q, e, b, ?_, w.up (Same.refl _) fun u hu => by rw [upd_ne ne]; exact hu⟩
      show (upd F p o') q = none
      rw [upd_ne ne] at f' ⊢
      exact f'
  ap := S.ap
theorem Sat.unhide {K : PySem.W.Frag} {B0 F : Hp} {σ : St} {B H : Hp} {p : Addr} {o : HO} (hf : F p = none) (S : Sat ⟨K, B0, upd F p o⟩ Γ σ B H) : Sat ⟨K, B0, F⟩ Γ σ B H ∧ Apart Γ σ p := by
  have ne : ∀ {b : Addr} {u : HO}, F b = some u → b ≠ p := fun {b u} q e => by
    subst e
    rw [hf] at q
    cases q
  refine ⟨⟨S.b0, S.bh, fun b u q => S.fh b u (show (upd F p o) b = some u by rw [upd_ne (ne q)]; exact q), fun b u q => S.fb b u (show (upd F p o) b = some u by rw [upd_ne (ne q)]; exact q), S.len, fun i s h => ?_, S.ap⟩, fun i d h e => ?_⟩
  · have z := S.sl i s h
    cases s with
    | un => trivial
    | va d => exact z
    | ow d =>
      obtain ⟨q, e, b, f, w⟩ := z
      have f' : (upd F p o) q = none := f
      have nq : q ≠ p := fun eq => by
        subst eq
        rw [upd_same] at f'
        cases f'
      rw [upd_ne nq] at f'
      exact ⟨q, e, b, f', w⟩
  · obtain ⟨q, e', _, f, _⟩ := S.ow h
    rw [e] at e'
    cases e'
    have f' : (upd F p o) p = none := f
    rw [upd_same] at f'
    cases f'
theorem eo_lc {K : PySem.W.Frag} {α : Type} (G : Nat → α → List Sl) (Ok : Nat → α → Prop) (R : Nat → α → List D) {wi : TI} {g : TG} {tf : TT} {vs : List Nat} {n : Nat} {it : Nat → D} {a0 : α} {Γe : List Sl} {rs : List D}
    (hi : EvI K wi Γ Γ1 n it) (h0 : Ok 0 a0) (e0 : wipeG Γ1 vs = G 0 a0) (r0 : R 0 a0 = []) (hw : ∀ i a, Ok i a → wipeG (G i a) vs = G i a)
    (hs : ∀ i a, i < n → Ok i a → (R i a).length < 16777216 ∧ ∃ Γt js b Γu, Tg K g (G i a) (it i) Γt js ∧ (∀ j ∈ js, j ∈ vs) ∧ EvT K tf Γt Γu b ∧ (b = false → ∃ a', Ok (i + 1) a' ∧ wipeG Γu vs = G (i + 1) a' ∧ R (i + 1) a' = R i a) ∧
      (b = true → ∃ Γv r a', Ev K te Γu Γv r ∧ Ok (i + 1) a' ∧ wipeG Γv vs = G (i + 1) a' ∧ R (i + 1) a' = R i a ++ [r]))
    (hd : ∀ a, Ok n a → G n a = Γe ∧ R n a = rs) : EvO K (tLc wi g tf te vs) Γ Γe (.lst rs) := fun B0 F σ B H S Q q => by
  refine hi B0 F σ B H S _ fun J B1 H1 Gd Yd S1 s1 w hg hy => ?_
  intro L hL
  have T0 : Sat ⟨K, B1, upd F L (.lst [])⟩ (G 0 a0) (L2.wipe σ vs) B1 (upd H1 L (.lst [])) := by
    rw [← e0]
    have S1' : Sat ⟨K, B1, F⟩ Γ1 σ B1 H1 := ⟨Same.refl _, S1.bh, S1.fh, S1.fb, S1.len, S1.sl, S1.ap⟩
    have S2 := S1'.wipe vs
    exact (S2.newO hL).hide (S1.bnone hL) upd_same fun i d hi => S2.apart hL hi
  refine lc_it w (fun i H => ∃ a B acc, Ok i a ∧ Sat ⟨K, B1, upd F L (.lst acc)⟩ (G i a) (L2.wipe σ vs) B H ∧ Ats K B acc (R i a)) ⟨a0, B1, [], h0, T0, by rw [r0]; exact .nil⟩ (fun i H _ ⟨a, B, acc, _, S, _⟩ => hg H (S.b0.trans S.bh)) ?_ ?_
  · rintro i x H H' hl ⟨a, B, acc, ho, S, r⟩ yy
    obtain ⟨hlen, Γt, js, b, Γu, tg, hjs, et, hf, ht⟩ := hs i a hl ho
    obtain ⟨B3, S3, s3, a3⟩ := S.item (H := H) S.b0 (hy i H x H' hl (S.b0.trans S.bh) yy)
    refine tg B1 _ _ B3 H' x S3 a3 _ fun σ2 S4 wp _ => ?_
    have wp2 : L2.wipe σ2 vs = L2.wipe (L2.wipe σ vs) vs := wp vs hjs
    have wp3 : L2.wipe (L2.wipe σ vs) vs = L2.wipe σ vs := by
      have z : ∀ (us : List Nat), (∀ j ∈ us, j ∈ vs) → L2.wipe (L2.wipe σ us) vs = L2.wipe σ vs := by
        intro us
        induction us with
        | nil => intro _; rfl
        | cons u us ih =>
          intro hu
          show L2.wipe ((L2.wipe σ us).set u none) vs = _
          rw [wipe_set (hu u List.mem_cons_self), ih fun j hj => hu j (List.mem_cons_of_mem _ hj)]
      exact z vs fun j hj => hj
    refine ⟨by rw [wp2, wp3], ?_⟩
    refine et B1 _ σ2 B3 H' S4 _ fun B5 H5 S5 s5 => ?_
    cases b with
    | false =>
      obtain ⟨a', ho', e', er⟩ := hf rfl
      refine ⟨a', B5, acc, ho', ?_, ?_⟩
      · have z := S5.wipe vs
        rw [e', wp2, wp3] at z
        exact z
      · rw [er]
        exact r.up (s3.trans s5)
    | true =>
      obtain ⟨Γv, rd, a', ev, ho', e', er⟩ := ht rfl
      refine ev B1 _ σ2 B5 H5 S5 _ fun y B6 H6 S6 s6 a6 => ?_
      refine ⟨acc, S6.fh L _ (show (upd F L (.lst acc)) L = some (.lst acc) from upd_same), line_lt (by rw [r.length]; exact hlen), a', B6, acc ++ [y], ho', ?_, ?_⟩
      · have z := (S6.wipe vs).swap (o' := .lst (acc ++ [y]))
        rw [e', wp2, wp3] at z
        exact z
      · rw [er]
        exact (r.up ((s3.trans s5).trans s6)).append (Ats.one a6)
  · rintro H ⟨a, B, acc, ho, S, r⟩
    obtain ⟨eg, er⟩ := hd a ho
    have hf : F L = none := S1.fnone hL
    obtain ⟨S7, ap⟩ := S.unhide hf
    have S8 : Sat ⟨K, B1, F⟩ (G n a) σ B H := S7.unwipe (hw n a ho)
    have S9 : Sat ⟨K, B0, F⟩ Γe σ B H := by
      rw [← eg]
      exact ⟨S1.b0.trans S8.b0, S8.bh, S8.fh, S8.fb, S8.len, S8.sl, S8.ap⟩
    refine q L B H S9 (s1.trans S8.b0) (S.fb L _ (show (upd F L (.lst acc)) L = some (.lst acc) from upd_same)) hf ?_ ?_
    · rw [← er]
      exact .lst (S.fh L _ (show (upd F L (.lst acc)) L = some (.lst acc) from upd_same)) r
    · intro i d hi e
      obtain ⟨p', e', _, f', _⟩ := S.ow (i := i) (d := d) (by rw [eg]; exact hi)
      have hi' : i ∉ vs := fun z => by
        have k : (wipeG (G n a) vs)[i]? = some (.ow d) := by rw [hw n a ho, eg]; exact hi
        have := wipeG_un z k
        cases this
      rw [wipe_ne hi', e] at e'
      cases e'
      have f2 : (upd F L (.lst acc)) L = none := f'
      rw [upd_same] at f2
      cases f2
/-- [r i for ..], nothing changed within -/
theorem eo_lcM {K : PySem.W.Frag} {wi : TI} {g : TG} {vs : List Nat} {n : Nat} {it : Nat → D} (r : Nat → D) (hi : EvI K wi Γ Γ1 n it) (hn : n ≤ 16777216) (hw : wipeG (wipeG Γ1 vs) vs = wipeG Γ1 vs)
    (hs : ∀ i, i < n → ∃ Γt js, Tg K g (wipeG Γ1 vs) (it i) Γt js ∧ (∀ j ∈ js, j ∈ vs) ∧ wipeG Γt vs = wipeG Γ1 vs ∧ Ev K te Γt Γt (r i)) : EvO K (tLc wi g tYes te vs) Γ (wipeG Γ1 vs) (.lst ((List.range n).map r)) := by
  refine eo_lc (α := Unit) (fun _ _ => wipeG Γ1 vs) (fun i _ => i ≤ n) (fun i _ => (List.range i).map r) hi (a0 := ()) (Nat.zero_le _) rfl rfl (fun _ _ _ => hw) (fun i _ hl _ => ?_) fun _ _ => ⟨rfl, rfl⟩
  obtain ⟨Γt, js, tg, hj, wt, ev⟩ := hs i hl
  refine ⟨by simp; omega, Γt, js, true, Γt, tg, hj, fun _ _ σ B H S Q q => q B H S (Same.refl B), (fun z => by cases z), fun _ => ⟨Γt, r i, (), ev, hl, wt, ?_⟩⟩
  rw [List.range_succ, List.map_append]
  rfl
/-- [r i for .. if b i] -/
theorem eo_lcF {K : PySem.W.Frag} {wi : TI} {g : TG} {tf : TT} {vs : List Nat} {n : Nat} {it : Nat → D} (r : Nat → D) (b : Nat → Bool) (hi : EvI K wi Γ Γ1 n it) (hn : n ≤ 16777216) (hw : wipeG (wipeG Γ1 vs) vs = wipeG Γ1 vs)
    (hs : ∀ i, i < n → ∃ Γt js, Tg K g (wipeG Γ1 vs) (it i) Γt js ∧ (∀ j ∈ js, j ∈ vs) ∧ wipeG Γt vs = wipeG Γ1 vs ∧ EvT K tf Γt Γt (b i) ∧ (b i = true → Ev K te Γt Γt (r i))) : EvO K (tLc wi g tf te vs) Γ (wipeG Γ1 vs) (.lst (((List.range n).filter b).map r)) := by
  refine eo_lc (α := Unit) (fun _ _ => wipeG Γ1 vs) (fun i _ => i ≤ n) (fun i _ => ((List.range i).filter b).map r) hi (a0 := ()) (Nat.zero_le _) rfl rfl (fun _ _ _ => hw) (fun i _ hl _ => ?_) fun _ _ => ⟨rfl, rfl⟩
  obtain ⟨Γt, js, tg, hj, wt, et, ev⟩ := hs i hl
  refine ⟨?_, Γt, js, b i, Γt, tg, hj, et, fun z => ⟨(), hl, wt, ?_⟩, fun z => ⟨Γt, r i, (), ev z, hl, wt, ?_⟩⟩
  · rw [List.length_map]
    have := List.length_filter_le b (List.range i)
    simp at this
    omega
  · rw [List.range_succ, List.filter_append, List.map_append]
    simp [z]
  · rw [List.range_succ, List.filter_append, List.map_append]
    simp [z]
end
end Y
set_option maxHeartbeats 4000000
namespace Y
open PySem L2

section
variable {K : PySem.W.Frag} {Γ Γ1 Γ2 Γ3 : List Sl} {d x y z : D} {A : Amb} {pin : Option Addr} {E : Ends} {P : St → Hp → Prop} {ta tb te tv : TE} {tr : TA} {c : TT} {b : Bool}

/-! ### what a slot owns is changed -/
theorem pin_set {σ : St} {i : Nat} {o : Option V} (pk : 0 ∉ [i] ∨ pin = none) (hp : ∀ p, pin = some p → σ[0]? = some (some (.ref p))) : ∀ p, pin = some p → (σ.set i o)[0]? = some (some (.ref p)) := fun p e => by
  rcases pk with n | n
  · rw [List.getElem?_set_ne (fun z => n (by simp [z]))]
    exact hp p e
  · rw [n] at e
    cases e
theorem to_append {i : Nat} {ds : List D} {d0 : D} (h0 : Γ[i]? = some (.ow (.lst ds))) (h : Ev A.K te Γ Γ1 d) (h1 : Γ1[i]? = some (.ow (.lst ds))) (hl : ds.length < 16777216) (q : To A pin (Γ1.set i (.ow (.lst (ds ++ [d])))) E.nx) :
    To A pin Γ (tDrop (tBM A.K "list" rAppend (tVar i) (tCons te tNil)) E) := fun σ B H S hp => by
  obtain ⟨p, e, _, _, w⟩ := S.ow h0
  cases w with
  | lst hh r =>
    refine ⟨.ref p, e, .inl ⟨rfl, _, SqL.of hh⟩, h A.B0 A.F σ B H S _ fun v B1 H1 S1 s1 a1 => ?_⟩
    obtain ⟨p', e', _, _, w1⟩ := S1.ow h1
    rw [e] at e'
    cases e'
    cases w1 with
    | lst hh1 r1 =>
      refine ⟨p, _, v, rfl, rfl, hh1, line_lt (by rw [r1.length]; exact hl), ?_⟩
      exact q σ B1 _ (S1.upd_ow h1 e fun H' hH => .lst hH (r1.append (Ats.one a1))) hp
theorem to_setI {i : Nat} {ds ds1 ds2 : List D} {k : Int} {j : Nat} {ti : TE} (h : Ev A.K te Γ Γ1 d) (h1 : Γ1[i]? = some (.ow (.lst ds1))) (hi : Ev A.K ti Γ1 Γ2 (.int k)) (h2 : Γ2[i]? = some (.ow (.lst ds))) (hj : ixN ds.length k = some j)
    (q : To A pin (Γ2.set i (.ow (.lst (ds.set j d)))) E.nx) : To A pin Γ (tAsg te (gSub (tVar i) ti rSetL) E) := fun σ B H S hp => h A.B0 A.F σ B H S _ fun v B1 H1 S1 s1 a1 => by
  obtain ⟨p, e, _, _, _⟩ := S1.ow h1
  refine ⟨.ref p, e, hi A.B0 A.F σ B1 H1 S1 _ fun vi B2 H2 S2 s2 a2 => ?_⟩
  cases a2
  obtain ⟨p', e', _, _, w1⟩ := S2.ow h2
  rw [e] at e'
  cases e'
  cases w1 with
  | lst hh r =>
    refine ⟨p, _, k, j, rfl, rfl, hh, by rw [r.length]; exact hj, ?_⟩
    exact q σ B2 _ (S2.upd_ow h2 e fun H' hH => .lst hH (r.set j (a1.up s2))) hp
/-- x += e, x -= e -/
abbrev iAdd : TIp := ipI fun i j => i + j
abbrev iSub : TIp := ipI fun i j => i - j
theorem to_augAdd {i : Nat} {m n : Int} (h0 : Γ[i]? = some (.va (.int m))) (h : Ev A.K te Γ Γ1 (.int n)) (q : To A pin (Γ1.set i (.va (.int (m + n)))) E.nx) (pk : 0 ∉ [i] ∨ pin = none := by first | exact .inl (by decide) | exact .inr rfl) : To A pin Γ (tAug i te iAdd E) := fun σ B H S hp => by
  obtain ⟨v, e, a⟩ := S.va h0
  cases a
  refine ⟨_, e, h A.B0 A.F σ B H S _ fun v B1 H1 S1 s1 a1 => ?_⟩
  cases a1
  exact ⟨m, n, rfl, rfl, q _ B1 H1 (S1.set_va i (.int _)) (pin_set pk hp)⟩
theorem to_augSub {i : Nat} {m n : Int} (h0 : Γ[i]? = some (.va (.int m))) (h : Ev A.K te Γ Γ1 (.int n)) (q : To A pin (Γ1.set i (.va (.int (m - n)))) E.nx) (pk : 0 ∉ [i] ∨ pin = none := by first | exact .inl (by decide) | exact .inr rfl) : To A pin Γ (tAug i te iSub E) := fun σ B H S hp => by
  obtain ⟨v, e, a⟩ := S.va h0
  cases a
  refine ⟨_, e, h A.B0 A.F σ B H S _ fun v B1 H1 S1 s1 a1 => ?_⟩
  cases a1
  exact ⟨m, n, rfl, rfl, q _ B1 H1 (S1.set_va i (.int _)) (pin_set pk hp)⟩
/-- a, b = x, y -/
theorem to_par {i j : Nat} (h : EvA A.K tr Γ Γ1 [.v x, .v y]) (q : To A pin ((Γ1.set i (.va x)).set j (.va y)) E.nx) (pk : 0 ∉ [i] ∨ pin = none := by first | exact .inl (by decide) | exact .inr rfl) (pj : 0 ∉ [j] ∨ pin = none := by first | exact .inl (by decide) | exact .inr rfl) : To A pin Γ (tPar i j tr E) := fun σ B H S hp => h A.B0 A.F σ B H S _ fun vs B1 H1 S1 s1 a1 => by
  cases a1 with
  | cons g r =>
    cases r with
    | cons g2 r =>
      cases r
      exact ⟨_, _, rfl, q _ B1 H1 ((S1.set_va i g).set_va j g2) (pin_set pj (pin_set pk hp))⟩

/-! ### dicts -/
theorem valV_zip {ks : List Key} {k : Key} : ∀ {vs : List V} {i : Nat} {v : V}, ks.length = vs.length → ks[i]? = some k → vs[i]? = some v → (∀ j, j < i → ks[j]? ≠ some k) → valV (ks.zip vs) k = some v := by
  induction ks with
  | nil => intro vs i v _ h; simp at h
  | cons a ks ih =>
    intro vs i v hl h hv hn
    cases vs with
    | nil => cases hl
    | cons b vs =>
      cases i with
      | zero =>
        simp at h hv
        subst h hv
        exact valV_pos rfl
      | succ i =>
        have ne : ¬ a = k := fun e => hn 0 (Nat.succ_pos _) (by simp [e])
        rw [show (a :: ks).zip (b :: vs) = (a, b) :: ks.zip vs from rfl, valV_neg ne]
        exact ih (by simpa using hl) (by simpa using h) (by simpa using hv) fun j hj e => hn (j + 1) (by omega) (by simpa using e)
def inK (k : Key) (ks : List Key) : Bool := ks.any fun j => decide (j = k)
theorem inK_iff {k : Key} {ks : List Key} : inK k ks = true ↔ k ∈ ks := by
  unfold inK
  rw [List.any_eq_true]
  constructor
  · rintro ⟨j, hj, e⟩
    rw [← of_decide_eq_true e]
    exact hj
  · exact fun h => ⟨k, h, decide_eq_true rfl⟩
theorem valV_some {ks : List Key} {k : Key} : ∀ {vs : List V}, ks.length = vs.length → (valV (ks.zip vs) k).isSome = inK k ks := by
  induction ks with
  | nil => intro vs _; rfl
  | cons a ks ih =>
    intro vs hl
    cases vs with
    | nil => cases hl
    | cons b vs =>
      rw [show (a :: ks).zip (b :: vs) = (a, b) :: ks.zip vs from rfl]
      by_cases e : a = k
      · rw [valV_pos e]
        unfold inK
        simp [e]
      · rw [valV_neg e, ih (by simpa using hl)]
        unfold inK
        simp [e]
theorem putK_new {ks : List Key} {vs : List V} {k : Key} {v : V} (hl : ks.length = vs.length) (hn : k ∉ ks) : putK (ks.zip vs) k v = (ks ++ [k]).zip (vs ++ [v]) := by
  unfold putK
  have e : ((ks.zip vs).any fun kv => decide (kv.1 = k)) = false := by
    rw [valV_any, valV_some hl]
    cases q : inK k ks with
    | false => rfl
    | true => exact absurd (inK_iff.mp q) hn
  rw [if_neg (by rw [e]; exact Bool.false_ne_true), List.zip_append hl]
  rfl
def keyD : Key → D
  | .inl i => .int i
  | .inr s => .str s
theorem At.key {B : Hp} {v : V} {k : Key} (h : At K B v (keyD k)) : v = kV k := by
  cases k with
  | inl i =>
    cases h
    rfl
  | inr s =>
    cases h
    rfl
theorem eo_dnew : EvO K tDNewK Γ Γ (.dic [] []) := fun B0 F σ B H S Q q p hp => q p B _ (S.newO hp) (Same.refl B) (S.bnone hp) (S.fnone hp) (.dic (vs := []) (by rw [upd_same]; rfl) rfl .nil) fun i d hi => S.apart hp hi
theorem ev_din {j : Nat} {ks : List Key} {ds : List D} {k : Key} (h : Ev K te Γ Γ1 (keyD k)) (h1 : Γ1[j]? = some (.ow (.dic ks ds))) : Ev K (tDIn te (tVar j)) Γ Γ1 (.bl (inK k ks)) := fun B0 F σ B H S Q q => h B0 F σ B H S _ fun v B1 H1 S1 s1 a1 => by
  obtain ⟨p, e, _, _, w⟩ := S1.ow h1
  cases w with
  | @dic _ vs _ hh hl r =>
    refine ⟨.ref p, e, p, valV (ks.zip vs) k, rfl, ?_, ?_⟩
    · rw [a1.key]
      exact DGet.k hh
    · rw [valV_some hl]
      exact q _ B1 H1 S1 s1 (.bl _)
theorem ev_dget {j i : Nat} {ks : List Key} {ds : List D} {k : Key} {d0 : D} (h0 : Γ[j]? = some (.ow d0)) (h : Ev K te Γ Γ1 (keyD k)) (h1 : Γ1[j]? = some (.ow (.dic ks ds))) (hk : ks[i]? = some k) (hd : ds[i]? = some d) (hn : ∀ m, m < i → ks[m]? ≠ some k) : Ev K (tDGet (tVar j) te) Γ Γ1 d := fun B0 F σ B H S Q q => by
  obtain ⟨p, e, _⟩ := S.ow h0
  refine ⟨.ref p, e, h B0 F σ B H S _ fun v B1 H1 S1 s1 a1 => ?_⟩
  obtain ⟨p', e', _, _, w⟩ := S1.ow h1
  rw [e] at e'
  cases e'
  cases w with
  | @dic _ vs _ hh hl r =>
    obtain ⟨u, hu, au⟩ := r.get hd
    refine ⟨p, u, rfl, ?_, q u B1 H1 S1 s1 au⟩
    rw [a1.key, ← valV_zip hl hk hu hn]
    exact DGet.k hh
theorem to_dput {j : Nat} {ks : List Key} {ds : List D} {k : Key} {d1 : D} (h : Ev A.K tv Γ Γ1 d) (h1 : Γ1[j]? = some (.ow d1)) (hk : Ev A.K te Γ1 Γ2 (keyD k)) (h2 : Γ2[j]? = some (.ow (.dic ks ds))) (hn : k ∉ ks) (hl : ks.length < 16777216)
    (q : To A pin (Γ2.set j (.ow (.dic (ks ++ [k]) (ds ++ [d])))) E.nx) : To A pin Γ (sDPut (tVar j) te tv E) := fun σ B H S hp => h A.B0 A.F σ B H S _ fun v B1 H1 S1 s1 a1 => by
  obtain ⟨p, e, _, _, _⟩ := S1.ow h1
  refine ⟨.ref p, e, hk A.B0 A.F σ B1 H1 S1 _ fun vk B2 H2 S2 s2 a2 => ?_⟩
  obtain ⟨p', e', _, _, w⟩ := S2.ow h2
  rw [e] at e'
  cases e'
  cases w with
  | @dic _ vs _ hh hlz r =>
    refine ⟨p, _, rfl, by rw [a2.key]; exact DPut.k hh (line_lt (by rw [List.length_zip, ← hlz]; omega)), ?_⟩
    refine q σ B2 _ (S2.upd_ow h2 e fun H' hH => .dic (vs := vs ++ [v]) ?_ (by simp [hlz]) (r.append (Ats.one (a1.up s2)))) hp
    rw [hH, putK_new hlz hn]

/-! ### self.f = e of a new instance -/
theorem putF_new {f : Str} {v : V} : ∀ {fs : List (Str × V)}, f ∉ fs.map (·.1) → putF f v fs = fs ++ [(f, v)]
  | [], _ => rfl
  | (g, u) :: r, h => by
    have ne : ¬ g = f := fun e => h (by simp [e])
    show (if g = f then _ else (g, u) :: putF f v r) = _
    rw [if_neg ne, putF_new (fs := r) (fun z => h (by simp at z ⊢; exact .inr z))]
    rfl
theorem to_fld {j : Nat} {cx f : Str} {ns : List Str} {ds : List D} (h : Ev A.K tv Γ Γ1 d) (h1 : Γ1[j]? = some (.ow (.obj cx ns ds))) (hc : Cls A.K (He.ga A.K cx)) (hn : NoAttr A.K (He.ga A.K cx) f) (hf : f ∉ ns) (hl : ns.length < 1000)
    (q : To A pin (Γ1.set j (.ow (.obj cx (ns ++ [f]) (ds ++ [d])))) E.nx) : To A pin Γ (sFld A.K (tVar j) tv f E) := fun σ B H S hp => h A.B0 A.F σ B H S _ fun v B1 H1 S1 s1 a1 => by
  obtain ⟨p, e, _, _, w⟩ := S1.ow h1
  cases w with
  | @obj dx _ _ vs _ hh hlz r =>
    refine ⟨.ref p, e, p, _, dx, _, rfl, hh, hc, hn, by rw [List.length_zip]; omega, ?_⟩
    refine q σ B1 _ (S1.upd_ow h1 e fun H' hH => .obj (vs := vs ++ [v]) (dx := dx) ?_ (by simp [hlz]) (r.append (Ats.one a1))) hp
    rw [hH, putF_new (by rw [List.map_fst_zip (by omega)]; exact hf), List.zip_append hlz]
    rfl
end

/-! ### a def -/
inductive Res
  | ret (d : D) | own (d : D) | exc (x : Str) (ns : List Str) (ds : List D)
def Res.out (Γ : List Sl) : Res → Out
  | .ret d => .ret d Γ
  | .own d => .own d Γ
  | .exc x ns ds => .exc x ns ds Γ
def Xt (A : Amb) (pin : Option Addr) (Γ : List Sl) (x : Str) (ns : List Str) (ds : List D) (E : XK) : Prop := ∀ (σ : L2.St) (B H : Hp) (dx : Option Addr), Sat A Γ σ B H → (∀ p, pin = some p → σ[0]? = some (some (.ref p))) → XAt A.K B dx ns ds → E (.ref (He.ga A.K x)) dx H
/-- what a body of values must come to -/
def FitV (A : Amb) (R : VK) (E : XK) : Res → Prop
  | .ret d => ∀ Γ, Rt A none Γ d R
  | .own d => ∀ Γ, RtO A none Γ d R
  | .exc x ns ds => ∀ Γ, Xt A none Γ x ns ds E
def FitP (A : Amb) (p : Addr) (d1 : D) (R : VK) (E : XK) : Res → Prop
  | .ret d => ∀ Γ : List Sl, Γ[0]? = some (.ow d1) → Rt A (some p) Γ d R
  | .own d => ∀ Γ : List Sl, Γ[0]? = some (.ow d1) → RtO A (some p) Γ d R
  | .exc x ns ds => ∀ Γ : List Sl, Γ[0]? = some (.ow d1) → Xt A (some p) Γ x ns ds E
theorem FitV.up {A : Amb} {R : VK} {E : XK} {r : Res} {B1 : Hp} (sb : Same A.B0 B1) (h : FitV A R E r) : FitV (A.at B1) R E r := by
  cases r with
  | ret d => exact fun Γ => (h Γ).up sb
  | own d => exact fun Γ => (h Γ).up sb
  | exc x ns ds => exact fun Γ σ B H dx S hp => h Γ σ B H dx (S.off sb) hp
theorem FitP.up {A : Amb} {p : Addr} {d1 : D} {R : VK} {E : XK} {r : Res} {B1 : Hp} (sb : Same A.B0 B1) (h : FitP A p d1 R E r) : FitP (A.at B1) p d1 R E r := by
  cases r with
  | ret d => exact fun Γ g => (h Γ g).up sb
  | own d => exact fun Γ g => (h Γ g).up sb
  | exc x ns ds => exact fun Γ g σ B H dx S hp => h Γ g σ B H dx (S.off sb) hp
abbrev spV (K : PySem.W.Frag) {α : Type} (pre : α → Prop) (vin : α → List D) (res : α → Res) : Sp := spG K pre (fun a => (vin a).map .va) fun a => (res a).out ((vin a).map .va)
abbrev spP (K : PySem.W.Frag) {α : Type} (pre : α → Prop) (din : α → D) (vin : α → List D) (dout : α → D) (res : α → Res) : Sp := spG K pre (fun a => .ow (din a) :: (vin a).map .va) fun a => (res a).out (.ow (dout a) :: (vin a).map .va)
section
variable {K : PySem.W.Frag} {Γ Γr : List Sl} {σ : St} {B0 F B H B' H' : Hp}
theorem Sat.more {A : Amb} (S : Sat A Γ σ B H) (n : Nat) : Sat A (Γ ++ List.replicate n .un) (σ ++ List.replicate n none) B H where
  b0 := S.b0
  bh := S.bh
  fh := S.fh
  fb := S.fb
  len := by simp [S.len]
  sl := fun i s h => by
    by_cases hi : i < Γ.length
    · rw [List.getElem?_append_left hi] at h
      rw [List.getElem?_append_left (by rw [S.len]; exact hi)]
      exact S.sl i s h
    · rw [List.getElem?_append_right (by omega), List.getElem?_replicate] at h
      split at h
      · cases h
        trivial
      · cases h
  ap := fun i j di dj p hi hj ei ej => by
    have f : ∀ {m : Nat} {dm : D}, (Γ ++ List.replicate n Sl.un)[m]? = some (.ow dm) → m < Γ.length := fun {m dm} hm => by
      by_cases q : m < Γ.length
      · exact q
      · rw [List.getElem?_append_right (by omega), List.getElem?_replicate] at hm
        split at hm <;> cases hm
    have li := f hi
    have lj := f hj
    rw [List.getElem?_append_left li] at hi
    rw [List.getElem?_append_left lj] at hj
    rw [List.getElem?_append_left (by rw [S.len]; exact li)] at ei
    rw [List.getElem?_append_left (by rw [S.len]; exact lj)] at ej
    exact S.ap i j di dj p hi hj ei ej
theorem Sat.ats {A : Amb} {vs : List V} : ∀ {ds : List D}, Sat A (ds.map .va) (vs.map some) B H → Ats A.K B vs ds := by
  intro ds S
  have e : vs.length = ds.length := by simpa using S.len
  have g : ∀ (i : Nat) d, ds[i]? = some d → ∃ v, vs[i]? = some v ∧ At A.K B v d := fun i d h => by
    obtain ⟨v, e, a⟩ := S.va (i := i) (d := d) (by rw [List.getElem?_map, h]; rfl)
    rw [List.getElem?_map] at e
    cases q : vs[i]? with
    | none =>
      rw [q] at e
      cases e
    | some u =>
      rw [q] at e
      cases e
      exact ⟨_, rfl, a⟩
  clear S
  induction ds generalizing vs with
  | nil =>
    cases vs with
    | nil => exact .nil
    | cons _ _ => cases e
  | cons d ds ih =>
    cases vs with
    | nil => cases e
    | cons v vs =>
      obtain ⟨u, hu, a⟩ := g 0 d rfl
      cases hu
      exact .cons a (ih (by simpa using e) fun i d h => g (i + 1) d (by simpa using h))
/-- the parameters, behind the body -/
theorem Sat.params {vs : List V} {ds : List D} {Γx : List Sl} {σx : St} (S : Sat ⟨K, B0, F⟩ (ds.map .va) (vs.map some) B H) (S' : Sat ⟨K, B, F⟩ Γx σx B' H') : Sat ⟨K, B0, F⟩ (ds.map .va) (vs.map some) B' H' := (S.ats.up S'.b0).slots (A := ⟨K, B0, F⟩) (S.b0.trans S'.b0) S'.bh S'.fh S'.fb
theorem Sat.paramsP {vs : List V} {ds : List D} {Γx : List Sl} {σx : St} {p : Addr} {d0 d1 : D} (S : Sat ⟨K, B0, F⟩ (.ow d0 :: ds.map .va) ((.ref p :: vs).map some) B H) (S' : Sat ⟨K, B, F⟩ Γx σx B' H') (h0 : Γx[0]? = some (.ow d1)) (e : σx[0]? = some (some (.ref p))) :
    Sat ⟨K, B0, F⟩ (.ow d1 :: ds.map .va) ((.ref p :: vs).map some) B' H' := by
  obtain ⟨p', e', hb, hf, w⟩ := S'.ow h0
  rw [e] at e'
  cases e'
  refine ⟨S.b0.trans S'.b0, S'.bh, S'.fh, S'.fb, by have := S.len; simpa using this, fun i s hi => ?_, fun i j di dj q hi hj _ _ => ?_⟩
  · cases i with
    | zero =>
      cases hi
      exact ⟨p, rfl, hb, hf, w⟩
    | succ i =>
      have hi' : (ds.map Sl.va)[i]? = some s := by simpa using hi
      rw [List.getElem?_map] at hi'
      cases q : ds[i]? with
      | none =>
        rw [q] at hi'
        cases hi'
      | some d =>
        rw [q] at hi'
        cases hi'
        obtain ⟨v, ev, av⟩ := S.va (i := i + 1) (d := d) (by simp [q])
        exact ⟨v, by rw [ev]; rfl, av.up S'.b0⟩
  · have f : ∀ {m : Nat} {dm : D}, (Sl.ow d1 :: ds.map .va)[m]? = some (.ow dm) → m = 0 := fun {m dm} hm => by
      cases m with
      | zero => rfl
      | succ m =>
        have hm' : (ds.map Sl.va)[m]? = some (.ow dm) := by simpa using hm
        rw [List.getElem?_map] at hm'
        cases q : ds[m]? <;> rw [q] at hm' <;> cases hm'
    rw [f hi, f hj]
end
section
variable {P : Program} {w : World} {K : PySem.W.Frag} {mg : Str → Option Value} {base : Heap} {x qual : Str} {params : Arguments} {body : List Stmt} {scope : Scope} {f : Addr} {fd : FuncData} {N ps : List Str} {k : Nat} {α : Type} {pre : α → Prop} {vin : α → List D} {din dout : α → D} {res : α → Res} {CX : CXT} {dvs : List V} {kws : List (Str × V)}
theorem ok_V (Fn : FunD K x qual params body scope dvs kws f fd) (Sc : FnScope N ps scope) (hlen : ∀ a, pre a → (vin a).length = ps.length) {t : XK → TS} {n : Nat} (hn : N.length = ps.length + n)
    (hb : ∀ (cdv : Value) (A : Around) (outer : List Env) (s : Shared) (H : Hp) (E : XK), Room k (A.deeper (PyProof.Rows.envOfC qual scope s.heap.objs.size f cdv)) → PSs (cxOf CX P w K mg base N qual scope f cdv A outer s H E) body (t E))
    (hr : ∀ a, pre a → ∀ (B0 F : Hp) (R : VK) (E : XK), FitV ⟨K, B0, F⟩ R E (res a) → To ⟨K, B0, F⟩ none ((vin a).map .va ++ List.replicate n .un) (t E { nx := fun _ H' => R .non H', rt := R })) :
    FnOk P w K mg base CX (k + 1) f fd ps (spV K pre vin res) := by
  refine Fn.ok Sc (fun vs H Q E h => ?_) (fun cdv A outer s H vs Q E hro h => ⟨t E, hb cdv A outer s H E hro, ?_⟩)
  · obtain ⟨a, B0, F, B, hp, S, _⟩ := h
    have := S.len
    rw [← hlen a hp]
    simpa using this
  · obtain ⟨a, B0, F, B, hp, S, post⟩ := h
    have hl : vs.length = ps.length := by
      have := S.len
      rw [← hlen a hp]
      simpa using this
    have e : L2.start N vs = vs.map some ++ List.replicate n none := by
      unfold L2.start
      rw [hl, hn, Nat.add_sub_cancel_left]
    rw [e]
    have S1 : Sat ⟨K, B, F⟩ ((vin a).map .va) (vs.map some) B H := ⟨Same.refl _, S.bh, S.fh, S.fb, S.len, S.sl, S.ap⟩
    refine hr a hp B F Q E ?_ _ B H (S1.more n) (fun p z => by cases z)
    cases er : res a with
    | ret d =>
      replace post : Post K B0 F B vs Q E ((res a).out ((vin a).map .va)) := post
      rw [er] at post
      exact fun Γ σ B' H' v S' _ av => post v B' H' (S.params S') S'.b0 av
    | own d =>
      replace post : Post K B0 F B vs Q E ((res a).out ((vin a).map .va)) := post
      rw [er] at post
      exact fun Γ σ B' H' v S' _ hb hf w _ => post v B' H' (S.params S') S'.b0 hb hf w fun i di hi => by
        rw [List.getElem?_map] at hi
        cases q : (vin a)[i]? <;> rw [q] at hi <;> cases hi
    | exc y ns ds =>
      replace post : Post K B0 F B vs Q E ((res a).out ((vin a).map .va)) := post
      rw [er] at post
      exact fun Γ σ B' H' dx S' _ hx => post dx B' H' (S.params S') S'.b0 hx
theorem ok_P (Fn : FunD K x qual params body scope dvs kws f fd) (Sc : FnScope N ps scope) (hlen : ∀ a, pre a → (vin a).length + 1 = ps.length) {t : XK → TS} {n : Nat} (hn : N.length = ps.length + n)
    (hb : ∀ (cdv : Value) (A : Around) (outer : List Env) (s : Shared) (H : Hp) (E : XK), Room k (A.deeper (PyProof.Rows.envOfC qual scope s.heap.objs.size f cdv)) → PSs (cxOf CX P w K mg base N qual scope f cdv A outer s H E) body (t E))
    (hr : ∀ a, pre a → ∀ (B0 F : Hp) (p : Addr) (R : VK) (E : XK), FitP ⟨K, B0, F⟩ p (dout a) R E (res a) → To ⟨K, B0, F⟩ (some p) (.ow (din a) :: (vin a).map .va ++ List.replicate n .un) (t E { nx := fun _ H' => R .non H', rt := R })) :
    FnOk P w K mg base CX (k + 1) f fd ps (spP K pre din vin dout res) := by
  refine Fn.ok Sc (fun vs H Q E h => ?_) (fun cdv A outer s H vs Q E hro h => ⟨t E, hb cdv A outer s H E hro, ?_⟩)
  · obtain ⟨a, B0, F, B, hp, S, _⟩ := h
    have := S.len
    rw [← hlen a hp]
    simpa using this
  · obtain ⟨a, B0, F, B, hp, S, post⟩ := h
    have hl : vs.length = ps.length := by
      have := S.len
      rw [← hlen a hp]
      simpa using this
    have e : L2.start N vs = vs.map some ++ List.replicate n none := by
      unfold L2.start
      rw [hl, hn, Nat.add_sub_cancel_left]
    rw [e]
    obtain ⟨p, e0, _⟩ := S.ow (i := 0) (d := din a) rfl
    obtain ⟨vr, rfl⟩ : ∃ vr, vs = .ref p :: vr := by
      cases vs with
      | nil => simp at e0
      | cons v vr =>
        simp at e0
        exact ⟨vr, by rw [e0]⟩
    have S1 : Sat ⟨K, B, F⟩ (.ow (din a) :: (vin a).map .va) ((V.ref p :: vr).map some) B H := ⟨Same.refl _, S.bh, S.fh, S.fb, S.len, S.sl, S.ap⟩
    refine hr a hp B F p Q E ?_ _ B H (S1.more n) (fun q z => by cases z; rfl)
    cases er : res a with
    | ret d =>
      replace post : Post K B0 F B (.ref p :: vr) Q E ((res a).out (.ow (dout a) :: (vin a).map .va)) := post
      rw [er] at post
      exact fun Γ g σ B' H' v S' hp av => post v B' H' (S.paramsP S' g (hp p rfl)) S'.b0 av
    | own d =>
      replace post : Post K B0 F B (.ref p :: vr) Q E ((res a).out (.ow (dout a) :: (vin a).map .va)) := post
      rw [er] at post
      refine fun Γ g σ B' H' v S' hp hb hf w np => post v B' H' (S.paramsP S' g (hp p rfl)) S'.b0 hb hf w fun i di hi ei => ?_
      cases i with
      | zero =>
        simp at ei
        exact np p rfl ei.symm
      | succ i =>
        have hi' : ((vin a).map Sl.va)[i]? = some (.ow di) := by simpa using hi
        rw [List.getElem?_map] at hi'
        cases q : (vin a)[i]? <;> rw [q] at hi' <;> cases hi'
    | exc y ns ds =>
      replace post : Post K B0 F B (.ref p :: vr) Q E ((res a).out (.ow (dout a) :: (vin a).map .va)) := post
      rw [er] at post
      exact fun Γ g σ B' H' dx S' hp hx => post dx B' H' (S.paramsP S' g (hp p rfl)) S'.b0 hx

/-! ### a callee, in one word -/
structure Cal (P : Program) (w : World) (K : PySem.W.Frag) (mg : Str → Option Value) (base : Heap) (x : Str) (k : Nat) (ps : List Str) (sp : Sp) : Prop where
  ok : ∃ f fd, mg x = some (.ref f) ∧ FnOk P w K mg base (L2N.CX P w) k f fd ps sp ∧ Binds K fd ps [] ∧ PySem.W.keepIn K (.ref f) = true
theorem passAt0 {X : Cx} (σ : St) : PassesAt (L2N.CX X.prog X.w) X σ E0 := fun _ _ _ _ _ _ h => by
  obtain ⟨_, _, _, _, _, _, _, _, _, _, _, _, z⟩ := h
  exact z.elim
theorem pe_cal {X : Cx} {x : Str} {p pos : Pos} {e : Expr} {es : List Expr} {t : TA} {k j : Nat} {sp : Sp} {ps : List Str} {E : St → XK} (C : Cal X.prog X.w X.K X.mg X.base x k ps sp) (hr : Room j X.A) (hx : ∀ σ, PassesAt (L2N.CX X.prog X.w) X σ (E σ)) (ha : PA X (e :: es) t) (hk : k ≤ j := by decide) (hg : Gl X x := by rfl)
    (hdb : (x == ("__debug__" : Str)) = false := by decide) (he : starEach (e :: es) X.env = (false, eval e X.env) :: starEach es X.env := by rfl) (hpl : (backTo pos (starEach es X.env)).any (·.1) = false := by rfl) :
    PE X (.Call (.Name x p) (e :: es) [] pos) (tCallS sp E t) := by
  obtain ⟨f, fd, hm, F, hb, kp⟩ := C.ok
  exact pe_callS F (hr.mono hk) hg hm kp hb hx ha hdb he hpl
/-- the built-in names that the text leaves alone -/
structure Bn (mg : Str → Option Value) : Prop where
  len : mg "len" = none
  range : mg "range" = none
  int : mg "int" = none
  abs : mg "abs" = none
  max : mg "max" = none
  min : mg "min" = none
  sum : mg "sum" = none
  all : mg "all" = none
  any : mg "any" = none
  list : mg "list" = none
  tuple : mg "tuple" = none
  isinstance : mg "isinstance" = none
  zip : mg "zip" = none
  enumerate : mg "enumerate" = none
  bool : mg "bool" = none
  str : mg "str" = none
  reversed : mg "reversed" = none
  sorted : mg "sorted" = none
end
end Y
set_option maxHeartbeats 4000000
/-! an own error over ValueError (or over another own error): __init__(self, ..) says super().__init__('..') and stores its parameters -/
namespace PySem
namespace YX
open PySem.W PySem.Calls PyProof.Rows PySem.HandSPX
def yArgs (ps : List (Str × Pos)) : Arguments := { posonlyargs := [], args := ps.map fun q => { arg := q.1, annotation := none, pos := q.2 }, vararg := none, kwonlyargs := [], kw_defaults := [], kwarg := none, defaults := [] }
structure Ps where
  p0 : Pos
  p1 : Pos
  p2 : Pos
  p3 : Pos
  p4 : Pos
  p5 : Pos
def yFirst (q : Ps) (msg : Str) (j : Nat) : Stmt := .Expr (.Call (.Attribute (.Call (.Name "super" q.p0) [] [] q.p1) "__init__" q.p2) [.Constant (.str msg) j q.p3] [] q.p4) q.p5
def yPut (f : Str) (q : Pos × Pos × Pos × Pos) : Stmt := .Assign [.Attribute (.Name "self" q.1) f q.2.1] (.Name f q.2.2.1) q.2.2.2
def yScope (fs : List Str) : Scope := { kind := .function, names := (("self" : Str), .local) :: (fs.map fun f => (f, NameKind.local)) ++ [(("__class__" : Str), .free), (("super" : Str), .globalImplicit)], isGenerator := false, isCoroutine := false, more := [] }

/-- what the written part tells of the class at C and of its __init__ at fI -/
structure Txt (prog : Program) (K : Frag) (C fI : Addr) (fs : List Str) (qual : Str) (params : Arguments) (body : List Stmt) : Prop where
  cls : ∃ nm q N bs bm sn sub ab col dd k0 k1 k2 k3 k5, K.lookup C = some (excClassObj nm q C N bs bm true sn sub ab col dd k0 k1 k2 k3 k5 "ValueError.__new__") ∧ refsVE bm = true
  sup : ks_superIn K C C "__init__" = some (some (.builtin "ValueError.__init__"))
  opq : nsIn K cStatics "thirdparty.any" = some none
  sa : findIn K (.ref C) "__setattr__" = some (some (.builtin "object.__setattr__"))
  noF : ∀ f ∈ fs, findIn K (.ref C) f = some none
  iC : findIn K (.ref C) "__init__" = some (some (.ref fI))
  tC : typeIn K (.ref fI) = some (.type "function")
  subV : subIn K (.ref C) (.type "ValueError") = some true
  mroC : mroIn K C (.ref C) = some true
  isC : ∃ cd, clsIn K C = some cd
  fn : ∃ (oc : Value) (od : Option Addr) (doc pm : Value) (an : Option Addr) (cda : Addr) (ct : Value) (osl : Array (Option Value)) (cc : Addr) (vs : Array Value) (file : Str) (tf : Tok) (ccl : Value) (cdd : Option Addr) (ccs : Array (Option Value)) (cl : Value) (cld : Option Addr) (csl : Array (Option Value)),
    K.lookup fI = some ⟨oc, od, .func (ksFn "__init__" qual params body (yScope fs) .none .none doc pm an (.ref cda) ct cc), osl⟩ ∧ codeIn K (.ref cda) qual = true ∧ K.lookup cda = some ⟨ccl, cdd, .fields vs, ccs⟩ ∧ vs[2]? = some (.str file tf) ∧ ((prog.main.file : Str) == file) = true ∧
      K.lookup cc = some ⟨cl, cld, .cell (some (.ref C)), csl⟩
/-- what the module's names must be -/
structure Glb (mg mb : Str → Option Value) (h : Heap) : Prop where
  g : h.Ns mainGlobals mg
  b : h.Ns builtinsNs mb
  no : mg "super" = none
  bt : mb "super" = some (.type "super")
theorem Glb.keeps {mg mb : Str → Option Value} {h h' : Heap} (G : Glb mg mb h) (k : ∀ b o, h.get? b = some o → h'.get? b = some o) : Glb mg mb h' := ⟨G.g.keeps k, G.b.keeps k, G.no, G.bt⟩

section
open Builtin Builtin.ObjectAttr
variable {prog : Program} {w : World} {A : Around} {E : Value → Shared → Prop} {R : Result → Shared → Prop} {hp : Heap} {g : Array GenState} {d : Drawn} {t : Nat} {os : OsState} {K : Frag} {C : Addr}
/-- the second store: the dict is there -/
theorem osa_more {name : Str} {tk : Tok} {v : Value} {x dx : Addr} {fv : Array Value} {cd : ClassData} {m0 : Str → Option Value} {nl : List Str}
    (X : K.In hp) (hx : hp.get? x = some { cls := .ref C, dict := some dx, data := .fields fv }) (hns : hp.Ns1 dx m0) (hw : Within m0 nl) (hz : nl.length ≤ 1000) (hcd : W.clsIn K C = some cd) (hm : refsVE cd.mro = true) (hh : cd.hasDict = true)
    (ha : W.findIn K (.ref C) name = some none)
    (hq : ∀ h' tk', (∀ b o, b ≠ dx → hp.get? b = some o → h'.get? b = some o) → h'.Ns1 dx (fun y => if y = name then some v else m0 y) → R (.ok (.ret .none)) ⟨h', g, d, tk', os⟩) :
    codeAny (model prog w) A (.call (.builtin "object.__setattr__") ⟨[.ref x, .str name tk, v], []⟩) R ⟨hp, g, d, t, os⟩ := by
  obtain ⟨oD, esD, epD, hoD, hdD, _⟩ := hns.count hw
  have I : W.InstAt hp x { cls := .ref C, dict := some dx, data := .fields fv } C (some oD) := ⟨hx, rfl, rfl, hoD⟩
  have SF := F.store_object
  have ne := refsVE_ne hm
  have hob : cd.mro.contains (.type "object") = true := (refsVE_contains "object" _ hm).trans (by decide +kernel)
  have sub : W.Looks (model prog w) hp (isInstance (.ref x) (.type "object")) true := I.type.andThen (W.looks_mroIn X (by unfold W.mroIn; rw [hcd, Option.bind_some, if_neg (by rw [ne]; decide), hob]))
  refine codeAny_call_builtin SF.slot.plain SF.entry (@W.check_slot (model prog w) _ _ ⟨hp, g, d, t, os⟩ "object.__setattr__" "object" "__setattr__" (.ref x) [.str name tk, v] [] _ SF.kind SF.split sub (SF.args (.ref x) (.str name tk) v) ?_)
  have hmr : W.Looks (model prog w) hp (mroOf (.ref C)) cd.mro := (W.looks_clsIn X hcd).andThen .now
  have L3 : W.Looks (model prog w) hp (storeTaker? none) none := .now
  have hcls : W.Looks (model prog w) hp (classData C) cd := W.looks_clsIn X hcd
  rw [W.osa_eq, refuse_eq]
  refine wpAny_bind (wpAny_bind (I.type.at (wpAny_bind (hmr.at ?_))))
  rw [refsVE_pass _ _ hm]
  refine wpAny_pure (wpAny_bind (I.type.at (wpAny_bind ((W.looks_findIn X ha).at (wpAny_bind (L3.at ?_))))))
  show wpAny _ _ (Builtin.ObjectAttr.storeInOwnDict (.ref x) (.ref C) (.str name tk) name v false) _ _ _
  obtain ⟨nm, bs, mro, ns, qn, hd, sn, sb, ab, col, del⟩ := cd
  dsimp only at hh
  subst hh
  unfold Builtin.ObjectAttr.storeInOwnDict Builtin.ObjectAttr.ownDictForStores
  repeat (first | with_reducible refine PySem.ESX.store_in_old hns hw hz ?_ | with_reducible refine wpAny_loadPart_at hx ?_ | with_reducible refine hcls.at ?_ | wp_step)
  intro h' tk' hn' hs
  exact hq h' tk' (fun b o hb ho => (hs.2 b hb).trans ho) hn'
end

section
variable {prog : Program} {w : World} {A : Around} {E : Value → Shared → Prop} {R : Result → Shared → Prop} {s : Shared} {K : Frag} {mg mb : Str → Option Value} {C fI : Addr} {fs : List Str} {qual : Str} {params : Arguments} {body : List Stmt}
/-- super().__init__('..') -/
theorem first_ok (T : Txt prog K C fI fs qual params body) {L x t0 cda cc : Addr} {q : Ps} {msg : Str} {j : Nat} {m : Str → Option Value} {Q : Flow → Shared → Prop} {bd rest : List Stmt}
    (hfn : ∃ (oc : Value) (od : Option Addr) (doc pm : Value) (an : Option Addr) (ct : Value) (osl : Array (Option Value)) (vs : Array Value) (file : Str) (tf : Tok) (ccl : Value) (cdd : Option Addr) (ccs : Array (Option Value)) (cl : Value) (cld : Option Addr) (csl : Array (Option Value)),
      K.lookup fI = some ⟨oc, od, .func (ksFn "__init__" qual params body (yScope fs) .none .none doc pm an (.ref cda) ct cc), osl⟩ ∧ K.lookup cda = some ⟨ccl, cdd, .fields vs, ccs⟩ ∧ vs[2]? = some (.str file tf) ∧ ((prog.main.file : Str) == file) = true ∧
      K.lookup cc = some ⟨cl, cld, .cell (some (.ref C)), csl⟩)
    (hpar : ∃ ps : List (Str × Pos), params = yArgs ps ∧ (ps.map (·.1)).head? = some "self")
    (X : K.In s.heap) (G : Glb mg mb s.heap) (hn : s.heap.Ns L m) (hv : m "self" = some (.ref x)) (hx : s.heap.get? x = some (excO C t0)) (hLx : L ≠ x)
    (htop : (prog.main.scope.names.lookup ("super" : Str)).isSome = false) (hks : (yScope fs).names.lookup ("super" : Str) = some .globalImplicit) (hkc : (yScope fs).names.lookup ("__class__" : Str) = some .free) (hka : (yScope fs).names.lookup ("self" : Str) = some .local)
    (hsw : swapsWith (.Call (.Attribute (.Call (.Name "super" q.p0) [] [] q.p1) "__init__" q.p2) [.Constant (.str msg) j q.p3] [] q.p4) none q.p5.line (ksEnv qual (yScope fs) L fI (.ref cda) cc) = pure false)
    (he : eval (.Call (.Attribute (.Call (.Name "super" q.p0) [] [] q.p1) "__init__" q.p2) [.Constant (.str msg) j q.p3] [] q.p4) (ksEnv qual (yScope fs) L fI (.ref cda) cc) = (do
      let ov ← attributeBase (.Call (.Name "super" q.p0) [] [] q.p1) "__init__" (ksEnv qual (yScope fs) L fI (.ref cda) cc) (eval (.Call (.Name "super" q.p0) [] [] q.p1) (ksEnv qual (yScope fs) L fI (.ref cda) cc))
      standAt q.p2.atName
      let (f, first) ← holding [ov] (getMethod ov "__init__" (pure false))
      callWith q.p4 f first (backTo q.p4 (starEach [.Constant (.str msg) j q.p3] (ksEnv qual (yScope fs) L fI (.ref cda) cc))) []))
    (h : ∀ h' tk t1, (∀ b o, b ≠ x → s.heap.get? b = some o → h'.get? b = some o) → h'.get? x = some (excO C t1) → wpAt (model prog w) A (.func bd (ksEnv qual (yScope fs) L fI (.ref cda) cc)) (execs rest (ksEnv qual (yScope fs) L fI (.ref cda) cc)) Q E { s with heap := h', toks := tk }) :
    wpAt (model prog w) A (.func bd (ksEnv qual (yScope fs) L fI (.ref cda) cc)) (execs (yFirst q msg j :: rest) (ksEnv qual (yScope fs) L fI (.ref cda) cc)) Q E s := by
  obtain ⟨oc, od, doc, pm, an, ct, osl, vs, file, tf, ccl, cdd, ccs, cl, cld, csl, ho, hcode, hvs, hfile, hcell⟩ := hfn
  obtain ⟨cdC, hcd⟩ := T.isC
  obtain ⟨ps, rfl, hps⟩ := hpar
  obtain ⟨p1, pr, rfl, hp1⟩ : ∃ (p1 : Str × Pos) (pr : List (Str × Pos)), ps = p1 :: pr ∧ p1.1 = "self" := by
    cases ps with
    | nil => cases hps
    | cons a r => exact ⟨a, r, rfl, Option.some.inj hps⟩
  have hwi : hp1 = hp1 := rfl
  have I : InstAt s.heap x (excO C t0) C none := ⟨hx, rfl, rfl, trivial⟩
  have hxC : x ≠ C := fun z => by
    subst z
    exact ks_ne X I hcd rfl
  have hlim : True := trivial
  obtain ⟨hh, gs, dr, tk, os⟩ := s
  obtain ⟨oD, hD1, hD2⟩ : ∃ oD, hh.get? C = some oD ∧ oD.data = .cls cdC := by
    unfold clsIn at hcd
    split at hcd
    · rename_i c d cd' sl hl
      cases hcd
      exact ⟨_, X _ _ hl, rfl⟩
    · cases hcd
  refine ks_wpAt_execs_cons ?_
  refine ks_wpAt_Expr_any ?_ (by rfl) hsw
  refine ks_wpAt_MethodCall (pl := pure false) ?_ he
  refine ks_wpAt_super_base (env := ksEnv qual (yScope fs) L fI (.ref cda) cc) (ar := { arg := p1.1, annotation := none, pos := p1.2 }) hks hkc (by decide) rfl (X _ _ ho) rfl rfl rfl (X _ _ hcode) rfl hvs hfile htop ?_
  refine ks_loadName_global rfl hks (loadGlobal_builtin (env := ksEnv qual (yScope fs) L fI (.ref cda) cc) G.g G.no G.b G.bt ⟨rfl, ?_⟩)
  refine wpAny_loadName_free rfl hkc rfl ⟨_, X _ _ hcell, rfl⟩ ?_
  show wpAny _ _ (loadName _ p1.1) _ _ _
  rw [hp1]
  refine wpAny_loadName_local rfl hka hn hv ?_
  refine ks_wpAny_isType_cls hD1 hD2 ⟨rfl, ?_⟩
  refine ks_wpAny_call_super hD1 hD2 hx rfl (fun c e => by cases e) (looks_mroIn X T.mroC) (fun h1 e1 k1 => ?_)
  -- getMethod
  have X1 : K.In h1 := X.keeps k1
  have hx1 := k1 _ _ hx
  have I1 : InstAt h1 x (excO C t0) C none := ⟨hx1, rfl, rfl, trivial⟩
  have hI : Looks (model prog w) h1 (isInstance (.ref x) (.type "ValueError")) true := I1.type.andThen (looks_subIn X1 T.subV)
  have hsup := T.sup
  unfold ks_superIn at hsup
  rw [hcd] at hsup
  refine kxs_getMethod kxs_ValueError e1 (looks_opaque X1 T.opq) (l₀ := cdC.mro) ?_ rfl X1 hsup hI hxC (by decide) ?_
  · exact fun A Q E s k q => wpAny_bind ((looks_clsIn X1 hcd) A _ E s k (wpAny_pure q))
  -- the call
  have hu : (h1.push (kxs_mw "ValueError.__init__" x)).get? h1.objs.size = some (kxs_mw "ValueError.__init__" x) := Heap.get?_push_at rfl rfl
  have k2 : ∀ b o, h1.get? b = some o → (h1.push (kxs_mw "ValueError.__init__" x)).get? b = some o := fun b o e => Heap.get?_push_of_some _ e
  refine kxs_callWith (i := "ValueError.__init__") (x := x) rfl ?_
  refine evalArgs_plain ?_
  show wpAny _ _ (spliced ((false, eval (.Constant (.str msg) j q.p3) _) :: [])) _ _ _
  refine Calls.spliced_cons (Calls.Constant_str (Calls.spliced_nil ?_))
  refine ⟨hu, ?_⟩
  -- ValueError.__init__(x, msg)
  obtain ⟨nm, qn, N', bs, bm, sn, sub, ab, col, dd, k0, k1', k2', k3, k5, hCl, hbm⟩ := T.cls
  have k12 : ∀ b o, hh.get? b = some o → (h1.push (kxs_mw "ValueError.__init__" x)).get? b = some o := fun b o e => k2 b o (k1 b o e)
  have hC2 := k12 _ _ (X _ _ hCl)
  have hx2 := k12 _ _ hx
  have FB := F.excBase_ValueError
  refine wpAny_call (codeAny_of_tree ?_)
  show wpAny _ A.in1 (callAny (.ref h1.objs.size) ⟨[.str msg _], []⟩) _ _ _
  simp only [callAny]
  refine wpAny_bind (wpAny_load hu ?_)
  simp only [kxs_mw, show (Value.type "method-wrapper" == Value.type "method" || Value.type "method-wrapper" == Value.type "builtin_function_or_method" || Value.type "method-wrapper" == Value.type "method-wrapper") = true by decide, if_true]
  refine KFB.if_so (by decide) ?_
  refine wpAny_bind (check_bound_init FB.toExcCallFacts hC2 hx2 rfl ?_)
  refine wpAny_bind (wpAny_pure (wpAny_pure ?_))
  refine ⟨plainId_quiet FB.init.plain _, codeAny_builtin FB.initEntry ?_⟩
  refine exc_init_tree (cls := .ref C) (t0 := t0) (dv := none) (c2 := .none) (c3 := .none) (b4 := .bool false) hx2 (by show 1 ≤ sizeLine; rw [sizeLine_eq]; omega) fun h3 k3 e3 _ => ?_
  exact h h3 _ _ (fun b o hb e => k3 b o hb (k12 b o e)) e3
/-- what is left of a new error: its fields -/
def Made (h : Heap) (x C t : Addr) : List (Str × Value) → Prop
  | [] => h.get? x = some (excO C t)
  | q :: r => ∃ dx, h.get? x = some { cls := .ref C, dict := some dx, data := .fields #[.ref t, .none, .none, .none, .bool false, .none] } ∧ dx ≠ x ∧ h.Ns1 dx (fun y => (q :: r).lookup y)
/-- self.f = f -/
theorem put_ok (T : Txt prog K C fI fs qual params body) {L x t0 : Addr} {env : Env} {f : Str} {q : Pos × Pos × Pos × Pos} {m : Str → Option Value} {Q : Flow → Shared → Prop} {v : Value} {done : List (Str × Value)} {B : Heap}
    (X : K.In s.heap) (hn : s.heap.Ns L m) (hv : m "self" = some (.ref x)) (hf : m f = some v) (hx : Made s.heap x C t0 done) (hLx : L ≠ x) (henv : env.locals = L) (hfs : f ∈ fs) (hnd : f ∉ done.map (·.1)) (hz : done.length ≤ 1)
    (hk : env.scope.kind = .function) (hl1 : env.kindOf "self" = some .local) (hl2 : env.kindOf f = some .local) (hdb : (f == ("__debug__" : Str)) = false)
    (hBx : B.get? x = none) (hB : ∀ b o, B.get? b = some o → s.heap.get? b = some o) (hBd : ∀ dx, (∃ fv, s.heap.get? x = some { cls := .ref C, dict := some dx, data := .fields fv }) → B.get? dx = none ∧ L < dx)
    (h : ∀ h' tk, (∀ b o, B.get? b = some o → h'.get? b = some o) → h'.Ns L m → Made h' x C t0 (done ++ [(f, v)]) → (∀ dx, (∃ fv, h'.get? x = some { cls := .ref C, dict := some dx, data := .fields fv }) → B.get? dx = none ∧ L < dx) → Q .next { s with heap := h', toks := tk })
    (hsw : swapsWith (.Name f q.2.2.1) (some (.Attribute (.Name "self" q.1) f q.2.1)) q.2.2.2.line env = pure false) :
    wpAny (model prog w) A (exec (yPut f q) env) Q E s := by
  obtain ⟨cdC, hcd⟩ := T.isC
  obtain ⟨nm, qn, N', bs, bm, sn, sub, ab, col, dd, k0, k1', k2', k3, k5, hCl, hbm⟩ := T.cls
  have hcl : clsIn K C = some { name := nm, bases := bs, mro := .ref C :: bm, ns := N', qualname := qn, hasDict := true, slotNames := sn, subclasses := sub, abstract := ab, collection := col, hasDel := false } := by unfold clsIn; rw [hCl] <;> rfl
  obtain ⟨hh, gs, dr, tk, os⟩ := s
  refine plainObj_wpAny_Assign_Attribute ?_ hsw
  refine wpAny_Name (wpAny_loadName_local hk hl2 (by rw [henv]; exact hn) hf ?_) hdb
  refine wpAny_Name (wpAny_loadName_local hk hl1 (by rw [henv]; exact hn) hv ?_) (by decide)
  have nsKeep : ∀ {h' : Heap} {y : Addr}, y ≠ L → (∀ b o, b ≠ y → hh.get? b = some o → h'.get? b = some o) → h'.Ns L m := fun {h' y} hy k => by
    obtain ⟨oL, es, ep, hL, r⟩ := hn
    exact ⟨oL, es, ep, k _ _ (Ne.symm hy) hL, r⟩
  cases done with
  | nil =>
    have hx' : hh.get? x = some (excO C t0) := hx
    refine set_plain X (ox := excO C t0) (od := none) ⟨hx', rfl, rfl, trivial⟩ T.sa ?_
    refine exc_osa X hx' hcl (show refsVE (.ref C :: bm) = true from hbm) rfl (T.noF f hfs) (fun h₃ tk₃ dx k₃ dn dne hx₃ hn₃ => ?_)
    have hLs : L < hh.objs.size := hn.lt
    refine h h₃ tk₃ (fun b o e => k₃ b o (fun z => by rw [z, hBx] at e; cases e) (hB b o e)) (nsKeep (Ne.symm hLx) k₃) ⟨dx, hx₃, dne, ?_⟩ fun dx' ⟨fv, e⟩ => ?_
    · have e : (fun y => ([] ++ [(f, v)] : List (Str × Value)).lookup y) = fun y => if y = f then some v else none := by
        funext y
        by_cases e : y = f
        · subst e
          simp [List.lookup]
        · have q2 : (y == f) = false := by simpa using e
          simp [List.lookup, q2, e]
      show h₃.Ns1 dx (fun y => ([] ++ [(f, v)] : List (Str × Value)).lookup y)
      rw [e]
      exact hn₃
    · rw [hx₃] at e
      cases e
      refine ⟨?_, Nat.lt_of_lt_of_le hLs dn⟩
      cases e : B.get? dx with
      | none => rfl
      | some o => exact absurd (Heap.lt_size (hB _ _ e)) (Nat.not_lt.mpr dn)
  | cons p r =>
    obtain ⟨dx, hx', dne, hns⟩ := hx
    have r0 : r = [] := by
      cases r with
      | nil => rfl
      | cons _ _ => simp at hz
    subst r0
    obtain ⟨hb1, hb2⟩ := hBd dx ⟨_, hx'⟩
    have hw : Within (fun y => ([p] : List (Str × Value)).lookup y) [p.1] := fun y hy => by
      have hy' : List.lookup y [p] ≠ none := hy
      by_cases e : y = p.1
      · simp [e]
      · exfalso
        apply hy'
        obtain ⟨p1, p2⟩ := p
        have q2 : (y == p1) = false := by simpa using e
        simp [List.lookup, q2]
    obtain ⟨oD, esD, epD, hoD, _⟩ := id hns
    refine set_plain X (od := some oD) ⟨hx', rfl, rfl, hoD⟩ T.sa ?_
    refine osa_more X hx' hns hw (by simp) hcl (show refsVE (.ref C :: bm) = true from hbm) rfl (T.noF f hfs) (fun h₃ tk₃ k₃ hn₃ => ?_)
    have hx3 := k₃ _ _ (Ne.symm dne) hx'
    refine h h₃ tk₃ (fun b o e => k₃ b o (fun z => by rw [z, hb1] at e; cases e) (hB b o e)) (nsKeep (Nat.ne_of_gt hb2) k₃) ⟨dx, hx3, dne, ?_⟩ fun dx' ⟨fv, e⟩ => ?_
    · have e : (fun y => ([p] ++ [(f, v)] : List (Str × Value)).lookup y) = fun y => if y = f then some v else ([p] : List (Str × Value)).lookup y := by
        funext y
        obtain ⟨p1, p2⟩ := p
        have np : ¬ f = p1 := fun z => hnd (by simp [z])
        by_cases e : y = f
        · subst e
          have q2 : (y == p1) = false := by simpa using np
          simp [List.lookup, q2]
        · have q2 : (y == f) = false := by simpa using e
          by_cases e1 : y = p1
          · subst e1
            simp [List.lookup, e]
          · have q3 : (y == p1) = false := by simpa using e1
            simp [List.lookup, q2, q3, e]
      show h₃.Ns1 dx (fun y => ([p] ++ [(f, v)] : List (Str × Value)).lookup y)
      rw [e]
      exact hn₃
    · rw [hx3] at e
      cases e
      exact ⟨hb1, hb2⟩
/-- the stores, one behind another -/
theorem puts_ok (T : Txt prog K C fI fs qual params body) {L x t0 : Addr} {env : Env} {m : Str → Option Value} {B : Heap}
    (X : K.In B) (hv : m "self" = some (.ref x)) (hLx : L ≠ x) (henv : env.locals = L) (hk : env.scope.kind = .function) (hl1 : env.kindOf "self" = some .local) (hBx : B.get? x = none) :
    ∀ (l : List (Str × Value × (Pos × Pos × Pos × Pos))) (done : List (Str × Value)) (s : Shared) (Q : Flow → Shared → Prop), done.length + l.length ≤ 2 → (∀ p ∈ l, p.1 ∈ fs ∧ m p.1 = some p.2.1 ∧ env.kindOf p.1 = some .local ∧ (p.1 == ("__debug__" : Str)) = false ∧
      swapsWith (.Name p.1 p.2.2.2.2.1) (some (.Attribute (.Name "self" p.2.2.1) p.1 p.2.2.2.1)) p.2.2.2.2.2.line env = pure false) → (done.map (·.1) ++ l.map (·.1)).Nodup → (∀ b o, B.get? b = some o → s.heap.get? b = some o) → s.heap.Ns L m → Made s.heap x C t0 done →
      (∀ dx, (∃ fv, s.heap.get? x = some { cls := .ref C, dict := some dx, data := .fields fv }) → B.get? dx = none ∧ L < dx) →
      (∀ h' tk, (∀ b o, B.get? b = some o → h'.get? b = some o) → Made h' x C t0 (done ++ l.map fun p => (p.1, p.2.1)) → (∀ dx, (∃ fv, h'.get? x = some { cls := .ref C, dict := some dx, data := .fields fv }) → B.get? dx = none ∧ L < dx) → Q .next { s with heap := h', toks := tk }) →
      wpAny (model prog w) A (execs (l.map fun p => yPut p.1 p.2.2) env) Q E s
  | [], done, s, Q, _, _, _, hB, _, hx, hBd, h => by
    refine wpAny_execs_nil ?_
    have := h s.heap s.toks hB (by simpa using hx) hBd
    exact this
  | p :: l, done, s, Q, hz, hp, hnd, hB, hn, hx, hBd, h => by
    obtain ⟨p1, p2, p3, p4, p5⟩ := hp p List.mem_cons_self
    have hz' : done.length + (l.length + 1) ≤ 2 := hz
    refine wpAny_execs_cons ?_
    refine put_ok T (X.keeps hB) hn hv p2 hx hLx henv p1 ?_ (by omega) hk hl1 p3 p4 hBx hB hBd ?_ p5
    · intro q
      have := List.nodup_append.mp hnd
      exact this.2.2 _ q _ (by simp) rfl
    · intro h' tk hB' hn' hm' hBd'
      refine puts_ok T X hv hLx henv hk hl1 hBx l (done ++ [(p.1, p.2.1)]) { s with heap := h', toks := tk } Q (by simp; omega) (fun q hq => hp q (List.mem_cons_of_mem _ hq)) (by simpa using hnd) hB' hn' hm' hBd' ?_
      intro h2 tk2 hB2 hm2 hd2
      exact h h2 tk2 hB2 (by simpa using hm2) hd2
theorem init_ok (T : Txt prog K C fI fs qual params body) {x t0 : Addr} {q : Ps} {msg : Str} {j : Nat} {l : List (Str × Value × (Pos × Pos × Pos × Pos))} {binds : List (Str × Value)} {vs : List Value}
    (hbody : body = yFirst q msg j :: l.map fun p => yPut p.1 p.2.2) (hpar : ∃ ps : List (Str × Pos), params = yArgs ps ∧ (ps.map (·.1)).head? = some "self")
    (X : K.In s.heap) (hlim : s.heap.NoLimit) (G : Glb mg mb s.heap) (hx : s.heap.get? x = some (excO C t0)) (hnx : K.lookup x = none) (B : Heap) (hBx : B.get? x = none) (hB : ∀ b o, B.get? b = some o → s.heap.get? b = some o) (hKB : K.In B) (hroom : A.depth < recursionLimit)
    (hbind : ∀ (doc pm : Value) (an : Option Addr) (cda : Addr) (ct : Value) (cc : Addr), bindArgs (ksFn "__init__" qual params body (yScope fs) .none .none doc pm an (.ref cda) ct cc) ⟨.ref x :: vs, []⟩ = pure binds)
    (hloc : ∀ y ∈ binds, (yScope fs).names.lookup y.1 = some .local) (hm0 : binds.reverse.lookup ("self" : Str) = some (Value.ref x)) (hml : ∀ p ∈ l, p.1 ∈ fs ∧ binds.reverse.lookup p.1 = some p.2.1 ∧ (p.1 == ("__debug__" : Str)) = false) (hnd : (l.map (·.1)).Nodup) (hz : l.length ≤ 2)
    (hcell : ∀ z ∈ (yScope fs).names, z.2 ≠ .cell)
    (htop : (prog.main.scope.names.lookup ("super" : Str)).isSome = false) (hks : (yScope fs).names.lookup ("super" : Str) = some .globalImplicit) (hkc : (yScope fs).names.lookup ("__class__" : Str) = some .free) (hka : (yScope fs).names.lookup ("self" : Str) = some .local) (hkf : ∀ f ∈ fs, (yScope fs).names.lookup f = some .local)
    (hsw : ∀ (L : Addr) (cda : Value) (cc : Addr), swapsWith (.Call (.Attribute (.Call (.Name "super" q.p0) [] [] q.p1) "__init__" q.p2) [.Constant (.str msg) j q.p3] [] q.p4) none q.p5.line (ksEnv qual (yScope fs) L fI cda cc) = pure false)
    (he : ∀ (L : Addr) (cda : Value) (cc : Addr), eval (.Call (.Attribute (.Call (.Name "super" q.p0) [] [] q.p1) "__init__" q.p2) [.Constant (.str msg) j q.p3] [] q.p4) (ksEnv qual (yScope fs) L fI cda cc) = (do
      let ov ← attributeBase (.Call (.Name "super" q.p0) [] [] q.p1) "__init__" (ksEnv qual (yScope fs) L fI cda cc) (eval (.Call (.Name "super" q.p0) [] [] q.p1) (ksEnv qual (yScope fs) L fI cda cc))
      standAt q.p2.atName
      let (f, first) ← holding [ov] (getMethod ov "__init__" (pure false))
      callWith q.p4 f first (backTo q.p4 (starEach [.Constant (.str msg) j q.p3] (ksEnv qual (yScope fs) L fI cda cc))) []))
    (hsp : ∀ p ∈ l, ∀ (L : Addr) (cda : Value) (cc : Addr), swapsWith (.Name p.1 p.2.2.2.2.1) (some (.Attribute (.Name "self" p.2.2.1) p.1 p.2.2.2.1)) p.2.2.2.2.2.line (ksEnv qual (yScope fs) L fI cda cc) = pure false)
    (h : ∀ h' tk t1, (∀ b o, B.get? b = some o → h'.get? b = some o) → Made h' x C t1 (l.map fun p => (p.1, p.2.1)) → (∀ dx, (∃ fv, h'.get? x = some { cls := .ref C, dict := some dx, data := .fields fv }) → s.heap.objs.size < dx) → R (.ok (.ret .none)) { s with heap := h', toks := tk }) :
    codeAny (model prog w) A (.call (.ref fI) ⟨.ref x :: vs, []⟩) R s := by
  obtain ⟨oc, od, doc, pm, an, cda, ct, osl, cc, cvs, file, tf, ccl, cdd, ccs, cl, cld, csl, ho, hcd, hcode, hvs, hfile, hcell2⟩ := T.fn
  refine ks_codeAny_call_defAt (fd := ksFn "__init__" qual params body (yScope fs) .none .none doc pm an (.ref cda) ct cc) (body := body) (binds := binds) hroom (X _ _ ho) rfl hlim (codeRec_of X hcd) rfl (BindsTo.of_eq (hbind doc pm an cda ct cc)) hcell hloc (fun h₁ hns hk₁ => ?_) rfl rfl rfl
  subst hbody
  have hLx : s.heap.objs.size ≠ x := Nat.ne_of_gt (Heap.lt_size hx)
  have hBL : B.get? s.heap.objs.size = none := by
    cases e : B.get? s.heap.objs.size with
    | none => rfl
    | some o => exact absurd (Heap.lt_size (hB _ _ e)) (Nat.lt_irrefl _)
  refine first_ok T (s := { s with heap := h₁, toks := s.toks + binds.length }) ⟨oc, od, doc, pm, an, ct, osl, cvs, file, tf, ccl, cdd, ccs, cl, cld, csl, ho, hcode, hvs, hfile, hcell2⟩ hpar (X.keeps hk₁) (G.keeps hk₁) hns hm0 (hk₁ _ _ hx) hLx htop hks hkc hka (hsw _ _ _) (he _ _ _) ?_
  intro h2 tk2 t1 k2 e2
  refine wpAt_of_wpAny ?_
  have hB2 : ∀ b o, B.get? b = some o → h2.get? b = some o := fun b o e => k2 b o (fun z => by rw [z, hBx] at e; cases e) (hk₁ _ _ (hB _ _ e))
  have hns2 : h2.Ns s.heap.objs.size (fun y => binds.reverse.lookup y) := by
    obtain ⟨oL, es, ep, hL, r⟩ := hns
    exact ⟨oL, es, ep, k2 _ _ hLx hL, r⟩
  refine puts_ok T (env := ksEnv qual (yScope fs) s.heap.objs.size fI (.ref cda) cc) (L := s.heap.objs.size) (t0 := t1) (m := fun y => binds.reverse.lookup y) (B := B) hKB hm0 hLx rfl rfl hka hBx l [] _ _ (by simpa using hz) (fun p hp => ?_) (by simpa using hnd) hB2 hns2 e2 ?_ ?_
  · obtain ⟨h1, h2', h3⟩ := hml p hp
    exact ⟨h1, h2', hkf _ h1, h3, hsp p hp _ _ _⟩
  · rintro dx ⟨fv, e⟩
    have e2' : h2.get? x = some (excO C t1) := e2
    have e' : h2.get? x = some { cls := .ref C, dict := some dx, data := .fields fv } := e
    rw [e2'] at e'
    cases e'
  · intro h3 tk3 hB3 hm3 hd3
    exact h h3 tk3 t1 hB3 (by simpa using hm3) fun dx e => (hd3 dx e).2
/-- what __init__ is told to be, for all addresses -/
structure Ini (prog : Program) (K : Frag) (fI : Addr) (fs : List Str) (qual : Str) (params : Arguments) (body : List Stmt) (q : Ps) (msg : Str) (j : Nat) (l : List (Str × (Pos × Pos × Pos × Pos))) : Prop where
  bd : body = yFirst q msg j :: l.map fun p => yPut p.1 p.2
  par : ∃ ps : List (Str × Pos), params = yArgs ps ∧ (ps.map (·.1)).head? = some ("self" : Str)
  fl : l.map (·.1) = fs
  nd : (("self" : Str) :: fs).Nodup
  sz : fs.length ≤ 2
  bind : ∀ (us : List Value), us.length = fs.length + 1 → ∀ (doc pm : Value) (an : Option Addr) (cda : Addr) (ct : Value) (cc : Addr), bindArgs (ksFn "__init__" qual params body (yScope fs) .none .none doc pm an (.ref cda) ct cc) ⟨us, []⟩ = pure ((("self" : Str) :: fs).zip us)
  loc : ∀ f ∈ ("self" : Str) :: fs, (yScope fs).names.lookup f = some .local
  cell : ∀ z ∈ (yScope fs).names, z.2 ≠ .cell
  dbg : ∀ f ∈ fs, (f == ("__debug__" : Str)) = false
  top : (prog.main.scope.names.lookup ("super" : Str)).isSome = false
  ks : (yScope fs).names.lookup ("super" : Str) = some .globalImplicit
  kc : (yScope fs).names.lookup ("__class__" : Str) = some .free
  sw : ∀ (L : Addr) (cda : Value) (cc : Addr), swapsWith (.Call (.Attribute (.Call (.Name "super" q.p0) [] [] q.p1) "__init__" q.p2) [.Constant (.str msg) j q.p3] [] q.p4) none q.p5.line (ksEnv qual (yScope fs) L fI cda cc) = pure false
  ev : ∀ (L : Addr) (cda : Value) (cc : Addr), eval (.Call (.Attribute (.Call (.Name "super" q.p0) [] [] q.p1) "__init__" q.p2) [.Constant (.str msg) j q.p3] [] q.p4) (ksEnv qual (yScope fs) L fI cda cc) = (do
      let ov ← attributeBase (.Call (.Name "super" q.p0) [] [] q.p1) "__init__" (ksEnv qual (yScope fs) L fI cda cc) (eval (.Call (.Name "super" q.p0) [] [] q.p1) (ksEnv qual (yScope fs) L fI cda cc))
      standAt q.p2.atName
      let (f, first) ← holding [ov] (getMethod ov "__init__" (pure false))
      callWith q.p4 f first (backTo q.p4 (starEach [.Constant (.str msg) j q.p3] (ksEnv qual (yScope fs) L fI cda cc))) [])
  sp : ∀ p ∈ l, ∀ (L : Addr) (cda : Value) (cc : Addr), swapsWith (.Name p.1 p.2.2.2.1) (some (.Attribute (.Name "self" p.2.1) p.1 p.2.2.1)) p.2.2.2.2.line (ksEnv qual (yScope fs) L fI cda cc) = pure false
theorem lookup_rev {α : Type} : ∀ {l : List (Str × α)} {p : Str × α}, (l.map (·.1)).Nodup → p ∈ l → l.reverse.lookup p.1 = some p.2 := by
  intro l p hnd hp
  have key : ∀ (l : List (Str × α)), (l.map (·.1)).Nodup → p ∈ l → l.lookup p.1 = some p.2 := by
    intro l
    induction l with
    | nil => intro _ h; cases h
    | cons a r ih =>
      intro hn h
      obtain ⟨a1, a2⟩ := a
      have hn' : a1 ∉ r.map (·.1) ∧ (r.map (·.1)).Nodup := by simpa using hn
      rcases List.mem_cons.mp h with e | h
      · subst e
        simp [List.lookup]
      · have ne : ¬ p.1 = a1 := fun e => hn'.1 (by rw [← e]; exact List.mem_map_of_mem h)
        have q2 : (p.1 == a1) = false := by simpa using ne
        simp only [List.lookup, q2]
        exact ih hn'.2 h
  refine key _ ?_ (List.mem_reverse.mpr hp)
  rw [List.map_reverse]
  exact List.pairwise_reverse.mpr (List.Pairwise.imp (fun h => Ne.symm h) hnd)
theorem zip_fst {α : Type} : ∀ {l : List Str} {us : List α}, l.length = us.length → (l.zip us).map (·.1) = l
  | [], [], _ => rfl
  | [], _ :: _, h => by cases h
  | _ :: _, [], h => by cases h
  | a :: l, u :: us, h => by
    show a :: (l.zip us).map (·.1) = a :: l
    rw [zip_fst (by simpa using h)]
theorem made_ok (T : Txt prog K C fI fs qual params body) {q : Ps} {msg : Str} {j : Nat} {l : List (Str × (Pos × Pos × Pos × Pos))} (Z : Ini prog K fI fs qual params body q msg j l) {vs : List Value} (hvl : vs.length = fs.length)
    (X : K.In s.heap) (hlim : s.heap.NoLimit) (G : Glb mg mb s.heap) (hroom : A.depth + 1 < recursionLimit)
    (hq : ∀ h' tk e t1, (∀ b o, s.heap.get? b = some o → h'.get? b = some o) → s.heap.objs.size ≤ e → Made h' e C t1 (fs.zip vs) → (∀ dx, (∃ fv, h'.get? e = some { cls := .ref C, dict := some dx, data := .fields fv }) → s.heap.objs.size ≤ dx) → R (.ok (.ret (.ref e))) { s with heap := h', toks := tk }) :
    codeAny (model prog w) A (.call (.ref C) ⟨vs, []⟩) R s := by
  obtain ⟨nm, qn, N, bs, bm, sn, sub, ab, col, dd, k0, k1, k2, k3, k5, hC, hbm⟩ := T.cls
  obtain ⟨hp, g, dr, tk, os⟩ := s
  have k : ∀ b o, hp.get? b = some o → ((hp.push (kdv_tup vs)).push (excO C hp.objs.size)).get? b = some o := fun b o e => Heap.get?_push_of_some _ (Heap.get?_push_of_some _ e)
  have hget : ((hp.push (kdv_tup vs)).push (excO C hp.objs.size)).get? (hp.objs.size + 1) = some (excO C hp.objs.size) := by heap_get
  have hnb : hp.get? (hp.objs.size + 1) = none := by
    cases e : hp.get? (hp.objs.size + 1) with
    | none => rfl
    | some o => exact absurd (Nat.lt_of_succ_lt (Heap.lt_size e)) (Nat.lt_irrefl _)
  have hnx : K.lookup (hp.objs.size + 1) = none := by
    cases e : K.lookup (hp.objs.size + 1) with
    | none => rfl
    | some o =>
      have z : hp.get? (hp.objs.size + 1) = some o := X _ _ e
      rw [hnb] at z
      cases z
  have hsz : vs.length ≤ sizeLine := by
    rw [hvl, sizeLine_eq]
    have := Z.sz
    omega
  refine call_own F.excBase_ValueError (fun X => refsVE_contains X bm hbm) (X _ _ hC) (looks_findIn X T.iC) (fun self => bind_fn X self T.tC) hsz ?_
  -- the values beside their names
  have hlen : (("self" : Str) :: fs).length = (Value.ref (hp.objs.size + 1) :: vs).length := by simp [hvl]
  have hbm1 : ((("self" : Str) :: fs).zip (Value.ref (hp.objs.size + 1) :: vs)).map (·.1) = ("self" : Str) :: fs := zip_fst hlen
  have hndb : (((("self" : Str) :: fs).zip (Value.ref (hp.objs.size + 1) :: vs)).map (·.1)).Nodup := by rw [hbm1]; exact Z.nd
  -- l with values
  obtain ⟨l2, hl2, hl2n, hl2v⟩ : ∃ l2 : List (Str × Value × (Pos × Pos × Pos × Pos)), l2.map (fun p => (p.1, p.2.2)) = l ∧ l2.map (fun p => (p.1, p.2.1)) = fs.zip vs ∧ l2.length = l.length := by
    have hl : l.length = vs.length := by rw [hvl, ← Z.fl, List.length_map]
    have fl := Z.fl
    clear hnx hsz hlen hbm1 hndb hget k
    rw [← fl]
    clear fl hvl hq T Z
    induction l generalizing vs with
    | nil =>
      cases vs with
      | nil => exact ⟨[], rfl, rfl, rfl⟩
      | cons _ _ => cases hl
    | cons a r ih =>
      cases vs with
      | nil => cases hl
      | cons u us =>
        obtain ⟨l2, h1, h2, h3⟩ := ih (by simpa using hl)
        exact ⟨(a.1, u, a.2) :: l2, by simp [h1], by simp [h2], by simp [h3]⟩
  have key : ∀ p ∈ l2, (p.1, p.2.1) ∈ (("self" : Str) :: fs).zip (Value.ref (hp.objs.size + 1) :: vs) := fun p hp => by
    have : (p.1, p.2.1) ∈ fs.zip vs := by
      rw [← hl2n]
      exact List.mem_map_of_mem (f := fun p : Str × Value × (Pos × Pos × Pos × Pos) => (p.1, p.2.1)) hp
    exact List.mem_cons_of_mem _ this
  have fin : ∀ p ∈ l2, p.1 ∈ fs := fun p hp => by
    rw [← Z.fl, ← hl2, List.map_map]
    exact List.mem_map_of_mem (f := fun p : Str × Value × (Pos × Pos × Pos × Pos) => p.1) hp
  have names2 : l2.map (·.1) = fs := by
    rw [← Z.fl, ← hl2]
    simp
  refine init_ok (s := ⟨(hp.push (kdv_tup vs)).push (excO C hp.objs.size), g, dr, tk, os⟩) (l := l2) (q := q) (msg := msg) (j := j) (binds := (("self" : Str) :: fs).zip (Value.ref (hp.objs.size + 1) :: vs)) T ?_ Z.par (X.keeps k) (hlim.keeps k) (G.keeps k) hget hnx hp hnb k X ?_ (fun doc pm an cda ct cc => Z.bind _ (by simp [hvl]) doc pm an cda ct cc) ?_ ?_ ?_ ?_ ?_ Z.cell Z.top Z.ks Z.kc (Z.loc _ List.mem_cons_self) (fun f hf => Z.loc f (List.mem_cons_of_mem _ hf)) Z.sw Z.ev ?_ ?_
  · rw [Z.bd, ← hl2]
    simp
  · show A.depth + 1 < recursionLimit
    exact hroom
  · intro y hy
    refine Z.loc _ ?_
    rw [← hbm1]
    exact List.mem_map_of_mem hy
  · exact lookup_rev (p := (("self" : Str), Value.ref (hp.objs.size + 1))) hndb List.mem_cons_self
  · intro p hp
    exact ⟨fin p hp, lookup_rev (p := (p.1, p.2.1)) hndb (key p hp), Z.dbg _ (fin p hp)⟩
  · rw [names2]
    have := Z.nd
    simp at this
    exact this.2
  · rw [hl2v, ← List.length_map (f := (·.1)) (as := l), Z.fl]
    exact Z.sz
  · intro p hp L cda cc
    have := Z.sp (p.1, p.2.2) (by rw [← hl2]; exact List.mem_map_of_mem (f := fun p : Str × Value × (Pos × Pos × Pos × Pos) => (p.1, p.2.2)) hp) L cda cc
    exact this
  · intro h' tk' t1 k' m' d'
    rw [hl2n] at m'
    refine ⟨rfl, hq h' tk' _ t1 k' (Nat.le_succ _) m' fun dx e => ?_⟩
    have z := d' dx e
    rw [Heap.size_push, Heap.size_push] at z
    exact Nat.le_of_lt (Nat.lt_trans (Nat.lt_succ_of_lt (Nat.lt_succ_self _)) z)
end
end YX
end PySem
set_option maxHeartbeats 4000000
/-! own errors over the layer: raised, caught, asked for their class, read -/
namespace Y
open PySem L2
/-- what the written part tells of an own error class and its making -/
structure Err (P : Program) (K : PySem.W.Frag) (mg : Str → Option Value) (x : Str) (fs : List Str) : Prop where
  g : mg x = some (.ref (He.ga K x))
  t : ∃ (fI : Addr) (qual : Str) (params : Arguments) (body : List Stmt) (q : YX.Ps) (msg : Str) (j : Nat) (l : List (Str × (Pos × Pos × Pos × Pos))), YX.Txt P K (He.ga K x) fI fs qual params body ∧ YX.Ini P K fI fs qual params body q msg j l
  kp : PySem.W.keepIn K (.ref (He.ga K x)) = true
  ex : PySem.W.subIn K (.ref (He.ga K x)) (.type "BaseException") = some true
  ty : PySem.W.typeIn K (.ref (He.ga K x)) = some (.type "type")
  no : mg "super" = none
section
variable {X : Cx} {x : Str} {fs : List Str}
theorem glb_of {pins : List (Addr × Obj)} {σ : L2.St} {H : Hp} {s : Shared} (I : Inv X pins σ H s) (no : X.mg "super" = none) : ∃ mb, YX.Glb X.mg mb s.heap := by
  obtain ⟨mb, hb, h⟩ := I.mod.blt
  exact ⟨mb, I.mod.glob.keeps I.bk, hb.keeps I.bk, no, by rw [h _ (by decide +kernel)]; decide +kernel⟩
/-- X(..): a new error and, where it has fields, its dict -/
def tMkE (C : Addr) (fs : List Str) (ta : TA) : L2.St → Hp → XK → Prop := fun σ H Q => ta σ H fun vs H1 => vs.length = fs.length ∧ (fs = [] → Q (.ref C) none H1) ∧ (fs ≠ [] → ∀ d, H1 d = none → Q (.ref C) (some d) (upd H1 d (.xd (fs.zip vs))))
theorem relO_zip {K' : Nat} : ∀ {fs : List Str} {vs : List V} {us : List Value} (f : Str), Vals vs us → RelO ((fs.zip vs).lookup f) ((fs.zip us).lookup f)
  | [], _, _, f, _ => trivial
  | a :: fs, _, _, f, .nil => trivial
  | a :: fs, _, _, f, .cons (a := v) (b := u) r t => by
    simp only [List.zip_cons_cons, List.lookup_cons]
    cases q : (f == a) with
    | true => exact r
    | false => exact relO_zip (K' := K') f t
theorem mkE {pins : List (Addr × Obj)} {σ : L2.St} {H1 : Hp} {s1 : Shared} {Q : XK} {vs : List V} {us : List Value} (Z : Err X.prog X.K X.mg x fs) {k : Nat} (hr : Room k X.A) (I1 : Inv X pins σ H1 s1) (r : Vals vs us)
    (h : vs.length = fs.length ∧ (fs = [] → Q (.ref (He.ga X.K x)) none H1) ∧ (fs ≠ [] → ∀ d, H1 d = none → Q (.ref (He.ga X.K x)) (some d) (upd H1 d (.xd (fs.zip vs))))) :
    wpAny (model X.prog X.w) X.A (call (.ref (He.ga X.K x)) us) (L2N.MkP X pins σ Q) X.xe s1 := by
  obtain ⟨fI, qual, params, body, q, msg, j, l, T, N⟩ := Z.t
  obtain ⟨hl, h0, h1⟩ := h
  obtain ⟨mb, G⟩ := glb_of I1 Z.no
  have hlim := I1.nolimit
  obtain ⟨hp, g, dr, tk, os⟩ := s1
  refine wpAny_call (YX.made_ok T N (by rw [← r.length]; exact hl) I1.kIn hlim G (by have := hr.dp; omega) fun h' tk' e t1 keep new M dn => ?_)
  show L2N.MkP X pins σ Q (.ref e) ⟨h', g, dr, tk', os⟩
  cases fs with
  | nil =>
    have he : h'.get? e = some (HandSPX.excO (He.ga X.K x) t1) := by
      have : us = [] := by
        have e := r.length
        rw [hl] at e
        cases us with
        | nil => rfl
        | cons _ _ => cases e
      subst this
      exact M
    have hn : hp.get? e = none := by
      cases z : hp.get? e with
      | none => rfl
      | some o => exact absurd (Heap.lt_size z) (Nat.not_lt.mpr new)
    exact ⟨e, _, _, ⟨hp, g, dr, tk, os⟩, H1, _, none, rfl, I1, keep, hn, he, ⟨rfl, rfl, fun vs e => by cases e; rfl⟩, rfl, rfl, I1.hok.fresh new, rfl, I1.bare, raises_own Z.ex Z.ty, h0 rfl⟩
  | cons f fr =>
    obtain ⟨u, ur, rfl⟩ : ∃ u ur, us = u :: ur := by
      have e := r.length
      rw [hl] at e
      cases us with
      | nil => cases e
      | cons u ur => exact ⟨u, ur, rfl⟩
    obtain ⟨d, hoe, dne, hns⟩ : YX.Made h' e (He.ga X.K x) t1 ((f, u) :: fr.zip ur) := M
    have dbig := dn d ⟨_, hoe⟩
    obtain ⟨G', g1, g2⟩ := restrict h' fun b => decide (b ≠ e)
    have gk : ∀ b, b ≠ e → G'.get? b = h'.get? b := fun b hb => g1 b (decide_eq_true hb)
    have ge : G'.get? e = none := g2 e (by simp)
    have old : ∀ b o, hp.get? b = some o → G'.get? b = some o := fun b o q => (gk b (Nat.ne_of_lt (Nat.lt_of_lt_of_le (Heap.lt_size q) new))).trans (keep b o q)
    have ob : ObjOk X.prog X.w (upd H1 d (.xd ((f :: fr).zip vs))) G' d (.xd ((f :: fr).zip vs)) := ⟨_, hns.at (fun o q => (gk d dne).trans q), fun y => relO_zip (K' := 0) y r⟩
    have J : Inv X pins σ (upd H1 d (.xd ((f :: fr).zip vs))) ⟨G', g, dr, tk', os⟩ := I1.laid (t' := tk') old dbig ob
    refine ⟨e, _, _, ⟨G', g, dr, tk', os⟩, _, _, some d, rfl, J, fun b o q => ?_, ge, hoe, ⟨rfl, rfl, fun vs e => by cases e; rfl⟩, rfl, rfl, ?_, rfl, I1.bare, raises_own Z.ex Z.ty, h1 (List.cons_ne_nil _ _) d (I1.hok.fresh dbig)⟩
    · by_cases hb : b = e
      · have q' : G'.get? b = some o := q
        rw [hb, ge] at q'
        cases q'
      · exact (gk b hb).symm.trans q
    · rw [upd_ne (Ne.symm dne)]
      exact I1.hok.fresh new
theorem pmk_y {e : Expr} {es : List Expr} {ta : TA} {p pos : Pos} {k : Nat} (Z : Err X.prog X.K X.mg x fs) (hr : Room k X.A) (ha : PA X (e :: es) ta) (hg : Gl X x := by rfl) (hdb : (x == ("__debug__" : Str)) = false := by decide)
    (he : starEach (e :: es) X.env = (false, eval e X.env) :: starEach es X.env := by rfl) (hpl : (backTo pos (starEach es X.env)).any (·.1) = false := by rfl) : L2N.PMk X (.Call (.Name x p) (e :: es) [] pos) (tMkE (He.ga X.K x) fs ta) := by
  intro pins s σ H Q I h
  refine wpAny_Call_Name_kw (ld_glob I hg Z.g ?_ hdb)
  refine PySem.W.callWith_K (h₀ := X.base) I.ok.mod.kin Z.kp (thn (ha.run pos pins s σ H _ I h) fun us s1 hh => ?_) he hpl
  obtain ⟨vs, H1, I1, r1, q1⟩ := hh
  exact ⟨I1.kIn, mkE Z hr I1 r1 q1⟩
theorem pmk_y0 {p pos : Pos} {k : Nat} (Z : Err X.prog X.K X.mg x fs) (hr : Room k X.A) (hg : Gl X x := by rfl) (hdb : (x == ("__debug__" : Str)) = false := by decide) : L2N.PMk X (.Call (.Name x p) [] [] pos) (tMkE (He.ga X.K x) fs tNil) := by
  intro pins s σ H Q I h
  refine wpAny_Call_Name_kw (ld_glob I hg Z.g ?_ hdb)
  exact PySem.W.callWith_K0 I.kIn Z.kp (mkE Z hr I .nil h)
def tRaiseE (C : Addr) (fs : List Str) (W : WX) (ta : TA) : TS := fun _ σ H => tMkE C fs ta σ H fun cls d H' => W cls d σ H'
theorem ps_raiseY {e : Expr} {ta : TA} {W : WX} {pos : Pos} (hc : X.calm = true) (tk : L2N.Takes X W) (h : L2N.PMk X e (tMkE (He.ga X.K x) fs ta)) : PS X (.Raise (some e) none pos) (tRaiseE (He.ga X.K x) fs W ta) := L2N.ps_raise hc tk h

/-! ### isinstance of a caught error -/
structure ErrI (K : PySem.W.Frag) (D : Addr) : Prop where
  hc : (PySem.W.clsIn K D).isSome = true
  hg : PySem.W.findIn K (.ref D) "__getattribute__" = some (some (.builtin "BaseException.__getattribute__"))
  hk : PySem.W.findIn K (.ref D) "__getattr__" = some none
  hs : PySem.W.subIn K (.ref D) (.type "BaseException") = some true
  ha : PySem.W.findIn K (.ref D) "__class__" = some (some (.builtin "object.__class__"))
  hn : PySem.W.specialIn K (.builtin "object.__class__") "__get__" = some (some (.builtin "getset_descriptor.__get__"))
  ht : PySem.W.takesIn K (.builtin "object.__class__") = some true
  hm : PySem.W.mroIn K D (.type "object") = some true
/-- the exception at a, of the class cls, its dict at d -/
def DOk (d : Option Addr) (H : Hp) : Prop := d = none ∨ ∃ dx fs, d = some dx ∧ H dx = some (.xd fs)
def rIsX (K : PySem.W.Frag) (cls : Value) (d : Option Addr) (a : Addr) : List V → Hp → VK → Prop := fun xs H Q => ∃ (D : Addr) (c : V) (cv : Value) (b : Bool), cls = .ref D ∧ ErrI K D ∧ xs = [.ref a, c] ∧ (∀ u, RelV c u → u = cv) ∧ PySem.W.kitOne K (.ref D) cv = some b ∧ DOk d H ∧ Q (.bl b) H
theorem call_isX {a : Addr} {oe : Obj} {cls : Value} {d : Option Addr} {pn : List (Addr × Obj)} (hz : L2N.Zn cls d oe) (hf : ∃ vs, oe.data = .fields vs) : CallR (X.suite a ((a, oe) :: pn)) (.builtin "isinstance") (rIsX X.K cls d a) := by
  intro pins s σ H xs us Q I r h
  obtain ⟨D, c, cv, b, rfl, C, rfl, hcv, e, hd, q⟩ := h
  cases r with
  | cons rx rr =>
    cases rr with
    | cons rt rr =>
      cases rr
      cases rx
      have ec := hcv _ rt
      subst ec
      obtain ⟨hget, _⟩ := I.pin (a, oe) (List.mem_append.mpr (.inl List.mem_cons_self))
      obtain ⟨vs, hv⟩ := hf
      obtain ⟨od, J⟩ : ∃ od, PySem.W.InstAt s.heap a oe D od := by
        obtain ⟨oc, odd, oda, osl⟩ := oe
        obtain ⟨h1, h2, _⟩ := hz
        dsimp only at h1 h2 hv
        subst h1 h2 hv
        rcases hd with rfl | ⟨dx, fs, rfl, hx⟩
        · exact ⟨none, hget, rfl, rfl, trivial⟩
        · obtain ⟨mA, hns, _⟩ := I.hok dx _ hx
          obtain ⟨o, ho, _⟩ := lookIn_ns hns
          exact ⟨some o, hget, rfl, rfl, ho⟩
      exact PySem.W.kia_one (PySem.W.kitx_exc C.hc C.hg C.hk C.hs C.ha C.hn C.ht C.hm) I.kIn J e (fun z => nomatch z) fun tk => ⟨.bl b, H, I.kept (t' := tk) fun _ _ z => z, rfl, q⟩
/-! ### xs.count(True) -/
def rCntB (K : PySem.W.Frag) : V → List V → Hp → VK → Prop := fun x xs H Q => ∃ (p : Addr) (bs : List Bool) (k : Bool), x = .ref p ∧ xs = [.bl k] ∧ SqL K H p (bs.map V.bl) ∧ Q (.int (bs.count k : Nat)) H
theorem cntB : ∀ {bs : List Bool} {us : List Value} (k : Bool), Vals (bs.map V.bl) us → us.countP (PyProof.Rows.isBoolOf k) = bs.count k
  | [], _, k, r => by
    cases r
    rfl
  | b :: bs, _, k, r => by
    rw [List.map_cons] at r
    cases r with
    | cons r1 r2 =>
      have e : _ = Value.bool b := r1
      subst e
      rw [List.countP_cons, List.count_cons, cntB k r2]
      rfl
theorem cntB_eq : ∀ {bs : List Bool} {us : List Value} (k : Bool), Vals (bs.map V.bl) us → ∀ y ∈ us, ∀ (A : Around) (s : Shared), SeqAt.EqAt A s y (.bool k) (PyProof.Rows.isBoolOf k y)
  | [], _, k, r => by
    cases r
    intro y hy
    cases hy
  | b :: bs, _, k, r => by
    rw [List.map_cons] at r
    cases r with
    | cons r1 r2 =>
      have e : _ = Value.bool b := r1
      subst e
      intro y hy A s
      rcases List.mem_cons.mp hy with e | hy
      · rw [e]
        exact SeqAt.EqAt.bool_bool b k
      · exact cntB_eq k r2 y hy A s
theorem mt_countB : MtR X "list.count" (rCntB X.K) := by
  intro pins s σ H y xs v us Q I rx rxs h
  obtain ⟨p, bs, k, rfl, rfl, hs, q⟩ := h
  cases rx
  cases rxs with
  | cons r1 r2 =>
    cases r2
    have e : _ = Value.bool k := r1
    subst e
    obtain ⟨its, rv, ⟨⟨cls, dd, data, sl⟩, n, ho, hc, hdn, hd⟩, hlen⟩ := I.list hs
    simp only at hc hd
    subst hc hd
    refine call_meets PySem.F.slot_list_count ⟨_, ho, rfl⟩ PySem.F.entry_list_count (PySem.F.args_list_count_2 _ _) (SeqAt.list_countAt p its.toArray n dd sl (.bool k) (PyProof.Rows.isBoolOf k)) ⟨ho, fun y hy => cntB_eq k rv y (by simpa using hy) _ _, ?_⟩
    refine ⟨.int (bs.count k : Nat), H, I.tok _, ⟨s.toks, ?_⟩, q⟩
    show Value.int ((its.toArray.toList.countP (PyProof.Rows.isBoolOf k) : Nat) : Int) s.toks = Value.int ((bs.count k : Nat) : Int) s.toks
    rw [show its.toArray.toList = its from rfl, cntB k rv]
end
end Y
set_option maxHeartbeats 4000000
namespace Y
open PySem L2
section
variable {K : PySem.W.Frag} {Γ Γ1 Γ2 Γ3 : List Sl} {d x y z : D} {A : Amb} {pin : Option Addr} {E : Ends} {P : L2.St → Hp → Prop} {ta tb te tv : TE} {tr : TA} {c : TT} {b : Bool}

/-! ### isinstance -/
/-- a class named in the text -/
theorem ev_cls {C : Addr} : Ev K (tC (.ref C)) Γ Γ (.exc C none [] []) := fun _ _ σ B H S _ q => q _ B H S (Same.refl B) .exc0
def tyD (K : PySem.W.Frag) : D → Option Value
  | .non => some (.type "NoneType") | .bl _ => some (.type "bool") | .int _ => some (.type "int") | .str _ => some (.type "str")
  | .lst _ => some (.type "list") | .tup _ => some (.type "tuple") | .obj x _ _ => some (.ref (He.ga K x))
  | _ => none
/-- what an own class must tell -/
structure IsC (K : PySem.W.Frag) (C : Addr) : Prop where
  cl : Cls K C
  ha : PySem.W.findIn K (.ref C) "__class__" = some (some (.builtin "object.__class__"))
  hn : PySem.W.specialIn K (.builtin "object.__class__") "__get__" = some (some (.builtin "getset_descriptor.__get__"))
  ht : PySem.W.takesIn K (.builtin "object.__class__") = some true
  hm : PySem.W.mroIn K C (.type "object") = some true
def okTy (K : PySem.W.Frag) : D → Prop
  | .obj x _ _ => IsC K (He.ga K x)
  | _ => True
theorem At.ty' {B H : Hp} {v : V} {t : Value} (h : At K B v x) (e : tyD K x = some t) (o : okTy K x) (bh : Same B H) : TyX K H v t := by
  cases h with
  | non => cases e; exact .base .non
  | bl b => cases e; exact .base (.bl b)
  | int b => cases e; exact .base (.int b)
  | str b => cases e; exact .base (.str b)
  | ty b => cases e
  | tup hh r =>
    cases e
    rcases hh with (hh | ⟨o, hh⟩) | hh
    · exact .base (.tup (bh _ _ hh))
    · exact .fTuple (bh _ _ hh)
    · obtain ⟨o, its, n, h1, h2, _⟩ := hh
      exact .kTuple h1 h2
  | lst hh r => cases e; exact .base (.lst (bh _ _ hh))
  | lsr hh r => cases e
  | obj hh hl r => cases e; exact .base (.ins (bh _ _ hh) o.cl o.ha o.hn o.ht o.hm)
  | dic hh hl r => cases e
  | exc0 => cases e
  | exc1 _ _ _ => cases e
theorem ev_isi {n : String} {t : Value} (h : Ev K ta Γ Γ1 x) (ht : tyD K x = some t) (o : okTy K x) (e : PySem.W.kitOne K t (.type n) = some b) : Ev K (tCB (rIsi K) (tCons ta (tCons (tC (.ty n)) tNil))) Γ Γ1 (.bl b) := fun B0 F σ B H S Q q => h B0 F σ B H S _ fun v B1 H1 S1 s1 a1 =>
  ⟨v, .ty n, t, .type n, b, rfl, .ty n, a1.ty' ht o S1.bh, e, q _ B1 H1 S1 s1 (.bl b)⟩
theorem ev_isiC {C : Addr} {t : Value} (h : Ev K ta Γ Γ1 x) (ht : tyD K x = some t) (o : okTy K x) (e : PySem.W.kitOne K t (.ref C) = some b) : Ev K (tCB (rIsi K) (tCons ta (tCons (tC (.ref C)) tNil))) Γ Γ1 (.bl b) := fun B0 F σ B H S Q q => h B0 F σ B H S _ fun v B1 H1 S1 s1 a1 =>
  ⟨v, .ref C, t, .ref C, b, rfl, .own C, a1.ty' ht o S1.bh, e, q _ B1 H1 S1 s1 (.bl b)⟩
/-- of the error that a suite holds -/
theorem dok_of {B H : Hp} {a : Addr} {d : Option Addr} {ns : List Str} {ds : List D} (h : At K B (.ref a) (.exc a d ns ds)) (bh : Same B H) : DOk d H := by
  cases h with
  | exc0 => exact .inl rfl
  | exc1 hh _ _ => exact .inr ⟨_, _, rfl, bh _ _ hh⟩
theorem ev_isX {a : Addr} {d : Option Addr} {ns : List Str} {ds : List D} {cx : Str} {v' : V} {u' : Value} (h : Ev K ta Γ Γ1 (.exc a d ns ds)) (ha : ∀ B v, At K B v (.exc a d ns ds) → v = .ref a) (hC : ErrI K (He.ga K cx)) (hv : (v' = .ty "ValueError" ∧ u' = .type "ValueError") ∨ ∃ C, v' = .ref C ∧ u' = .ref C) (e : PySem.W.kitOne K (.ref (He.ga K cx)) u' = some b) :
    Ev K (tCB (rIsX K (.ref (He.ga K cx)) d a) (tCons ta (tCons (tC v') tNil))) Γ Γ1 (.bl b) := fun B0 F σ B H S Q q => h B0 F σ B H S _ fun v B1 H1 S1 s1 a1 => by
  have ev := ha _ _ a1
  subst ev
  refine ⟨_, v', u', b, rfl, hC, rfl, ?_, e, dok_of a1 S1.bh, q _ B1 H1 S1 s1 (.bl b)⟩
  intro u r
  rcases hv with ⟨rfl, rfl⟩ | ⟨C, rfl, rfl⟩
  · exact r
  · exact r
theorem exc_ref {a : Addr} {d : Option Addr} {ns : List Str} {ds : List D} : ∀ (B : Hp) (v : V), At K B v (.exc a d ns ds) → v = .ref a := fun B v h => by
  cases h <;> rfl
theorem ev_xf {a : Addr} {d : Option Addr} {ns : List Str} {ds : List D} {C : Addr} {f : Str} {cls : Value} (h : Ev K te Γ Γ1 (.exc a d ns ds)) (hc : cls = .ref C) (hl : (ns.zip ds).lookup f = some z) : Ev K (tXf a cls d C f te) Γ Γ1 z := fun B0 F σ B H S Q q => h B0 F σ B H S _ fun v B1 H1 S1 s1 a1 => by
  cases a1 with
  | exc0 => simp at hl
  | exc1 hh hl2 r =>
    obtain ⟨w, e, aw⟩ := r.lookup hl
    exact ⟨rfl, hc, _, _, w, rfl, S1.bh _ _ hh, e, q w B1 H1 S1 s1 aw⟩
theorem ev_cntB {ta : TE} {l : List Bool} {k : Bool} (h : Ev K ta Γ Γ1 (.lst (l.map .bl))) : Ev K (tBM K "list" (rCntB K) ta (tCons (tC (.bl k)) tNil)) Γ Γ1 (.int (l.count k : Nat)) := fun B0 F σ B H S Q q => h B0 F σ B H S _ fun v B1 H1 S1 s1 a1 => by
  cases a1 with
  | lst hh r =>
    have e := r.bls
    subst e
    exact ⟨.inl ⟨rfl, _, SqL.of (S1.bh _ _ hh)⟩, _, l, k, rfl, rfl, SqL.of (S1.bh _ _ hh), q _ B1 H1 S1 s1 (.int _)⟩

/-! ### == of data -/
mutual
def pd : D → PyData
  | .non => .none | .bl b => .bool b | .int i => .int i | .str s => .str s
  | .tup l => .tuple (pds l) | .lst l => .list (pds l)
  | .ty _ => .none | .lsr _ => .none | .obj _ _ _ => .none | .dic _ _ => .none | .exc _ _ _ _ => .none
def pds : List D → List PyData
  | [] => []
  | d :: r => pd d :: pds r
end
mutual
def plain : D → Bool
  | .non => true | .bl _ => true | .int _ => true | .str _ => true
  | .tup l => plains l | .lst l => plains l
  | .ty _ => false | .lsr _ => false | .obj _ _ _ => false | .dic _ _ => false | .exc _ _ _ _ => false
def plains : List D → Bool
  | [] => true
  | d :: r => plain d && plains r
end
mutual
theorem At.dp {B H : Hp} (bh : Same B H) {v : V} {d : D} (h : At K B v d) (p : plain d = true) : Dp K H v (pd d) := by
  cases h with
  | non => exact .non
  | bl b => exact .bl b
  | int b => exact .int b
  | str b => exact .str b
  | tup hh r =>
    rw [plain] at p
    rw [pd]
    exact .tup (same_t bh hh) (Ats.dp bh r p)
  | lst hh r =>
    rw [plain] at p
    rw [pd]
    exact .lst (SqL.of (bh _ _ hh)) (Ats.dp bh r p)
  | _ => rw [plain] at p; cases p
theorem Ats.dp {B H : Hp} (bh : Same B H) {vs : List V} {ds : List D} (h : Ats K B vs ds) (p : plains ds = true) : DpAll K H vs (pds ds) := by
  cases h with
  | nil => exact .nil
  | cons h r =>
    rw [plains, Bool.and_eq_true] at p
    rw [pds]
    exact .cons (At.dp bh h p.1) (Ats.dp bh r p.2)
end
theorem rv_eqD (hx : plain x = true) (hy : plain y = true) (sx : SeqAt.shaped (pd x) = true) (sy : SeqAt.shaped (pd y) = true) : RV K (rEqD K) x y (.bl (PyData.eqv (pd x) (pd y))) := fun B H vx vy bh ax ay Q q => ⟨_, _, ax.dp bh hx, ay.dp bh hy, sx, sy, q _ (.bl _)⟩
theorem rv_neD (hx : plain x = true) (hy : plain y = true) (sx : SeqAt.shaped (pd x) = true) (sy : SeqAt.shaped (pd y) = true) : RV K (rNeD K) x y (.bl (!PyData.eqv (pd x) (pd y))) := fun B H vx vy bh ax ay Q q => ⟨_, _, ax.dp bh hx, ay.dp bh hy, sx, sy, q _ (.bl _)⟩

/-! ### errors -/
/-- te lets the error out, by its wish W -/
def EvX (K : PySem.W.Frag) (W : WX) (te : TE) (Γ Γ' : List Sl) (x : Str) (ns : List Str) (ds : List D) : Prop := ∀ (B0 F : Hp) (σ : L2.St) (B H : Hp), Sat ⟨K, B0, F⟩ Γ σ B H → (∀ dx B' H', Sat ⟨K, B0, F⟩ Γ' σ B' H' → Same B B' → XAt K B' dx ns ds → W (.ref (He.ga K x)) dx σ H') → ∀ Q : VK, te σ H Q
def EvXA (K : PySem.W.Frag) (W : WX) (ta : TA) (Γ Γ' : List Sl) (x : Str) (ns : List Str) (ds : List D) : Prop := ∀ (B0 F : Hp) (σ : L2.St) (B H : Hp), Sat ⟨K, B0, F⟩ Γ σ B H → (∀ dx B' H', Sat ⟨K, B0, F⟩ Γ' σ B' H' → Same B B' → XAt K B' dx ns ds → W (.ref (He.ga K x)) dx σ H') → ∀ Q, ta σ H Q
variable {W : WX} {cx : Str} {ns : List Str} {ds : List D}
theorem ex_call {α : Type} {pre : α → Prop} {inn : α → List Sl} {out : α → Out} {a : α} {es : List D} {Γo : List Sl} (h : EvA K tr Γ Γ1 (es.map .v)) (hp : pre a) (hi : inn a = es.map .va) (ho : out a = .exc cx ns ds Γo) : EvX K W (tCallS (spG K pre inn out) (WE W) tr) Γ Γ1 cx ns ds := fun B0 F σ B H S w Q => h B0 F σ B H S _ fun vs B1 H1 S1 s1 a1 => by
  refine ⟨a, B1, cut B1 H1 [], B1, hp, by rw [hi]; exact call_vals S1 a1.ats, ?_⟩
  rw [ho]
  exact fun dx B2 H2 S2 s2 xa => w dx B2 H2 (S1.back S2) (s1.trans s2) xa
theorem ex_cons1 (h : EvX K W te Γ Γ1 cx ns ds) : EvXA K W (tCons te tr) Γ Γ1 cx ns ds := fun B0 F σ B H S w Q => h B0 F σ B H S w _
theorem ex_cons2 (h : Ev K te Γ Γ1 d) (r : EvXA K W tr Γ1 Γ2 cx ns ds) : EvXA K W (tCons te tr) Γ Γ2 cx ns ds := fun B0 F σ B H S w Q => h B0 F σ B H S _ fun v B1 H1 S1 s1 a1 => r B0 F σ B1 H1 S1 (fun dx B2 H2 S2 s2 xa => w dx B2 H2 S2 (s1.trans s2) xa) _
theorem ex_tup (h : EvXA K W tr Γ Γ1 cx ns ds) : EvX K W (tTup tr) Γ Γ1 cx ns ds := fun B0 F σ B H S w Q => h B0 F σ B H S w _
theorem ex_op1 {r : R2} (h : EvX K W ta Γ Γ1 cx ns ds) : EvX K W (tOp r ta tb) Γ Γ1 cx ns ds := fun B0 F σ B H S w Q => h B0 F σ B H S w _
theorem ex_cb {r : List V → Hp → VK → Prop} (h : EvXA K W tr Γ Γ1 cx ns ds) : EvX K W (tCB r tr) Γ Γ1 cx ns ds := fun B0 F σ B H S w Q => h B0 F σ B H S w _
theorem ex_callA {sp : Sp} (h : EvXA K W tr Γ Γ1 cx ns ds) : EvX K W (tCallS sp (WE W) tr) Γ Γ1 cx ns ds := fun B0 F σ B H S w Q => h B0 F σ B H S w _
/-- how the wish takes it -/
def Xw (A : Amb) (pin : Option Addr) (Γ : List Sl) (x : Str) (ns : List Str) (ds : List D) (W : WX) : Prop := ∀ (σ : L2.St) (B H : Hp) (dx : Option Addr), Sat A Γ σ B H → (∀ p, pin = some p → σ[0]? = some (some (.ref p))) → XAt A.K B dx ns ds → W (.ref (He.ga A.K x)) dx σ H
abbrev WD (E : XK) : WX := fun cls d _ H => E cls d H
theorem Xt.w {E : XK} (h : Xt A pin Γ cx ns ds E) : Xw A pin Γ cx ns ds (WD E) := h
theorem to_dropX (h : EvX A.K W te Γ Γ1 cx ns ds) (q : Xw A pin Γ1 cx ns ds W) : To A pin Γ (tDrop te E) := fun σ B H S hp => h A.B0 A.F σ B H S (fun dx B' H' S' _ xa => q σ B' H' dx S' hp xa) _
theorem to_retX (h : EvX A.K W te Γ Γ1 cx ns ds) (q : Xw A pin Γ1 cx ns ds W) : To A pin Γ (tRet te E) := fun σ B H S hp => h A.B0 A.F σ B H S (fun dx B' H' S' _ xa => q σ B' H' dx S' hp xa) _
theorem to_asgX {g : TG} (h : EvX A.K W te Γ Γ1 cx ns ds) (q : Xw A pin Γ1 cx ns ds W) : To A pin Γ (tAsg te g E) := fun σ B H S hp => h A.B0 A.F σ B H S (fun dx B' H' S' _ xa => q σ B' H' dx S' hp xa) _
theorem to_raise {fs : List Str} (h : EvA A.K tr Γ Γ1 (ds.map .v)) (hl : fs.length = ds.length) (q : Xw A pin Γ1 cx fs ds W) : To A pin Γ (tRaiseE (He.ga A.K cx) fs W tr E) := fun σ B H S hp => h A.B0 A.F σ B H S _ fun vs B1 H1 S1 s1 a1 => by
  have e := a1.ats.length
  refine ⟨by rw [e, hl], fun z => ?_, fun z d hd => ?_⟩
  · subst z
    have : ds = [] := by
      cases ds with
      | nil => rfl
      | cons _ _ => cases hl
    subst this
    exact q σ B1 H1 none S1 hp fun a => .exc0
  · exact q σ _ _ (some d) (S1.new hd) hp fun a => .exc1 upd_same (by rw [hl, e]) (a1.ats.up (S1.same hd))
/-- except X as n: the error is X's -/
theorem xw_as {C : Addr} {i : Nat} {ts : Addr → Value → Option Addr → TS} {Wout : WX} (he : PySem.W.exmOne A.K (.ref (He.ga A.K cx)) (.ref C) = some true) (hi : i ≠ 0 ∨ pin = none) (Γe : Addr → Option Addr → List Sl)
    (h : ∀ (a : Addr) (dx : Option Addr), To A pin (Γ.set i (.va (.exc a dx ns ds))) (ts a (.ref (He.ga A.K cx)) dx { nx := fun σ' H' => E.nx (σ'.set i none) H', rt := E.rt, bk := fun σ' H' => E.bk (σ'.set i none) H', ct := fun σ' H' => E.ct (σ'.set i none) H' })) :
    Xw A pin Γ cx ns ds (wAs A.K (.ref C) i ts Wout E) := fun σ B H dx S hp xa => by
  refine ⟨true, he, fun _ a na => ?_, fun z => by cases z⟩
  refine h a dx _ B H (S.set_va i (xa a)) fun p e => ?_
  rcases hi with n | n
  · rw [List.getElem?_set_ne n]
    exact hp p e
  · rw [n] at e
    cases e
end
/-! ### defs called while an error is handled -/
section
variable {P : Program} {w : World} {K : PySem.W.Frag} {mg : Str → Option Value} {base : Heap} {x qual : Str} {params : Arguments} {body : List Stmt} {scope : Scope} {f : Addr} {fd : FuncData} {N ps : List Str} {k : Nat} {α : Type} {pre : α → Prop} {vin : α → List D} {res : α → Res} {dvs : List V} {kws : List (Str × V)}
theorem ok_VH (Fn : FunD K x qual params body scope dvs kws f fd) (Sc : FnScope N ps scope) (hlen : ∀ a, pre a → (vin a).length = ps.length) {t : XK → TS} {n : Nat} (hn : N.length = ps.length + n)
    (hb : ∀ (cdv : Value) (A : Around) (outer : List Env) (s : Shared) (H : Hp) (E : XK) (p : Addr × Obj), L2H.Hot1 A p → L2H.RoomH k (A.deeper (PyProof.Rows.envOfC qual scope s.heap.objs.size f cdv)) → PSs (L2H.cxH (L2N.CX P w) P w K mg base N qual scope f cdv A outer s H E p) body (t E))
    (hr : ∀ a, pre a → ∀ (B0 F : Hp) (R : VK) (E : XK), FitV ⟨K, B0, F⟩ R E (res a) → To ⟨K, B0, F⟩ none ((vin a).map .va ++ List.replicate n .un) (t E { nx := fun _ H' => R .non H', rt := R })) :
    L2H.FnH P w K mg base (L2N.CX P w) (k + 1) f fd ps (spV K pre vin res) := by
  obtain ⟨oc, od, dV, kV, doc, pm, an, cdv, ct, osl, rfl, lk, hcd, _, _⟩ := Fn.ex
  refine L2H.fn_ofH lk hcd Sc (fun vs H Q E h => ?_) (fun A outer s H vs Q E p hot hro h => ⟨t E, hb cdv A outer s H E p hot hro, ?_⟩)
  · obtain ⟨a, B0, F, B, hp, S, _⟩ := h
    have := S.len
    rw [← hlen a hp]
    simpa using this
  · obtain ⟨a, B0, F, B, hp, S, post⟩ := h
    have hl : vs.length = ps.length := by
      have := S.len
      rw [← hlen a hp]
      simpa using this
    have e : L2.start N vs = vs.map some ++ List.replicate n none := by
      unfold L2.start
      rw [hl, hn, Nat.add_sub_cancel_left]
    rw [e]
    have S1 : Sat ⟨K, B, F⟩ ((vin a).map .va) (vs.map some) B H := ⟨Same.refl _, S.bh, S.fh, S.fb, S.len, S.sl, S.ap⟩
    refine hr a hp B F Q E ?_ _ B H (S1.more n) (fun p z => by cases z)
    cases er : res a with
    | ret d =>
      replace post : Post K B0 F B vs Q E ((res a).out ((vin a).map .va)) := post
      rw [er] at post
      exact fun Γ σ B' H' v S' _ av => post v B' H' (S.params S') S'.b0 av
    | own d =>
      replace post : Post K B0 F B vs Q E ((res a).out ((vin a).map .va)) := post
      rw [er] at post
      exact fun Γ σ B' H' v S' _ hb hf w _ => post v B' H' (S.params S') S'.b0 hb hf w fun i di hi => by
        rw [List.getElem?_map] at hi
        cases q : (vin a)[i]? <;> rw [q] at hi <;> cases hi
    | exc y ns ds =>
      replace post : Post K B0 F B vs Q E ((res a).out ((vin a).map .va)) := post
      rw [er] at post
      exact fun Γ σ B' H' dx S' _ hx => post dx B' H' (S.params S') S'.b0 hx
structure CalH (P : Program) (w : World) (K : PySem.W.Frag) (mg : Str → Option Value) (base : Heap) (x : Str) (k : Nat) (ps : List Str) (sp : Sp) : Prop where
  ok : ∃ f fd, mg x = some (.ref f) ∧ L2H.FnH P w K mg base (L2N.CX P w) k f fd ps sp ∧ Binds K fd ps [] ∧ PySem.W.keepIn K (.ref f) = true
theorem room_suite {X : Cx} {a : Addr} {pn : List (Addr × Obj)} {k : Nat} (hr : Room k X.A) : L2H.RoomH k (X.suite a pn).A := ⟨hr.dp, hr.un⟩
theorem hot_suite {X : Cx} {a : Addr} {oe : Obj} {pn : List (Addr × Obj)} {cls : Value} {d : Option Addr} (hz : L2N.Zn cls d oe) (hf : ∃ vs, oe.data = .fields vs) : L2H.HotC (X.suite a ((a, oe) :: pn)) := by
  obtain ⟨vs, e⟩ := hf
  exact ⟨(a, oe), ⟨rfl, vs, e, hz.2.2 vs e⟩, List.mem_cons_self⟩
theorem pe_calH {X : Cx} {x : Str} {p pos : Pos} {e : Expr} {es : List Expr} {t : TA} {k j : Nat} {sp : Sp} {ps : List Str} (C : CalH X.prog X.w X.K X.mg X.base x k ps sp) (hr : L2H.RoomH j X.A) (hc : L2H.HotC X) (ha : PA X (e :: es) t) (hk : k ≤ j := by decide) (hg : Gl X x := by rfl)
    (hdb : (x == ("__debug__" : Str)) = false := by decide) (he : starEach (e :: es) X.env = (false, eval e X.env) :: starEach es X.env := by rfl) (hpl : (backTo pos (starEach es X.env)).any (·.1) = false := by rfl) :
    PE X (.Call (.Name x p) (e :: es) [] pos) (tCallS sp (fun _ => E0) t) := by
  obtain ⟨f, fd, hm, F, hb, kp⟩ := C.ok
  exact L2H.pe_callH F (hr.mono hk) hc hg hm kp hb (fun σ => passAt0 σ) ha hdb he hpl
end
end Y
set_option maxHeartbeats 4000000
/-! short words for the printed terms, and the facts that the head's run tells -/
namespace Y
open PySem L2
section
variable {X : Cx}
theorem op_isNn : OpR X (compareOp .Is) rIsNn := op_isN
theorem op_notNn : OpR X (compareOp .IsNot) rNotNn := op_notN
theorem bt_len : bootBuiltins "len" = some (.builtin "len") := by decide +kernel
theorem bt_abs : bootBuiltins "abs" = some (.builtin "abs") := by decide +kernel
theorem bt_max : bootBuiltins "max" = some (.builtin "max") := by decide +kernel
theorem bt_min : bootBuiltins "min" = some (.builtin "min") := by decide +kernel
theorem bt_sum : bootBuiltins "sum" = some (.builtin "sum") := by decide +kernel
theorem bt_all : bootBuiltins "all" = some (.builtin "all") := by decide +kernel
theorem bt_any : bootBuiltins "any" = some (.builtin "any") := by decide +kernel
theorem bt_isinstance : bootBuiltins "isinstance" = some (.builtin "isinstance") := by decide +kernel
theorem bt_int : bootBuiltins "int" = some (.type "int") := by decide +kernel
theorem bt_bool : bootBuiltins "bool" = some (.type "bool") := by decide +kernel
theorem bt_list : bootBuiltins "list" = some (.type "list") := by decide +kernel
theorem bt_tuple : bootBuiltins "tuple" = some (.type "tuple") := by decide +kernel
theorem bt_str : bootBuiltins "str" = some (.type "str") := by decide +kernel
theorem bt_ValueError : bootBuiltins "ValueError" = some (.type "ValueError") := by decide +kernel
/-- a field of the error that a suite holds, whatever its class -/
def tXfA (K : PySem.W.Frag) (a : Addr) (cls : Value) (d : Option Addr) (f : Str) (te : TE) : TE := fun σ H Q => ∃ C, XfC K C ∧ PySem.W.findIn K (.ref C) f = some none ∧ tXf a cls d C f te σ H Q
theorem pe_xfA {a : Addr} {oe : Obj} {cls : Value} {d : Option Addr} {pn : List (Addr × Obj)} {e : Expr} {te : TE} {pos : Pos} {n : Str} (hz : L2N.Zn cls d oe) (hf : ∃ vs, oe.data = .fields vs) (he : PE (X.suite a ((a, oe) :: pn)) e te)
    (hb : attributeBase e n X.env (eval e X.env) = eval e X.env := by rfl) : PE (X.suite a ((a, oe) :: pn)) (.Attribute e n pos) (tXfA X.K a cls d n te) := by
  refine ⟨fun pins s σ H Q I h => ?_⟩
  obtain ⟨C, T, no, h⟩ := h
  exact (pe_xf T no hz.zc hf he hb).run pins s σ H Q I h
end
section
variable {K : PySem.W.Frag} {Γ Γ1 : List Sl} {te : TE} {z : D}
theorem ev_xfA {a C : Addr} {d : Option Addr} {ns : List Str} {ds : List D} {f : Str} (T : XfC K C) (no : PySem.W.findIn K (.ref C) f = some none) (h : Ev K te Γ Γ1 (.exc a d ns ds)) (hl : (ns.zip ds).lookup f = some z) : Ev K (tXfA K a (.ref C) d f te) Γ Γ1 z := fun B0 F σ B H S Q q => ⟨C, T, no, ev_xf h rfl hl B0 F σ B H S Q q⟩
end
/-! ### facts of the written part, asked by one run -/
section
variable {K : PySem.W.Frag} {h : Heap} {mg : Str → Option Value}
theorem ba {a b : Bool} (h : (a && b) = true) : a = true ∧ b = true := Bool.and_eq_true_iff.mp h
def isS (a b : Option (Option Value)) : Bool := decide (a = b)
/-- the class x is an own error class -/
def clsB (K : PySem.W.Frag) (C : Addr) : Bool := match K.lookup C with
  | some ⟨.type "type", _, .cls cd, sl⟩ => (match cd.mro, sl.toList with
    | .ref C' :: bm, [_, _, _, _, some (.builtin n), _] => C' == C && (n == "ValueError.__new__" && (!cd.hasDel && (cd.hasDict && HandSPX.refsVE bm)))
    | _, _ => false)
  | _ => false
theorem clsB_ok {C : Addr} (q : clsB K C = true) : ∃ nm q N bs bm sn sub ab col dd k0 k1 k2 k3 k5, K.lookup C = some (excClassObj nm q C N bs bm true sn sub ab col dd k0 k1 k2 k3 k5 "ValueError.__new__") ∧ HandSPX.refsVE bm = true := by
  unfold clsB at q
  split at q
  · rename_i dd cd sl ho
    split at q
    · rename_i C' bm k0 k1 k2 k3 n k5 hm hs
      obtain ⟨q1, q⟩ := ba q
      obtain ⟨q2, q⟩ := ba q
      obtain ⟨q3, q⟩ := ba q
      obtain ⟨q4, q5⟩ := ba q
      have e1 : C' = C := eq_of_beq q1
      have e2 : n = "ValueError.__new__" := eq_of_beq q2
      subst e1 e2
      obtain ⟨nm, bs, mro, ns, qn, hd, sn, sub, ab, col, del⟩ := cd
      dsimp only at hm q3 q4
      have e3 : del = false := by simpa using q3
      subst hm q4 e3
      have hsl : sl = #[k0, k1, k2, k3, some (.builtin "ValueError.__new__"), k5] := by
        obtain ⟨l⟩ := sl
        simp only at hs
        rw [hs]
      subst hsl
      exact ⟨nm, qn, ns, bs, bm, sn, sub, ab, col, dd, k0, k1, k2, k3, k5, ho, q5⟩
    · cases q
  · cases q
/-- its __init__: the closure, the code's file -/
def fileB (file : Str) (K : PySem.W.Frag) (cda : Addr) : Bool := match K.lookup cda with
  | some ⟨_, _, .fields vs, _⟩ => (match vs.toList with
    | _ :: _ :: .str y _ :: _ => file == y
    | _ => false)
  | _ => false
theorem fileB_ok {file : Str} {cda : Addr} (c : fileB file K cda = true) : ∃ c1 c2 vs c3 y ty, K.lookup cda = some ⟨c1, c2, .fields vs, c3⟩ ∧ vs[2]? = some (.str y ty) ∧ (file == y) = true := by
  unfold fileB at c
  split at c
  · rename_i c1 c2 vs c3 h
    split at c
    · rename_i a b y ty r e
      exact ⟨c1, c2, vs, c3, y, ty, h, by rw [← Array.getElem?_toList, e]; rfl, c⟩
    · cases c
  · cases c
def cellB (K : PySem.W.Frag) (C cc : Addr) : Bool := match K.lookup cc with
  | some ⟨_, _, .cell (some (.ref D)), _⟩ => decide (D = C)
  | _ => false
theorem cellB_ok {C cc : Addr} (c : cellB K C cc = true) : ∃ c1 c2 c3, K.lookup cc = some ⟨c1, c2, .cell (some (.ref C)), c3⟩ := by
  unfold cellB at c
  split at c
  · rename_i c1 c2 D c3 h
    have e := of_decide_eq_true c
    subst e
    exact ⟨c1, c2, c3, h⟩
  · cases c
def iniF (file : Str) (K : PySem.W.Frag) (C : Addr) (cl : List (Str × Addr)) (co df kw : Value) (q : Str) : Bool := match cl, co, df, kw with
  | [(n, cc)], .ref cda, .none, .none => decide (n = "__class__") && (PySem.W.codeIn K (.ref cda) q && (fileB file K cda && cellB K C cc))
  | _, _, _, _ => false
theorem iniF_ok {file : Str} {C : Addr} {cl : List (Str × Addr)} {co df kw : Value} {q : Str} (c : iniF file K C cl co df kw q = true) : ∃ cc cda, cl = [(("__class__" : Str), cc)] ∧ co = .ref cda ∧ df = .none ∧ kw = .none ∧ PySem.W.codeIn K (.ref cda) q = true ∧ fileB file K cda = true ∧ cellB K C cc = true := by
  unfold iniF at c
  split at c
  · rename_i n cc cda
    obtain ⟨w1, c⟩ := ba c
    obtain ⟨w2, c⟩ := ba c
    obtain ⟨w3, w4⟩ := ba c
    have e := of_decide_eq_true w1
    subst e
    exact ⟨cc, cda, rfl, rfl, rfl, rfl, w2, w3, w4⟩
  · cases c
def iniB (file : Str) (K : PySem.W.Frag) (C f : Addr) : Bool := match K.lookup f with
  | some ⟨_, _, .func fd, _⟩ => iniF file K C fd.closure fd.code fd.defaults fd.kwdefaults fd.qualname
  | _ => false
/-- what of it must be as the text has it -/
abbrev FnX : Type := Option (Str × Str × Arguments × FuncBody × Scope × Addr × Addr)
def fnX (K : PySem.W.Frag) (f : Addr) : FnX := match K.lookup f with
  | some ⟨_, _, .func fd, _⟩ => some (fd.name, fd.qualname, fd.params, fd.body, fd.scope, fd.globals, fd.builtins)
  | _ => none
structure ErrD where
  x : Str
  fs : List Str
  qual : Str
  params : Arguments
  body : List Stmt
def ErrD.val (d : ErrD) : FnX := some ("__init__", d.qual, d.params, .stmts d.body, YX.yScope d.fs, mainGlobals, builtinsNs)
def ErrD.ok (file : Str) (K : PySem.W.Frag) (d : ErrD) : Bool :=
  isS (PySem.W.nsIn K mainGlobals d.x) (some (some (.ref (He.ga K d.x)))) && (clsB K (He.ga K d.x) && (isS (PySem.W.ks_superIn K (He.ga K d.x) (He.ga K d.x) "__init__") (some (some (.builtin "ValueError.__init__"))) && (isS (PySem.W.nsIn K cStatics "thirdparty.any") (some none) &&
  (isS (PySem.W.findIn K (.ref (He.ga K d.x)) "__setattr__") (some (some (.builtin "object.__setattr__"))) && ((d.fs.all fun f => isS (PySem.W.findIn K (.ref (He.ga K d.x)) f) (some none)) && (isS (PySem.W.findIn K (.ref (He.ga K d.x)) "__init__") (some (some (.ref (He.ma K (He.ga K d.x) "__init__")))) &&
  (decide (PySem.W.typeIn K (.ref (He.ma K (He.ga K d.x) "__init__")) = some (.type "function")) && (decide (PySem.W.subIn K (.ref (He.ga K d.x)) (.type "ValueError") = some true) && (decide (PySem.W.mroIn K (He.ga K d.x) (.ref (He.ga K d.x)) = some true) && ((PySem.W.clsIn K (He.ga K d.x)).isSome &&
  (iniB file K (He.ga K d.x) (He.ma K (He.ga K d.x) "__init__") && (PySem.W.keepIn K (.ref (He.ga K d.x)) && (decide (PySem.W.subIn K (.ref (He.ga K d.x)) (.type "BaseException") = some true) && (decide (PySem.W.typeIn K (.ref (He.ga K d.x)) = some (.type "type"))))))))))))))))
theorem ErrD.txt {P : Program} {d : ErrD} (c : d.ok P.main.file K = true) (e : fnX K (He.ma K (He.ga K d.x) "__init__") = d.val) : YX.Txt P K (He.ga K d.x) (He.ma K (He.ga K d.x) "__init__") d.fs d.qual d.params d.body := by
  obtain ⟨c1, c⟩ := ba c
  obtain ⟨c2, c⟩ := ba c
  obtain ⟨c3, c⟩ := ba c
  obtain ⟨c4, c⟩ := ba c
  obtain ⟨c5, c⟩ := ba c
  obtain ⟨c6, c⟩ := ba c
  obtain ⟨c7, c⟩ := ba c
  obtain ⟨c8, c⟩ := ba c
  obtain ⟨c9, c⟩ := ba c
  obtain ⟨c10, c⟩ := ba c
  obtain ⟨c11, c⟩ := ba c
  obtain ⟨c12, c⟩ := ba c
  refine ⟨clsB_ok c2, of_decide_eq_true c3, of_decide_eq_true c4, of_decide_eq_true c5, fun f hf => of_decide_eq_true (List.all_eq_true.mp c6 f hf), of_decide_eq_true c7, of_decide_eq_true c8, of_decide_eq_true c9, of_decide_eq_true c10, Option.isSome_iff_exists.mp c11, ?_⟩
  unfold fnX at e
  unfold iniB at c12
  cases q : K.lookup (He.ma K (He.ga K d.x) "__init__") with
  | none =>
    rw [q] at c12
    cases c12
  | some o =>
    obtain ⟨oc, od, dt, osl⟩ := o
    rw [q] at c12 e
    cases dt with
    | func fd =>
      obtain ⟨n1, n2, n3, n4, n5, n6, n7, n8, n9, n10, n11, n12, n13, n14, n15⟩ := fd
      have e2 : (some (n1, n2, n3, n4, n5, n6, n15) : FnX) = some (("__init__" : Str), d.qual, d.params, .stmts d.body, YX.yScope d.fs, mainGlobals, builtinsNs) := e
      simp only [Option.some.injEq, Prod.mk.injEq] at e2
      obtain ⟨h1, h2, h3, h4, h5, h6, h8⟩ := e2
      subst h1 h2 h3 h4 h5 h6 h8
      obtain ⟨cc, cda, rfl, rfl, rfl, rfl, w2, w3, w4⟩ := iniF_ok (show iniF P.main.file K (He.ga K d.x) n7 n13 n8 n9 d.qual = true from c12)
      obtain ⟨k1, k2, vs, k3, y, ty, hc, hy, hf⟩ := fileB_ok w3
      obtain ⟨l1, l2, l3, hcc⟩ := cellB_ok w4
      exact ⟨oc, od, _, _, _, cda, _, osl, cc, vs, y, ty, _, _, _, _, _, _, rfl, w2, hc, hy, hf, hcc⟩
    | _ => cases c12
theorem ErrD.err {P : Program} {d : ErrD} (X : K.In h) (G : h.Ns mainGlobals mg) (c : d.ok P.main.file K = true) (e : fnX K (He.ma K (He.ga K d.x) "__init__") = d.val) (no : mg "super" = none)
    (I : ∃ (q : YX.Ps) (msg : Str) (j : Nat) (l : List (Str × (Pos × Pos × Pos × Pos))), YX.Ini P K (He.ma K (He.ga K d.x) "__init__") d.fs d.qual d.params d.body q msg j l) : Err P K mg d.x d.fs := by
  have T := ErrD.txt c e
  obtain ⟨q, msg, j, l, Z⟩ := I
  obtain ⟨c1, c⟩ := ba c
  obtain ⟨c2, c⟩ := ba c
  obtain ⟨c3, c⟩ := ba c
  obtain ⟨c4, c⟩ := ba c
  obtain ⟨c5, c⟩ := ba c
  obtain ⟨c6, c⟩ := ba c
  obtain ⟨c7, c⟩ := ba c
  obtain ⟨c8, c⟩ := ba c
  obtain ⟨c9, c⟩ := ba c
  obtain ⟨c10, c⟩ := ba c
  obtain ⟨c11, c⟩ := ba c
  obtain ⟨c12, c⟩ := ba c
  obtain ⟨c13, c⟩ := ba c
  obtain ⟨c14, c15⟩ := ba c
  exact ⟨PySem.W.mg_of X G (of_decide_eq_true c1), ⟨_, _, _, _, q, msg, j, l, T, Z⟩, c13, of_decide_eq_true c14, of_decide_eq_true c15, no⟩
/-- what isinstance and field reads of a caught error ask -/
def errIB (K : PySem.W.Frag) (D : Addr) : Bool := (PySem.W.clsIn K D).isSome && (isS (PySem.W.findIn K (.ref D) "__getattribute__") (some (some (.builtin "BaseException.__getattribute__"))) && (isS (PySem.W.findIn K (.ref D) "__getattr__") (some none) && (decide (PySem.W.subIn K (.ref D) (.type "BaseException") = some true) &&
  (isS (PySem.W.findIn K (.ref D) "__class__") (some (some (.builtin "object.__class__"))) && (isS (PySem.W.specialIn K (.builtin "object.__class__") "__get__") (some (some (.builtin "getset_descriptor.__get__"))) && (decide (PySem.W.takesIn K (.builtin "object.__class__") = some true) && (decide (PySem.W.mroIn K D (.type "object") = some true) && PySem.W.hasDictIn K D)))))))
theorem errIB_ok {D : Addr} (c : errIB K D = true) : ErrI K D ∧ XfC K D := by
  obtain ⟨c1, c⟩ := ba c
  obtain ⟨c2, c⟩ := ba c
  obtain ⟨c3, c⟩ := ba c
  obtain ⟨c4, c⟩ := ba c
  obtain ⟨c5, c⟩ := ba c
  obtain ⟨c6, c⟩ := ba c
  obtain ⟨c7, c⟩ := ba c
  obtain ⟨c8, c9⟩ := ba c
  exact ⟨⟨c1, of_decide_eq_true c2, of_decide_eq_true c3, of_decide_eq_true c4, of_decide_eq_true c5, of_decide_eq_true c6, of_decide_eq_true c7, of_decide_eq_true c8⟩, ⟨of_decide_eq_true c2, of_decide_eq_true c3, of_decide_eq_true c4, c9⟩⟩
/-- a class whose instances isinstance is asked of -/
def isCB (K : PySem.W.Frag) (C : Addr) : Bool := isS (PySem.W.findIn K (.ref C) "__class__") (some (some (.builtin "object.__class__"))) && (isS (PySem.W.specialIn K (.builtin "object.__class__") "__get__") (some (some (.builtin "getset_descriptor.__get__"))) && (decide (PySem.W.takesIn K (.builtin "object.__class__") = some true) && decide (PySem.W.mroIn K C (.type "object") = some true)))
theorem isCB_ok {C : Addr} (cl : Cls K C) (c : isCB K C = true) : IsC K C := by
  obtain ⟨c1, c⟩ := ba c
  obtain ⟨c2, c⟩ := ba c
  obtain ⟨c3, c4⟩ := ba c
  exact ⟨cl, of_decide_eq_true c1, of_decide_eq_true c2, of_decide_eq_true c3, of_decide_eq_true c4⟩
/-- a property -/
def propAd (K : PySem.W.Frag) (C : Addr) (f : Str) : Addr := He.ma K C f
def propFn (K : PySem.W.Frag) (C : Addr) (f : Str) : Addr := match PySem.W.recIn K (propAd K C f) "property" with
  | some (.ref g :: _) => g
  | _ => 0
def propB (K : PySem.W.Frag) (C : Addr) (f : Str) : Bool := isS (PySem.W.findIn K (.ref C) f) (some (some (.ref (propAd K C f)))) && (isS (PySem.W.specialIn K (.ref (propAd K C f)) "__get__") (some (some (.builtin "property.__get__"))) && (decide (PySem.W.takesIn K (.ref (propAd K C f)) = some true) && (match PySem.W.recIn K (propAd K C f) "property" with
  | some (.ref g :: _) => true
  | _ => false)))
theorem propB_ok {C : Addr} {f : Str} (c : propB K C f = true) : PropOf K C f (propAd K C f) (propFn K C f) := by
  obtain ⟨c1, c⟩ := ba c
  obtain ⟨c2, c⟩ := ba c
  obtain ⟨c3, c4⟩ := ba c
  refine ⟨of_decide_eq_true c1, of_decide_eq_true c2, of_decide_eq_true c3, ?_⟩
  unfold propFn
  split at c4
  · rename_i g r e
    rw [e]
    exact ⟨r, rfl⟩
  · cases c4
end
/-! ### the Hook: bools, defs by where they stand, errors -/
structure FnD where
  at_ : PySem.W.Frag → Addr
  name : Str
  qual : Str
  params : Arguments
  body : List Stmt
  scope : Scope
  dfl : List He.Dv := []
section
variable {K : PySem.W.Frag}
def fnWA (K : PySem.W.Frag) (a : Addr) : He.FnW := match K.lookup a with
  | some ⟨_, _, .func fd, _⟩ => some (fd.name, fd.qualname, fd.params, fd.body, fd.scope, fd.globals, fd.closure, fd.builtins)
  | _ => none
def FnD.val (d : FnD) : He.FnW := some (d.name, d.qual, d.params, .stmts d.body, d.scope, mainGlobals, [], builtinsNs)
def FnD.dvs (K : PySem.W.Frag) (d : FnD) : List V := d.dfl.map (He.Dv.v K)
def FnD.ok (K : PySem.W.Frag) (d : FnD) : Bool := PySem.W.keepIn K (.ref (d.at_ K)) && (match K.lookup (d.at_ K) with
  | some ⟨_, _, .func fd, _⟩ => PySem.W.codeIn K fd.code d.qual && (He.dflB K fd.defaults (d.dvs K) && He.kwdB K fd.kwdefaults [])
  | _ => false)
theorem FnD.funD {d : FnD} (e : fnWA K (d.at_ K) = d.val) (c : d.ok K = true) : ∃ fd, FunD K d.name d.qual d.params d.body d.scope (d.dvs K) [] (d.at_ K) fd := by
  obtain ⟨kp, c2⟩ := ba c
  unfold fnWA at e
  cases q : K.lookup (d.at_ K) with
  | none =>
    rw [q] at c2
    cases c2
  | some o =>
    obtain ⟨oc, od, dt, osl⟩ := o
    rw [q] at c2 e
    cases dt with
    | func fd =>
      obtain ⟨n1, n2, n3, n4, n5, n6, n7, n8, n9, n10, n11, n12, n13, n14, n15⟩ := fd
      have e2 : (some (n1, n2, n3, n4, n5, n6, n7, n15) : He.FnW) = some (d.name, d.qual, d.params, .stmts d.body, d.scope, mainGlobals, [], builtinsNs) := e
      simp only [Option.some.injEq, Prod.mk.injEq] at e2
      obtain ⟨h1, h2, h3, h4, h5, h6, h7, h8⟩ := e2
      subst h1 h2 h3 h4 h5 h6 h7 h8
      have c3 : (PySem.W.codeIn K n13 d.qual && (He.dflB K n8 (d.dvs K) && He.kwdB K n9 [])) = true := c2
      obtain ⟨k1, k2⟩ := ba c3
      obtain ⟨k3, k4⟩ := ba k2
      exact ⟨_, ⟨oc, od, n8, n9, n10, n11, n12, n13, n14, osl, rfl, q, k1, He.dflB_ok k3, He.kwdB_ok k4⟩, kp⟩
    | _ => cases c2
/-- what the module's names, and the statics, reach in n steps -/
def asY (g : Addr → Option Obj) : Nat → List Addr
  | 0 => [mainGlobals, cStatics]
  | n + 1 => He.growD g (asY g n)
abbrev AlY : Type := Bool × List He.FnW × List FnX
def obsY (file : Str) (bs : PySem.W.Frag → Bool) (fn : List FnD) (er : List ErrD) (K : PySem.W.Frag) : AlY := (bs K && ((fn.all fun d => d.ok K) && er.all fun d => d.ok file K), fn.map (fun d => fnWA K (d.at_ K)), er.map fun d => fnX K (He.ma K (He.ga K d.x) "__init__"))
def valY (fn : List FnD) (er : List ErrD) : AlY := (true, fn.map FnD.val, er.map ErrD.val)
def SaysY (file : Str) (bs : PySem.W.Frag → Bool) (fn : List FnD) (er : List ErrD) (K : PySem.W.Frag) : Prop := obsY file bs fn er K = valY fn er
def obsYG (n : Nat) (file : Str) (bs : PySem.W.Frag → Bool) (fn : List FnD) (er : List ErrD) (g : Addr → Option Obj) : AlY := obsY file bs fn er (He.frG g (asY g n))
def hookY (n : Nat) (file : Str) (bs : PySem.W.Frag → Bool) (fn : List FnD) (er : List ErrD) : PySem.W.Hook where
  α := AlY
  obs := fun s => obsYG n file bs fn er s.heap.get?
  val := fun _ => valY fn er
  says := fun _ h => ∃ K : PySem.W.Frag, K.In h ∧ SaysY file bs fn er K
  of := fun _ _ e => ⟨_, He.frG_in, e⟩
  keeps := fun _ _ _ ⟨K, hK, c⟩ k => ⟨K, PySem.W.Frag.In.keeps hK k, c⟩
theorem obsYG_eq {n : Nat} {file : Str} {bs : PySem.W.Frag → Bool} {fn : List FnD} {er : List ErrD} {g : Addr → Option Obj} {s : Shared} (h : ∀ a, g a = s.heap.get? a) : obsYG n file bs fn er g = (hookY n file bs fn er).obs s := by
  have e : g = s.heap.get? := funext h
  rw [e]
  rfl
variable {file : Str} {bs : PySem.W.Frag → Bool} {fn : List FnD} {er : List ErrD}
theorem SaysY.bools (c : SaysY file bs fn er K) : bs K = true := (ba (show (bs K && ((fn.all fun d => d.ok K) && er.all fun d => d.ok file K)) = true from congrArg (fun z : AlY => z.1) c)).1
theorem SaysY.def_ (c : SaysY file bs fn er K) (i : Nat) {d : FnD} (h : fn[i]? = some d := by rfl) : ∃ fd, FunD K d.name d.qual d.params d.body d.scope (d.dvs K) [] (d.at_ K) fd := by
  have c2 := (ba (ba (show (bs K && ((fn.all fun d => d.ok K) && er.all fun d => d.ok file K)) = true from congrArg (fun z : AlY => z.1) c)).2).1
  have e : fn.map (fun d => fnWA K (d.at_ K)) = fn.map FnD.val := congrArg (fun z : AlY => z.2.1) c
  have e2 : (fn.map fun d => fnWA K (d.at_ K))[i]? = (fn.map FnD.val)[i]? := by rw [e]
  rw [List.getElem?_map, List.getElem?_map, h] at e2
  exact FnD.funD (Option.some.inj e2) (List.all_eq_true.mp c2 d (List.mem_of_getElem? h))
theorem SaysY.err_ (c : SaysY file bs fn er K) (i : Nat) {d : ErrD} (h : er[i]? = some d := by rfl) : d.ok file K = true ∧ fnX K (He.ma K (He.ga K d.x) "__init__") = d.val := by
  have c2 := (ba (ba (show (bs K && ((fn.all fun d => d.ok K) && er.all fun d => d.ok file K)) = true from congrArg (fun z : AlY => z.1) c)).2).2
  have e : er.map (fun d => fnX K (He.ma K (He.ga K d.x) "__init__")) = er.map ErrD.val := congrArg (fun z : AlY => z.2.2) c
  have e2 : (er.map fun d => fnX K (He.ma K (He.ga K d.x) "__init__"))[i]? = (er.map ErrD.val)[i]? := by rw [e]
  rw [List.getElem?_map, List.getElem?_map, h] at e2
  exact ⟨List.all_eq_true.mp c2 d (List.mem_of_getElem? h), Option.some.inj e2⟩
end
end Y
set_option maxHeartbeats 4000000
/-! instances: made, their properties, their methods -/
namespace Y
open PySem L2
section
variable {K : PySem.W.Frag} {Γ Γ1 Γ2 Γ3 : List Sl} {d x y z : D} {ta te : TE} {tr : TA} {α : Type} {pre : α → Prop} {vin : α → List D} {din dout : α → D} {res : α → Res} {a : α}
theorem eo_make {cx : Str} {ds : List D} {E : XK} (h : EvA K tr Γ Γ1 (ds.map .v)) (hp : pre a) (hv : vin a = ds) (hd : din a = .obj cx [] []) (hr : res a = .ret .non) : EvO K (tMake (He.ga K cx) (spP K pre din vin dout res) [] E tr) Γ Γ1 (dout a) := fun B0 F σ B H S Q q => h B0 F σ B H S _ fun vs B1 H1 S1 s1 a1 => by
  intro p dx hx hdx hne
  subst hv
  have S2 : Sat ⟨K, B0, F⟩ Γ1 σ B1 (upd (upd H1 dx (.own p)) p (.ins (He.ga K cx) dx [])) := (S1.newO hdx).newO (by rw [upd_ne (Ne.symm hne)]; exact hx)
  have hcut : ∀ {b : Addr} {o : HO}, cut B1 H1 [] b = some o → (upd (upd H1 dx (.own p)) p (.ins (He.ga K cx) dx [])) b = some o := fun {b o} hb => by
    obtain ⟨_, _, hb⟩ := cut_some hb
    rw [upd_ne (ne_of_none hb hx), upd_ne (ne_of_none hb hdx)]
    exact hb
  have hfp : cut B1 H1 [] p = none := by
    cases e : cut B1 H1 [] p with
    | none => rfl
    | some o =>
      have := (cut_some e).2.2
      rw [hx] at this
      cases this
  have T : Sat ⟨K, B1, cut B1 H1 []⟩ ((vin a).map .va) (vs.map some) B1 (upd (upd H1 dx (.own p)) p (.ins (He.ga K cx) dx [])) := a1.ats.slots (A := ⟨K, B1, cut B1 H1 []⟩) (Same.refl _) S2.bh (fun b o hb => hcut hb) fun b o hb => (cut_some hb).1
  have T2 : Sat ⟨K, B1, cut B1 H1 []⟩ (.ow (din a) :: (vin a).map .va) ((V.ref p :: (vs ++ [])).map some) B1 (upd (upd H1 dx (.own p)) p (.ins (He.ga K cx) dx [])) := by
    rw [List.append_nil]
    refine ⟨T.b0, T.bh, T.fh, T.fb, by simpa using T.len, fun j s hj => ?_, fun j k dj dk q hj hk _ _ => ?_⟩
    · cases j with
      | zero =>
        cases hj
        rw [hd]
        exact ⟨p, rfl, S1.bnone hx, hfp, .obj (vs := []) (dx := dx) (by rw [upd_same]; rfl) rfl .nil⟩
      | succ j =>
        have := T.sl j s (by simpa using hj)
        simpa using this
    · have f : ∀ {m : Nat} {dm : D}, (Sl.ow (din a) :: (vin a).map .va)[m]? = some (.ow dm) → m = 0 := fun {m dm} hm => by
        cases m with
        | zero => rfl
        | succ m =>
          have hm' : ((vin a).map Sl.va)[m]? = some (.ow dm) := by simpa using hm
          rw [List.getElem?_map] at hm'
          cases q : (vin a)[m]? <;> rw [q] at hm' <;> cases hm'
      rw [f hj, f hk]
  refine ⟨a, B1, cut B1 H1 [], B1, hp, T2, ?_⟩
  show Post K B1 (cut B1 H1 []) B1 _ _ _ ((res a).out (.ow (dout a) :: (vin a).map .va))
  rw [hr]
  intro v B2 H2 S3 s3 av
  cases av
  refine ⟨rfl, ?_⟩
  obtain ⟨p', e', hb2, _, w2⟩ := S3.ow (i := 0) (d := dout a) rfl
  have e2 : some (some (V.ref p)) = some (some (.ref p')) := e'
  cases e2
  refine q p B2 H2 (S1.back S3) (s1.trans s3) hb2 (S1.fnone hx) w2 fun i di hi => S1.apart hx hi
theorem ev_prop {C : Addr} {cx : Str} {ns : List Str} {ds : List D} {E : XK} (h : Ev K ta Γ Γ1 (.obj cx ns ds)) (hC : C = He.ga K cx) (hp : pre a) (hv : vin a = [.obj cx ns ds]) (hr : res a = .ret d) : Ev K (tProp C (spV K pre vin res) [] E ta) Γ Γ1 d := fun B0 F σ B H S Q q => h B0 F σ B H S _ fun v B1 H1 S1 s1 a1 => by
  subst hC
  cases id a1 with
  | @obj ad dx _ _ vs _ hh hl r =>
    refine ⟨ad, dx, _, rfl, S1.bh _ _ hh, a, B1, cut B1 H1 [], B1, hp, ?_, ?_⟩
    · show Sat _ ((vin a).map .va) _ _ _
      rw [hv]
      exact call_vals (ds := [.obj cx ns ds]) S1 (.cons a1 .nil)
    · show Post K B1 (cut B1 H1 []) B1 _ _ _ ((res a).out ((vin a).map .va))
      rw [hr]
      exact fun v B2 H2 S2 s2 av => q v B2 H2 (S1.back S2) (s1.trans s2) av
theorem ev_meth {C : Addr} {cx m : Str} {ns : List Str} {ds es : List D} {E : XK} (h : Ev K ta Γ Γ1 (.obj cx ns ds)) (hm : m ∉ ns) (hC : C = He.ga K cx) (ha : EvA K tr Γ1 Γ2 (es.map .v)) (hp : pre a) (hv : vin a = .obj cx ns ds :: es) (hr : res a = .ret d) : Ev K (tMeth C m (spV K pre vin res) [] E ta tr) Γ Γ2 d := fun B0 F σ B H S Q q => h B0 F σ B H S _ fun v B1 H1 S1 s1 a1 => by
  subst hC
  cases id a1 with
  | @obj ad dx _ _ vs _ hh hl r =>
    have hno : (ns.zip vs).lookup m = none := by
      have : ∀ (ns : List Str) (vs : List V), m ∉ ns → (ns.zip vs).lookup m = none := by
        intro ns
        induction ns with
        | nil => intro vs _; rfl
        | cons n ns ih =>
          intro vs hn
          cases vs with
          | nil => rfl
          | cons u us =>
            have q2 : (m == n) = false := by
              simp at hn ⊢
              exact hn.1
            simp only [List.zip_cons_cons, List.lookup_cons, q2]
            exact ih us (fun z => hn (List.mem_cons_of_mem _ z))
      exact this ns vs hm
    refine ⟨ad, dx, _, rfl, S1.bh _ _ hh, hno, ha B0 F σ B1 H1 S1 _ fun ws B2 H2 S2 s2 a2 => ?_⟩
    refine ⟨a, B2, cut B2 H2 [], B2, hp, ?_, ?_⟩
    · show Sat _ ((vin a).map .va) _ _ _
      rw [hv, List.append_nil]
      exact call_vals (ds := .obj cx ns ds :: es) S2 (.cons (a1.up s2) a2.ats)
    · show Post K B2 (cut B2 H2 []) B2 _ _ _ ((res a).out ((vin a).map .va))
      rw [hr]
      exact fun v B3 H3 S3 s3 av => q v B3 H3 (S2.back S3) ((s1.trans s2).trans s3) av
end
/-! the callees -/
section
variable {P : Program} {w : World} {K : PySem.W.Frag} {mg : Str → Option Value} {base : Heap}
structure CalM (P : Program) (w : World) (K : PySem.W.Frag) (mg : Str → Option Value) (base : Heap) (x : Str) (k : Nat) (ps : List Str) (sp : Sp) : Prop where
  ok : ∃ f fd, Mk K (He.ga K x) f ∧ mg x = some (.ref (He.ga K x)) ∧ FnOk P w K mg base (L2N.CX P w) k f fd ps sp ∧ Binds K fd ps []
theorem pass0N {X : Cx} : Passes (L2N.CX X.prog X.w) X E0 := fun _ _ _ _ _ _ _ h => by
  obtain ⟨_, _, _, _, _, _, _, _, _, _, _, _, z⟩ := h
  exact z.elim
theorem pe_calM {X : Cx} {x : Str} {p pos : Pos} {e : Expr} {es : List Expr} {t : TA} {k j : Nat} {sp : Sp} {ps : List Str} (C : CalM X.prog X.w X.K X.mg X.base x k ps sp) (hr : Room j X.A) (ha : PA X (e :: es) t) (hk : k + 1 ≤ j := by decide) (hg : Gl X x := by rfl)
    (hdb : (x == ("__debug__" : Str)) = false := by decide) (he : starEach (e :: es) X.env = (false, eval e X.env) :: starEach es X.env := by rfl) (hpl : (backTo pos (starEach es X.env)).any (·.1) = false := by rfl) :
    PE X (.Call (.Name x p) (e :: es) [] pos) (tMake (He.ga X.K x) sp [] E0 t) := by
  obtain ⟨f, fd, M, hm, F, hb⟩ := C.ok
  exact pe_make M F (hr.mono hk) hg hm hb .nil pass0N ha hdb he hpl
structure CalP (P : Program) (w : World) (K : PySem.W.Frag) (mg : Str → Option Value) (base : Heap) (x f : Str) (k : Nat) (sp : Sp) : Prop where
  ok : ∃ p g fd, PropOf K (He.ga K x) f p g ∧ Cls K (He.ga K x) ∧ FnOk P w K mg base (L2N.CX P w) k g fd ["self"] sp ∧ Binds K fd ["self"] []
theorem pe_calP {X : Cx} {x f : Str} {pos : Pos} {e : Expr} {ta : TE} {k j : Nat} {sp : Sp} (C : CalP X.prog X.w X.K X.mg X.base x f k sp) (hr : Room j X.A) (he : PE X e ta) (hk : k + 1 ≤ j := by decide) (hab : attributeBase e f X.env (eval e X.env) = eval e X.env := by rfl) :
    PE X (.Attribute e f pos) (tProp (He.ga X.K x) sp [] E0 ta) := by
  obtain ⟨p, g, fd, hp, c, F, hb⟩ := C.ok
  exact pe_prop he c hp F (hr.mono hk) hb .nil pass0N hab
structure CalD (P : Program) (w : World) (K : PySem.W.Frag) (mg : Str → Option Value) (base : Heap) (x m : Str) (k : Nat) (ps : List Str) (sp : Sp) : Prop where
  ok : ∃ f fd, Meth K (He.ga K x) m f ∧ Cls K (He.ga K x) ∧ FnOk P w K mg base (L2N.CX P w) k f fd ps sp ∧ Binds K fd ps []
end
end Y
set_option maxHeartbeats 4000000
/-! rules in the form that a search takes: rows of values, integers -/
namespace Y
open PySem L2
abbrev zs (l : List Int) : List D := l.map D.int
/-- the entry at i -/
def gi (l : List Int) (i : Int) : Int := l.getD i.toNat 0
section
variable {K : PySem.W.Frag} {Γ Γ1 Γ2 Γ3 Γ4 : List Sl} {d x y z : D} {A : Amb} {pin : Option Addr} {E : Ends} {ta tb te tc : TE} {tr : TA} {b : Bool}
/-- a row of values -/
def EvL (K : PySem.W.Frag) (ta : TA) (Γ Γ' : List Sl) (ds : List D) : Prop := EvA K ta Γ Γ' (ds.map .v)
theorem el_nil : EvL K tNil Γ Γ [] := ea_nil
theorem el_cons {ds : List D} (h : Ev K ta Γ Γ1 x) (r : EvL K tr Γ1 Γ2 ds) : EvL K (tCons ta tr) Γ Γ2 (x :: ds) := ea_cons h r
theorem el_is {ds es : List D} (h : EvL K tr Γ Γ1 ds) (e : ds = es) : EvL K tr Γ Γ1 es := e ▸ h
theorem ev_cbs {r : List V → Hp → VK → Prop} {ds : List D} (h : EvL K tr Γ Γ1 ds) (hr : RC K r ds z) : Ev K (tCB r tr) Γ Γ1 z := ev_cb h hr
theorem ev_tups {ds : List D} (h : EvL K tr Γ Γ1 ds) (hl : ds.length ≤ 16777216 := by first | decide | simp) : Ev K (tTup tr) Γ Γ1 (.tup ds) := ev_tup h hl
theorem eo_lsts {ds : List D} (h : EvL K tr Γ Γ1 ds) (hl : ds.length ≤ 16777216 := by first | decide | simp) : EvO K (tLst tr) Γ Γ1 (.lst ds) := eo_lst h hl
theorem ev_lsts {ds : List D} (h : EvL K tr Γ Γ1 ds) (hl : ds.length ≤ 16777216 := by first | decide | simp) : Ev K (tLst tr) Γ Γ1 (.lst ds) := (eo_lsts h hl).ev
/-- integers' entries -/
theorem atI_gi {l : List Int} {i : Int} (h0 : 0 ≤ i) (h1 : i < l.length) : atI (zs l) i = some (.int (gi l i)) := by
  have e : ixN (zs l).length i = some i.toNat := by
    unfold ixN zs
    rw [List.length_map]
    rw [if_pos h0, if_pos h1]
  unfold atI gi
  rw [e]
  have hl : i.toNat < l.length := by omega
  simp [hl]
theorem rv_ixi {l : List Int} {i : Int} (h0 : 0 ≤ i) (h1 : i < l.length) : RV K (rIx K) (.lst (zs l)) (.int i) (.int (gi l i)) := rv_ixLL (atI_gi h0 h1)
theorem rv_ixTi {l : List Int} {i : Int} (h0 : 0 ≤ i) (h1 : i < l.length) : RV K (rIx K) (.tup (zs l)) (.int i) (.int (gi l i)) := rv_ixLT (atI_gi h0 h1)
theorem ev_ixOi {i : Nat} {l : List Int} {k : Int} {d0 : D} (h0 : Γ[i]? = some (.ow d0)) (hb : Ev K tb Γ Γ1 (.int k)) (h : Γ1[i]? = some (.ow (.lst (zs l)))) (g0 : 0 ≤ k) (g1 : k < l.length) : Ev K (tOp (rIx K) (tVar i) tb) Γ Γ1 (.int (gi l k)) := ev_ixOwnA h0 hb h (atI_gi g0 g1)
theorem ev_ixOiS {i : Nat} {l : List Int} {k : Int} (h0 : Γ[i]? = some (.ow (.lst (zs l)))) (hb : Ev K tb Γ Γ (.int k)) (g0 : 0 ≤ k) (g1 : k < l.length) : Ev K (tOp (rIx K) (tVar i) tb) Γ Γ (.int (gi l k)) := ev_ixOi h0 hb h0 g0 g1
theorem ev_ixOc {i : Nat} {ds : List D} {k : Int} {d0 : D} (h0 : Γ[i]? = some (.ow d0)) (hb : Ev K tb Γ Γ1 (.int k)) (h : Γ1[i]? = some (.ow (.lst ds))) (e : atI ds k = some d) : Ev K (tOp (rIx K) (tVar i) tb) Γ Γ1 d := ev_ixOwnA h0 hb h e
theorem rc_leni {l : List Int} : RC K (rLenQ K) [.lst (zs l)] (.int l.length) := by
  have h : RC K (rLenQ K) [.lst (zs l)] (.int (zs l).length) := rc_lenL
  rw [List.length_map] at h
  exact h
theorem rc_lenTi {l : List Int} : RC K (rLenQ K) [.tup (zs l)] (.int l.length) := by
  have h : RC K (rLenQ K) [.tup (zs l)] (.int (zs l).length) := rc_lenT
  rw [List.length_map] at h
  exact h
theorem ev_lenOi {i : Nat} {l : List Int} (h : Γ[i]? = some (.ow (.lst (zs l)))) : Ev K (tCB (rLenQ K) (tCons (tVar i) tNil)) Γ Γ (.int l.length) := by
  have g : Ev K (tCB (rLenQ K) (tCons (tVar i) tNil)) Γ Γ (.int (zs l).length) := ev_lenOwn h
  rw [List.length_map] at g
  exact g
/-! calls by values -/
variable {α : Type} {pre : α → Prop} {vin : α → List D} {res : α → Res} {din dout : α → D} {a : α} {ds : List D} {W : St → XK}
theorem ev_cv (a : α) (h : EvL K tr Γ Γ1 ds) (hv : vin a = ds) (hp : pre a) (hr : res a = .ret d) : Ev K (tCallS (spV K pre vin res) W tr) Γ Γ1 d := by
  subst hv
  exact ev_callG (a := a) h hp rfl (by rw [hr]; rfl)
theorem eo_cv (a : α) (h : EvL K tr Γ Γ1 ds) (hv : vin a = ds) (hp : pre a) (hr : res a = .own d) : EvO K (tCallS (spV K pre vin res) W tr) Γ Γ1 d := by
  subst hv
  exact eo_callG (a := a) h hp rfl (by rw [hr]; rfl)
theorem ex_cv {WX' : WX} {cx : Str} {ns : List Str} {es : List D} (a : α) (h : EvL K tr Γ Γ1 ds) (hv : vin a = ds) (hp : pre a) (hr : res a = .exc cx ns es) : EvX K WX' (tCallS (spV K pre vin res) (WE WX') tr) Γ Γ1 cx ns es := by
  subst hv
  exact ex_call (a := a) h hp rfl (by rw [hr]; rfl)
/-- calls with the first argument owned -/
theorem ev_cp {i : Nat} {d0 : D} (a : α) (h0 : Γ[i]? = some (.ow d0)) (h : EvL K tr Γ Γ1 ds) (h1 : Γ1[i]? = some (.ow (din a))) (hv : vin a = ds) (hp : pre a) (hr : res a = .ret d) : Ev K (tCallS (spP K pre din vin dout res) W (tCons (tVar i) tr)) Γ (Γ1.set i (.ow (dout a))) d := by
  subst hv
  exact ev_callP (a := a) (ea_own h0 h) h1 hp rfl (by rw [hr]; rfl)
theorem eo_cp {i : Nat} {d0 : D} (a : α) (h0 : Γ[i]? = some (.ow d0)) (h : EvL K tr Γ Γ1 ds) (h1 : Γ1[i]? = some (.ow (din a))) (hv : vin a = ds) (hp : pre a) (hr : res a = .own d) : EvO K (tCallS (spP K pre din vin dout res) W (tCons (tVar i) tr)) Γ (Γ1.set i (.ow (dout a))) d := by
  subst hv
  exact eo_callP (a := a) (ea_own h0 h) h1 hp rfl (by rw [hr]; rfl)
/-- comprehensions with one name -/
theorem eo_lc1 {wi : TI} {v n : Nat} {it : Nat → D} (r : Nat → D) (hi : EvI K wi Γ Γ1 n it) (hn : n ≤ 16777216) (hs : ∀ i, i < n → Ev K te (Γ1.set v (.va (it i))) (Γ1.set v (.va (it i))) (r i)) : EvO K (tLc wi (gName v) tYes te [v]) Γ (Γ1.set v .un) (.lst ((List.range n).map r)) := by
  have h := eo_lcM (K := K) (Γ := Γ) (Γ1 := Γ1) (te := te) (wi := wi) (g := gName v) (vs := [v]) (it := it) r hi hn (by show ((Γ1.set v .un).set v .un) = _; rw [List.set_set]; rfl) fun i hl => ⟨(wipeG Γ1 [v]).set v (.va (it i)), [v], tg_name, fun j hj => hj, ?_, ?_⟩
  · exact h
  · show ((((Γ1.set v .un).set v (.va (it i)))).set v .un) = Γ1.set v .un
    rw [List.set_set, List.set_set]
  · have e : (wipeG Γ1 [v]).set v (.va (it i)) = Γ1.set v (.va (it i)) := by
      show ((Γ1.set v .un).set v (.va (it i))) = _
      rw [List.set_set]
    rw [e]
    exact hs i hl
theorem eo_lcF1 {wi : TI} {tf : TT} {v n : Nat} {it : Nat → D} (r : Nat → D) (b : Nat → Bool) (hi : EvI K wi Γ Γ1 n it) (hn : n ≤ 16777216) (hs : ∀ i, i < n → EvT K tf (Γ1.set v (.va (it i))) (Γ1.set v (.va (it i))) (b i)) (hr : ∀ i, i < n → b i = true → Ev K te (Γ1.set v (.va (it i))) (Γ1.set v (.va (it i))) (r i)) : EvO K (tLc wi (gName v) tf te [v]) Γ (Γ1.set v .un) (.lst (((List.range n).filter b).map r)) := by
  have e : ∀ i, (wipeG Γ1 [v]).set v (.va (it i)) = Γ1.set v (.va (it i)) := fun i => by
    show ((Γ1.set v .un).set v (.va (it i))) = _
    rw [List.set_set]
  have h := eo_lcF (K := K) (Γ := Γ) (Γ1 := Γ1) (te := te) (wi := wi) (g := gName v) (vs := [v]) (it := it) (tf := tf) r b hi hn (by show ((Γ1.set v .un).set v .un) = _; rw [List.set_set]; rfl) fun i hl => ⟨(wipeG Γ1 [v]).set v (.va (it i)), [v], tg_name, fun j hj => hj, ?_, ?_, fun hb => ?_⟩
  · exact h
  · show ((((Γ1.set v .un).set v (.va (it i)))).set v .un) = Γ1.set v .un
    rw [List.set_set, List.set_set]
  · rw [e]
    exact hs i hl
  · rw [e]
    exact hr i hl hb
/-! ### what an owned list holds is lent as a value -/
mutual
def noL : D → Bool
  | .non => true | .bl _ => true | .int _ => true | .str _ => true | .ty _ => true
  | .tup l => noLs l | .lst _ => false | .lsr _ => false
  | .obj _ _ l => noLs l | .dic _ l => noLs l | .exc _ _ _ l => noLs l
def noLs : List D → Bool
  | [] => true
  | d :: r => noL d && noLs r
end
mutual
theorem At.less {B B' : Hp} {p : Addr} {vs : List V} (hp : B p = some (.lst vs)) (e : ∀ b, b ≠ p → B' b = B b) {v : V} {d : D} (h : At K B v d) (n : noL d = true) : At K B' v d := by
  have ne : ∀ {b : Addr} {o : HO}, B b = some o → (∀ l, o ≠ .lst l) → B' b = some o := fun {b o} q z => by
    by_cases hb : b = p
    · subst hb
      rw [hp] at q
      cases q
      exact absurd rfl (z vs)
    · rw [e b hb]
      exact q
  cases h with
  | non => exact .non
  | bl b => exact .bl b
  | int b => exact .int b
  | str b => exact .str b
  | ty b => exact .ty b
  | tup h r =>
    rw [noL] at n
    refine .tup ?_ (Ats.less hp e r n)
    rcases h with (h | ⟨o, h⟩) | h
    · exact .inl (.inl (ne h fun l z => by cases z))
    · exact .inl (.inr ⟨o, ne h fun l z => by cases z⟩)
    · exact .inr h
  | lst h r => rw [noL] at n; cases n
  | lsr h r => rw [noL] at n; cases n
  | obj h l r =>
    rw [noL] at n
    exact .obj (ne h fun l z => by cases z) l (Ats.less hp e r n)
  | dic h l r =>
    rw [noL] at n
    exact .dic (ne h fun l z => by cases z) l (Ats.less hp e r n)
  | exc0 => exact .exc0
  | exc1 h l r =>
    rw [noL] at n
    exact .exc1 (ne h fun l z => by cases z) l (Ats.less hp e r n)
theorem Ats.less {B B' : Hp} {p : Addr} {vs : List V} (hp : B p = some (.lst vs)) (e : ∀ b, b ≠ p → B' b = B b) {us : List V} {ds : List D} (h : Ats K B us ds) (n : noLs ds = true) : Ats K B' us ds := by
  cases h with
  | nil => exact .nil
  | cons h r =>
    rw [noLs, Bool.and_eq_true] at n
    exact .cons (At.less hp e h n.1) (Ats.less hp e r n.2)
end
def noO : D → Bool
  | .lst l => noLs l
  | .obj _ _ l => noLs l
  | .dic _ l => noLs l
  | _ => true
def okS : Sl → Prop
  | .ow d => noO d = true
  | _ => True
theorem noLs_zs : ∀ l : List Int, noLs (zs l) = true
  | [] => rfl
  | _ :: r => by
    show (noL _ && noLs (zs r)) = true
    rw [noLs_zs r]
    rfl
theorem Own.less {B B' H : Hp} {p q : Addr} {vs : List V} (hp : B p = some (.lst vs)) (e : ∀ b, b ≠ p → B' b = B b) (h : Own K B H q d) (n : noO d = true) : Own K B' H q d := by
  cases h with
  | lst h r => exact .lst h (r.less hp e n)
  | obj h l r => exact .obj h l (r.less hp e n)
  | dic h l r => exact .dic h l (r.less hp e n)
theorem Sat.freeze' {σ : L2.St} {B H : Hp} (S : Sat A Γ σ B H) {i : Nat} {d : D} (h : Γ[i]? = some (.ow d)) : ∃ p o, σ[i]? = some (some (.ref p)) ∧ H p = some o ∧ At A.K (upd B p o) (.ref p) d ∧ Sat A (Γ.set i (.va d)) σ (upd B p o) H := by
  obtain ⟨p, e, hb, hf, w⟩ := S.ow h
  obtain ⟨o, ho, a⟩ := w.at_ hb
  have sm : Same B (upd B p o) := fun b u q => by
    rw [upd_ne (ne_of_none q hb)]
    exact q
  refine ⟨p, o, e, ho, a, ⟨S.b0.trans sm, fun b v q => ?_, S.fh, fun b v q => ?_, by rw [List.length_set, S.len], fun j s hj => ?_, fun j k dj dk q hj hk ej ek => ?_⟩⟩
  · by_cases hbp : b = p
    · subst hbp
      rw [upd_same] at q
      cases q
      exact ho
    · rw [upd_ne hbp] at q
      exact S.bh _ _ q
  · rw [upd_ne (fun z => by rw [z, hf] at q; cases q)]
    exact S.fb _ _ q
  · rcases set_get hj with ⟨rfl, rfl⟩ | ⟨ne, hj⟩
    · rw [e]
      exact ⟨_, rfl, a⟩
    · refine (S.sl j s hj).up sm (fun d2 q es eq n _ _ => ?_) fun q u _ _ hu => hu
      rw [upd_ne]
      · exact n
      · intro z
        subst z
        subst es
        exact ne (S.ap _ _ _ _ _ hj h (join_some eq) e)
  · rcases set_get hj with ⟨rfl, z⟩ | ⟨n1, hj⟩
    · cases z
    rcases set_get hk with ⟨rfl, z⟩ | ⟨n2, hk⟩
    · cases z
    exact S.ap j k _ _ q hj hk ej ek
theorem eo_lend {i : Nat} {ds : List D} (h : Γ[i]? = some (.ow (.lst ds))) (hv : EvO K te (Γ.set i (.va (.lst ds))) (Γ1.set i (.va (.lst ds))) d) (h1 : Γ1[i]? = some (.ow (.lst ds))) (hl : Γ1.length = Γ.length) (hg : ∀ (j : Nat) (x : D), Γ1[j]? = some (.va x) → Γ[j]? = some (.va x)) (n : noO d = true) (ok : ∀ (j : Nat) (s : Sl), j ≠ i → Γ1[j]? = some s → okS s) (nd : noLs ds = true) : EvO K te Γ Γ1 d := fun B0 F σ B H S Q q => by
  obtain ⟨p, e, hb, hf, w⟩ := S.ow h
  obtain ⟨p', o, ep, ho, hat, S'⟩ := S.freeze' h
  rw [e] at ep
  cases ep
  refine hv B0 F σ _ H S' Q fun p2 B' H' S2 sm hb2 hf2 w2 ap2 => ?_
  cases w with
  | @lst vs _ hh r =>
    rw [hh] at ho
    cases ho
    have hBp : B' p = some (.lst vs) := sm p _ upd_same
    have hHp : H' p = some (.lst vs) := S2.bh _ _ hBp
    have sB : Same B (fun b => if b = p then none else B' b) := fun b u z => by
      have ne : b ≠ p := fun q => by
        subst q
        rw [hb] at z
        cases z
      show (if b = p then none else B' b) = some u
      rw [if_neg ne]
      exact sm b u (by rw [upd_ne ne]; exact z)
    have el : ∀ b, b ≠ p → (fun b => if b = p then none else B' b) b = B' b := fun b ne => if_neg ne
    have ne2 : p2 ≠ p := fun z => by
      subst z
      rw [hBp] at hb2
      cases hb2
    refine q p2 (fun b => if b = p then none else B' b) H' ⟨S.b0.trans sB, fun b u z => ?_, S2.fh, fun b u z => ?_, by rw [S.len, hl], fun j s hj => ?_, fun j k dj dk q hj hk ej ek => ?_⟩ sB (by show (if p2 = p then none else B' p2) = none; rw [if_neg ne2]; exact hb2) hf2 (w2.less hBp el n) fun j dj hj ej => ?_
    · have z' : (if b = p then none else B' b) = some u := z
      by_cases eb : b = p
      · rw [if_pos eb] at z'
        cases z'
      · rw [if_neg eb] at z'
        exact S2.bh _ _ z'
    · have ne : b ≠ p := fun q => by
        subst q
        rw [hf] at z
        cases z
      show (if b = p then none else B' b) = none
      rw [if_neg ne]
      exact S2.fb _ _ z
    · by_cases ji : j = i
      · subst ji
        rw [h1] at hj
        cases hj
        rw [e]
        refine ⟨p, rfl, if_pos rfl, hf, .lst hHp (r.up sB)⟩
      · have hj2 : (Γ1.set i (.va (.lst ds)))[j]? = some s := by
          rw [List.getElem?_set_ne (Ne.symm ji)]
          exact hj
        have z := S2.sl j s hj2
        cases s with
        | un => trivial
        | va x =>
          obtain ⟨v, ev, av⟩ := S.sl j _ (hg j x hj)
          exact ⟨v, ev, av.up sB⟩
        | ow x =>
          obtain ⟨r2, er, nr, fr, wr⟩ := z
          have npr : r2 ≠ p := fun z => by
            subst z
            rw [hBp] at nr
            cases nr
          exact ⟨r2, er, by show (if r2 = p then none else B' r2) = none; rw [if_neg npr]; exact nr, fr, wr.less hBp el (ok j _ ji hj)⟩
    · by_cases ji : j = i
      · by_cases ki : k = i
        · rw [ji, ki]
        · subst ji
          rw [e] at ej
          cases ej
          obtain ⟨r2, er, nr, _⟩ := S2.ow (i := k) (d := dk) (by rw [List.getElem?_set_ne (Ne.symm ki)]; exact hk)
          rw [ek] at er
          cases er
          rw [hBp] at nr
          cases nr
      · by_cases ki : k = i
        · subst ki
          rw [e] at ek
          cases ek
          obtain ⟨r2, er, nr, _⟩ := S2.ow (i := j) (d := dj) (by rw [List.getElem?_set_ne (Ne.symm ji)]; exact hj)
          rw [ej] at er
          cases er
          rw [hBp] at nr
          cases nr
        · exact S2.ap j k dj dk q (by rw [List.getElem?_set_ne (Ne.symm ji)]; exact hj) (by rw [List.getElem?_set_ne (Ne.symm ki)]; exact hk) ej ek
    · by_cases ji : j = i
      · subst ji
        rw [e] at ej
        cases ej
        exact ne2 rfl
      · exact ap2 j dj (by rw [List.getElem?_set_ne (Ne.symm ji)]; exact hj) ej
end
end Y
set_option maxHeartbeats 4000000
/-! contracts whose result is one of several -/
namespace Y
open PySem L2
abbrev spVR (K : PySem.W.Frag) {α β : Type} (pre : α → Prop) (vin : α → List D) (rel : α → β → Prop) (res : α → β → Res) : Sp := fun vs H Q E => ∃ (a : α) (B0 F B : Hp), pre a ∧ Sat ⟨K, B0, F⟩ ((vin a).map .va) (vs.map some) B H ∧ ∀ r, rel a r → Post K B0 F B vs Q E ((res a r).out ((vin a).map .va))
abbrev spPR (K : PySem.W.Frag) {α β : Type} (pre : α → Prop) (din : α → D) (vin : α → List D) (rel : α → β → Prop) (dout : α → β → D) (res : α → β → Res) : Sp := fun vs H Q E => ∃ (a : α) (B0 F B : Hp), pre a ∧ Sat ⟨K, B0, F⟩ (.ow (din a) :: (vin a).map .va) (vs.map some) B H ∧ ∀ r, rel a r → Post K B0 F B vs Q E ((res a r).out (.ow (dout a r) :: (vin a).map .va))
section
variable {P : Program} {w : World} {K : PySem.W.Frag} {mg : Str → Option Value} {base : Heap} {x qual : Str} {params : Arguments} {body : List Stmt} {scope : Scope} {f : Addr} {fd : FuncData} {N ps : List Str} {k : Nat} {α β : Type} {pre : α → Prop} {rel : α → β → Prop} {vin : α → List D} {din : α → D} {dout : α → β → D} {res : α → β → Res} {CX : CXT} {dvs : List V} {kws : List (Str × V)}
theorem ok_VR (Fn : FunD K x qual params body scope dvs kws f fd) (Sc : FnScope N ps scope) (hlen : ∀ a, pre a → (vin a).length = ps.length) {t : XK → TS} {n : Nat} (hn : N.length = ps.length + n)
    (hb : ∀ (cdv : Value) (A : Around) (outer : List Env) (s : Shared) (H : Hp) (E : XK), Room k (A.deeper (PyProof.Rows.envOfC qual scope s.heap.objs.size f cdv)) → PSs (cxOf CX P w K mg base N qual scope f cdv A outer s H E) body (t E))
    (hr : ∀ a, pre a → ∀ (B0 F : Hp) (R : VK) (E : XK), (∀ r, rel a r → FitV ⟨K, B0, F⟩ R E (res a r)) → To ⟨K, B0, F⟩ none ((vin a).map .va ++ List.replicate n .un) (t E { nx := fun _ H' => R .non H', rt := R })) :
    FnOk P w K mg base CX (k + 1) f fd ps (spVR K pre vin rel res) := by
  refine Fn.ok Sc (fun vs H Q E h => ?_) (fun cdv A outer s H vs Q E hro h => ⟨t E, hb cdv A outer s H E hro, ?_⟩)
  · obtain ⟨a, B0, F, B, hp, S, _⟩ := h
    have := S.len
    rw [← hlen a hp]
    simpa using this
  · obtain ⟨a, B0, F, B, hp, S, post0⟩ := h
    have hl : vs.length = ps.length := by
      have := S.len
      rw [← hlen a hp]
      simpa using this
    have e : L2.start N vs = vs.map some ++ List.replicate n none := by
      unfold L2.start
      rw [hl, hn, Nat.add_sub_cancel_left]
    rw [e]
    have S1 : Sat ⟨K, B, F⟩ ((vin a).map .va) (vs.map some) B H := ⟨Same.refl _, S.bh, S.fh, S.fb, S.len, S.sl, S.ap⟩
    refine hr a hp B F Q E (fun r hrel => ?_) _ B H (S1.more n) (fun p z => by cases z)
    have post := post0 r hrel
    cases er : res a r with
    | ret d =>
      rw [er] at post
      exact fun Γ σ B' H' v S' _ av => post v B' H' (S.params S') S'.b0 av
    | own d =>
      rw [er] at post
      exact fun Γ σ B' H' v S' _ hb hf w _ => post v B' H' (S.params S') S'.b0 hb hf w fun i di hi => by
        rw [List.getElem?_map] at hi
        cases q : (vin a)[i]? <;> rw [q] at hi <;> cases hi
    | exc y ns ds =>
      rw [er] at post
      exact fun Γ σ B' H' dx S' _ hx => post dx B' H' (S.params S') S'.b0 hx
theorem ok_PR (Fn : FunD K x qual params body scope dvs kws f fd) (Sc : FnScope N ps scope) (hlen : ∀ a, pre a → (vin a).length + 1 = ps.length) {t : XK → TS} {n : Nat} (hn : N.length = ps.length + n)
    (hb : ∀ (cdv : Value) (A : Around) (outer : List Env) (s : Shared) (H : Hp) (E : XK), Room k (A.deeper (PyProof.Rows.envOfC qual scope s.heap.objs.size f cdv)) → PSs (cxOf CX P w K mg base N qual scope f cdv A outer s H E) body (t E))
    (hr : ∀ a, pre a → ∀ (B0 F : Hp) (p : Addr) (R : VK) (E : XK), (∀ r, rel a r → FitP ⟨K, B0, F⟩ p (dout a r) R E (res a r)) → To ⟨K, B0, F⟩ (some p) (.ow (din a) :: (vin a).map .va ++ List.replicate n .un) (t E { nx := fun _ H' => R .non H', rt := R })) :
    FnOk P w K mg base CX (k + 1) f fd ps (spPR K pre din vin rel dout res) := by
  refine Fn.ok Sc (fun vs H Q E h => ?_) (fun cdv A outer s H vs Q E hro h => ⟨t E, hb cdv A outer s H E hro, ?_⟩)
  · obtain ⟨a, B0, F, B, hp, S, _⟩ := h
    have := S.len
    rw [← hlen a hp]
    simpa using this
  · obtain ⟨a, B0, F, B, hp, S, post0⟩ := h
    have hl : vs.length = ps.length := by
      have := S.len
      rw [← hlen a hp]
      simpa using this
    have e : L2.start N vs = vs.map some ++ List.replicate n none := by
      unfold L2.start
      rw [hl, hn, Nat.add_sub_cancel_left]
    rw [e]
    obtain ⟨p, e0, _⟩ := S.ow (i := 0) (d := din a) rfl
    obtain ⟨vr, rfl⟩ : ∃ vr, vs = .ref p :: vr := by
      cases vs with
      | nil => simp at e0
      | cons v vr =>
        simp at e0
        exact ⟨vr, by rw [e0]⟩
    have S1 : Sat ⟨K, B, F⟩ (.ow (din a) :: (vin a).map .va) ((V.ref p :: vr).map some) B H := ⟨Same.refl _, S.bh, S.fh, S.fb, S.len, S.sl, S.ap⟩
    refine hr a hp B F p Q E (fun r hrel => ?_) _ B H (S1.more n) (fun q z => by cases z; rfl)
    have post := post0 r hrel
    cases er : res a r with
    | ret d =>
      rw [er] at post
      exact fun Γ g σ B' H' v S' hp av => post v B' H' (S.paramsP S' g (hp p rfl)) S'.b0 av
    | own d =>
      rw [er] at post
      refine fun Γ g σ B' H' v S' hp hb hf w np => post v B' H' (S.paramsP S' g (hp p rfl)) S'.b0 hb hf w fun i di hi ei => ?_
      cases i with
      | zero =>
        simp at ei
        exact np p rfl ei.symm
      | succ i =>
        have hi' : ((vin a).map Sl.va)[i]? = some (.ow di) := by simpa using hi
        rw [List.getElem?_map] at hi'
        cases q : (vin a)[i]? <;> rw [q] at hi' <;> cases hi'
    | exc y ns ds =>
      rw [er] at post
      exact fun Γ g σ B' H' dx S' hp hx => post dx B' H' (S.paramsP S' g (hp p rfl)) S'.b0 hx
end
/-! the callers of such -/
section
variable {K : PySem.W.Frag} {Γ Γ1 : List Sl} {A : Amb} {pin : Option Addr} {E : Ends} {tr : TA} {α β : Type} {pre : α → Prop} {rel : α → β → Prop} {vin : α → List D} {din : α → D} {dout : α → β → D} {res : α → β → Res} {ds : List D} {W : L2.St → XK} {d : β → D}
/-- x = f(owned, ..), a value -/
theorem to_setPR_c {i j : Nat} {ta : TA} (a : α) (T : EvA A.K ta Γ Γ1 (.o i :: (vin a).map .v)) (h1 : Γ1[i]? = some (.ow (din a))) (hp : pre a) (hr : ∀ r, rel a r → res a r = .ret (d r)) (q : ∀ r, rel a r → To A pin ((Γ1.set i (.ow (dout a r))).set j (.va (d r))) E.nx) (pk : 0 ∉ [j] ∨ pin = none := by first | exact .inl (by decide) | exact .inr rfl) :
    To A pin Γ (tAsg (tCallS (spPR A.K pre din vin rel dout res) W ta) (gName j) E) := fun σ B H S hpn => by
  refine T A.B0 A.F σ B H S _ fun vs B1 H1 S1 s1 a1 => ?_
  cases a1 with
  | cons g r =>
    obtain ⟨p, e, hbp, hfp, _⟩ := S1.ow h1
    have e2 : σ[i]? = some (some _) := g
    rw [e] at e2
    cases e2
    refine ⟨a, B1, cut B1 H1 [p], B1, hp, call_own S1 h1 e r.ats, fun b hb => ?_⟩
    rw [hr b hb]
    intro v B2 H2 S2 s2 av
    exact q b hb _ B2 H2 ((S1.backO h1 e S2).set_va j av) (pin_set pk hpn)
theorem to_setPR {i j : Nat} {d0 : D} (a : α) (h0 : Γ[i]? = some (.ow d0)) (h : EvL A.K tr Γ Γ1 ds) (h1 : Γ1[i]? = some (.ow (din a))) (hv : vin a = ds) (hp : pre a) (hr : ∀ r, rel a r → res a r = .ret (d r)) (q : ∀ r, rel a r → To A pin ((Γ1.set i (.ow (dout a r))).set j (.va (d r))) E.nx) (pk : 0 ∉ [j] ∨ pin = none := by first | exact .inl (by decide) | exact .inr rfl) :
    To A pin Γ (tAsg (tCallS (spPR A.K pre din vin rel dout res) W (tCons (tVar i) tr)) (gName j) E) := by
  subst hv
  exact to_setPR_c a (ea_own h0 h) h1 hp hr q pk
/-- x = f(owned, ..), owned -/
theorem to_setOPR_c {i j : Nat} {ta : TA} (a : α) (T : EvA A.K ta Γ Γ1 (.o i :: (vin a).map .v)) (h1 : Γ1[i]? = some (.ow (din a))) (hp : pre a) (hr : ∀ r, rel a r → res a r = .own (d r)) (q : ∀ r, rel a r → To A pin ((Γ1.set i (.ow (dout a r))).set j (.ow (d r))) E.nx) (pk : 0 ∉ [j] ∨ pin = none := by first | exact .inl (by decide) | exact .inr rfl) :
    To A pin Γ (tAsg (tCallS (spPR A.K pre din vin rel dout res) W ta) (gName j) E) := fun σ B H S hpn => by
  refine T A.B0 A.F σ B H S _ fun vs B1 H1 S1 s1 a1 => ?_
  cases a1 with
  | cons g r =>
    obtain ⟨p, e, hbp, hfp, _⟩ := S1.ow h1
    have e2 : σ[i]? = some (some _) := g
    rw [e] at e2
    cases e2
    refine ⟨a, B1, cut B1 H1 [p], B1, hp, call_own S1 h1 e r.ats, fun b hb => ?_⟩
    rw [hr b hb]
    intro p2 B2 H2 S2 s2 b1 b2 w ap2
    have np : p2 ≠ p := fun z => ap2 0 (dout a b) rfl (by rw [z]; rfl)
    refine q b hb _ B2 H2 ((S1.backO h1 e S2).set_ow j b1 ?_ w fun m dj _ hj ej => ?_) (pin_set pk hpn)
    · cases ef : A.F p2 with
      | none => rfl
      | some o => exact absurd b2 (by rw [show (cut B1 H1 [p]) p2 = some o from cut_of (S1.fb _ _ ef) (by simpa using np) (S1.fh _ _ ef)]; simp)
    · rcases set_get hj with ⟨rfl, z⟩ | ⟨_, hj⟩
      · rw [e] at ej
        cases ej
        exact np rfl
      · obtain ⟨p', e', n, _, w'⟩ := S1.ow hj
        rw [ej] at e'
        cases e'
        obtain ⟨u, hu⟩ := w'.there
        exact absurd b2 (by rw [show (cut B1 H1 [p]) p2 = some u from cut_of n (by simpa using np) hu]; simp)
theorem to_setOPR {i j : Nat} {d0 : D} (a : α) (h0 : Γ[i]? = some (.ow d0)) (h : EvL A.K tr Γ Γ1 ds) (h1 : Γ1[i]? = some (.ow (din a))) (hv : vin a = ds) (hp : pre a) (hr : ∀ r, rel a r → res a r = .own (d r)) (q : ∀ r, rel a r → To A pin ((Γ1.set i (.ow (dout a r))).set j (.ow (d r))) E.nx) (pk : 0 ∉ [j] ∨ pin = none := by first | exact .inl (by decide) | exact .inr rfl) :
    To A pin Γ (tAsg (tCallS (spPR A.K pre din vin rel dout res) W (tCons (tVar i) tr)) (gName j) E) := by
  subst hv
  exact to_setOPR_c a (ea_own h0 h) h1 hp hr q pk
/-- x = f(..) of values -/
theorem to_setVR {j : Nat} (a : α) (h : EvL A.K tr Γ Γ1 ds) (hv : vin a = ds) (hp : pre a) (hr : ∀ r, rel a r → res a r = .ret (d r)) (q : ∀ r, rel a r → To A pin (Γ1.set j (.va (d r))) E.nx) (pk : 0 ∉ [j] ∨ pin = none := by first | exact .inl (by decide) | exact .inr rfl) :
    To A pin Γ (tAsg (tCallS (spVR A.K pre vin rel res) W tr) (gName j) E) := fun σ B H S hpn => by
  subst hv
  refine h A.B0 A.F σ B H S _ fun vs B1 H1 S1 s1 a1 => ?_
  refine ⟨a, B1, cut B1 H1 [], B1, hp, call_vals S1 a1.ats, fun b hb => ?_⟩
  rw [hr b hb]
  intro v B2 H2 S2 s2 av
  exact q b hb _ B2 H2 ((S1.back S2).set_va j av) (pin_set pk hpn)
/-- return f(owned, ..) -/
theorem to_retPR_c {i : Nat} {ta : TA} (a : α) (T : EvA A.K ta Γ Γ1 (.o i :: (vin a).map .v)) (h1 : Γ1[i]? = some (.ow (din a))) (hp : pre a) (hr : ∀ r, rel a r → res a r = .ret (d r)) (q : ∀ r, rel a r → Rt A pin (Γ1.set i (.ow (dout a r))) (d r) E.rt) :
    To A pin Γ (tRet (tCallS (spPR A.K pre din vin rel dout res) W ta) E) := fun σ B H S hpn => by
  refine T A.B0 A.F σ B H S _ fun vs B1 H1 S1 s1 a1 => ?_
  cases a1 with
  | cons g r =>
    obtain ⟨p, e, hbp, hfp, _⟩ := S1.ow h1
    have e2 : σ[i]? = some (some _) := g
    rw [e] at e2
    cases e2
    refine ⟨a, B1, cut B1 H1 [p], B1, hp, call_own S1 h1 e r.ats, fun b hb => ?_⟩
    rw [hr b hb]
    intro v B2 H2 S2 s2 av
    exact q b hb _ B2 H2 _ (S1.backO h1 e S2) hpn av
theorem to_retPR {i : Nat} {d0 : D} (a : α) (h0 : Γ[i]? = some (.ow d0)) (h : EvL A.K tr Γ Γ1 ds) (h1 : Γ1[i]? = some (.ow (din a))) (hv : vin a = ds) (hp : pre a) (hr : ∀ r, rel a r → res a r = .ret (d r)) (q : ∀ r, rel a r → Rt A pin (Γ1.set i (.ow (dout a r))) (d r) E.rt) :
    To A pin Γ (tRet (tCallS (spPR A.K pre din vin rel dout res) W (tCons (tVar i) tr)) E) := by
  subst hv
  exact to_retPR_c a (ea_own h0 h) h1 hp hr q
end
end Y
set_option maxHeartbeats 4000000
/-! loops with one name; sizes -/
namespace Y
open PySem L2
section
variable {K : PySem.W.Frag} {Γ Γ1 : List Sl} {A : Amb} {pin : Option Addr} {E : Ends} {tt : TS}
theorem to_forN {α : Type} (G : Nat → α → List Sl) (Ok : Nat → α → Prop) {wi : TI} {v n : Nat} {it : Nat → D} {a0 : α} (hi : EvI A.K wi Γ Γ1 n it) (h0 : Ok 0 a0) (e0 : Γ1 = G 0 a0)
    (hs : ∀ B1, Same A.B0 B1 → ∀ i a, i < n → Ok i a → ∀ N, (∀ a', Ok (i + 1) a' → To (A.at B1) pin (G (i + 1) a') N) → To (A.at B1) pin ((G i a).set v (.va (it i))) (tt { E with nx := N, ct := N, bk := E.nx }))
    (hd : ∀ a, Ok n a → To A pin (G n a) E.nx) (pk : 0 ∉ [v] ∨ pin = none := by first | exact .inl (by decide) | exact .inr rfl) : To A pin Γ (tFor wi (gName v) tt E) :=
  to_for G Ok hi h0 e0 (fun B1 sb i a hl ho N hN => ⟨_, _, tg_name, pk, hs B1 sb i a hl ho N hN⟩) hd
theorem to_setS {i : Nat} {te : TE} {d : D} (h : Ev A.K te Γ Γ d) (q : To A pin (Γ.set i (.va d)) E.nx) (pk : 0 ∉ [i] ∨ pin = none := by first | exact .inl (by decide) | exact .inr rfl) : To A pin Γ (tAsg te (gName i) E) := to_set h q pk
theorem to_setOS {i : Nat} {te : TE} {d : D} (h : EvO A.K te Γ Γ d) (q : To A pin (Γ.set i (.ow d)) E.nx) (pk : 0 ∉ [i] ∨ pin = none := by first | exact .inl (by decide) | exact .inr rfl) : To A pin Γ (tAsg te (gName i) E) := to_setO h q pk
theorem to_ifS {c : TT} {b : Bool} {t1 t2 : TS} (h : EvT A.K c Γ Γ b) (h1 : b = true → To A pin Γ (t1 E)) (h2 : b = false → To A pin Γ (t2 E)) : To A pin Γ (tIfS c t1 t2 E) := to_if h h1 h2
theorem to_retS {te : TE} {d : D} (h : Ev A.K te Γ Γ d) (q : Rt A pin Γ d E.rt) : To A pin Γ (tRet te E) := to_ret h q
theorem to_retO0 {te : TE} {d : D} (h : EvO A.K te Γ Γ1 d) (q : RtO A none Γ1 d E.rt) : To A none Γ (tRet te E) := to_retO (d0 := .non) h q fun p e => by cases e
theorem to_retOwn0 {i : Nat} {d : D} (h : Γ[i]? = some (.ow d)) (q : RtO A none (Γ.set i .un) d E.rt) : To A none Γ (tRet (tVar i) E) := to_retOwn h q fun p e => by cases e
theorem eqv_int {i j : Int} : PyData.eqv (.int i) (.int j) = decide (i = j) := by
  simp [PyData.eqv]
  rw [Bool.eq_iff_iff]
  simp
theorem el_1 {ta : TE} {x : D} (h : Ev K ta Γ Γ1 x) : EvL K (tCons ta tNil) Γ Γ1 [x] := el_cons h el_nil
end
/-! what a reading says -/
abbrev Fin (R : VK) : Ends := { nx := fun _ H' => R .non H', rt := R }
abbrev RdV (K : PySem.W.Frag) (t : XK → TS) (n : Nat) {α : Type} (pre : α → Prop) (vin : α → List D) (res : α → Res) : Prop := ∀ a, pre a → ∀ (B0 F : Hp) (R : VK) (E : XK), FitV ⟨K, B0, F⟩ R E (res a) → To ⟨K, B0, F⟩ none ((vin a).map .va ++ List.replicate n .un) (t E (Fin R))
abbrev RdP (K : PySem.W.Frag) (t : XK → TS) (n : Nat) {α : Type} (pre : α → Prop) (din : α → D) (vin : α → List D) (dout : α → D) (res : α → Res) : Prop := ∀ a, pre a → ∀ (B0 F : Hp) (p : Addr) (R : VK) (E : XK), FitP ⟨K, B0, F⟩ p (dout a) R E (res a) → To ⟨K, B0, F⟩ (some p) (.ow (din a) :: (vin a).map .va ++ List.replicate n .un) (t E (Fin R))
abbrev RdVR (K : PySem.W.Frag) (t : XK → TS) (n : Nat) {α β : Type} (pre : α → Prop) (vin : α → List D) (rel : α → β → Prop) (res : α → β → Res) : Prop := ∀ a, pre a → ∀ (B0 F : Hp) (R : VK) (E : XK), (∀ r, rel a r → FitV ⟨K, B0, F⟩ R E (res a r)) → To ⟨K, B0, F⟩ none ((vin a).map .va ++ List.replicate n .un) (t E (Fin R))
abbrev RdPR (K : PySem.W.Frag) (t : XK → TS) (n : Nat) {α β : Type} (pre : α → Prop) (din : α → D) (vin : α → List D) (rel : α → β → Prop) (dout : α → β → D) (res : α → β → Res) : Prop := ∀ a, pre a → ∀ (B0 F : Hp) (p : Addr) (R : VK) (E : XK), (∀ r, rel a r → FitP ⟨K, B0, F⟩ p (dout a r) R E (res a r)) → To ⟨K, B0, F⟩ (some p) (.ow (din a) :: (vin a).map .va ++ List.replicate n .un) (t E (Fin R))
/-! a statement and what follows -/
section
variable {K : PySem.W.Frag} {Γ Γ1 Γ2 : List Sl} {A : Amb} {pin : Option Addr} {E : Ends} {t2 tt : TS} {te : TE} {d : D} {i : Nat}
theorem sq_set (h : Ev A.K te Γ Γ1 d) (q : To A pin (Γ1.set i (.va d)) (t2 E)) (pk : 0 ∉ [i] ∨ pin = none := by first | exact .inl (by decide) | exact .inr rfl) : To A pin Γ (tSeq (tAsg te (gName i)) t2 E) := to_set (E := { E with nx := t2 E }) h q pk
theorem sq_setS (h : Ev A.K te Γ Γ d) (q : To A pin (Γ.set i (.va d)) (t2 E)) (pk : 0 ∉ [i] ∨ pin = none := by first | exact .inl (by decide) | exact .inr rfl) : To A pin Γ (tSeq (tAsg te (gName i)) t2 E) := sq_set h q pk
theorem sq_setO (h : EvO A.K te Γ Γ1 d) (q : To A pin (Γ1.set i (.ow d)) (t2 E)) (pk : 0 ∉ [i] ∨ pin = none := by first | exact .inl (by decide) | exact .inr rfl) : To A pin Γ (tSeq (tAsg te (gName i)) t2 E) := to_setO (E := { E with nx := t2 E }) h q pk
theorem sq_setOS (h : EvO A.K te Γ Γ d) (q : To A pin (Γ.set i (.ow d)) (t2 E)) (pk : 0 ∉ [i] ∨ pin = none := by first | exact .inl (by decide) | exact .inr rfl) : To A pin Γ (tSeq (tAsg te (gName i)) t2 E) := sq_setO h q pk
theorem sq_drop (h : Ev A.K te Γ Γ1 d) (q : To A pin Γ1 (t2 E)) : To A pin Γ (tSeq (tDrop te) t2 E) := to_drop (E := { E with nx := t2 E }) h q
theorem sq_append {ds : List D} (h0 : Γ[i]? = some (.ow (.lst ds))) (h : Ev A.K te Γ Γ d) (hl : ds.length < 16777216) (q : To A pin (Γ.set i (.ow (.lst (ds ++ [d])))) (t2 E)) : To A pin Γ (tSeq (tDrop (tBM A.K "list" rAppend (tVar i) (tCons te tNil))) t2 E) := to_append (d0 := d) (E := { E with nx := t2 E }) h0 h h0 hl q
theorem ap_end {ds : List D} (h0 : Γ[i]? = some (.ow (.lst ds))) (h : Ev A.K te Γ Γ d) (hl : ds.length < 16777216) (q : To A pin (Γ.set i (.ow (.lst (ds ++ [d])))) E.nx) : To A pin Γ (tDrop (tBM A.K "list" rAppend (tVar i) (tCons te tNil)) E) := to_append (d0 := d) h0 h h0 hl q
theorem sq_setI {ds : List D} {k : Int} {j : Nat} {ti : TE} (h : Ev A.K te Γ Γ d) (h1 : Γ[i]? = some (.ow (.lst ds))) (hi : Ev A.K ti Γ Γ (.int k)) (hj : ixN ds.length k = some j) (q : To A pin (Γ.set i (.ow (.lst (ds.set j d)))) (t2 E)) : To A pin Γ (tSeq (tAsg te (gSub (tVar i) ti rSetL)) t2 E) := to_setI (ds2 := ds) (E := { E with nx := t2 E }) h h1 hi h1 hj q
/-- an if that ends the way or goes on -/
theorem sq_if {c : TT} {b : Bool} {t1 : TS} (h : EvT A.K c Γ Γ b) (h1 : b = true → To A pin Γ (t1 { E with nx := t2 E })) (h2 : b = false → To A pin Γ (t2 E)) : To A pin Γ (tSeq (tIfS c t1 tNext) t2 E) := to_if (E := { E with nx := t2 E }) (t2 := tNext) h h1 fun z => to_next (h2 z)
/-- two ways are joined -/
theorem sq_cut (Γj : List Sl) {t1 : TS} (h : ∀ N, To A pin Γj N → To A pin Γ (t1 { E with nx := N })) (q : To A pin Γj (t2 E)) : To A pin Γ (tSeq t1 t2 E) := h _ q
theorem sq_for {α : Type} (G : Nat → α → List Sl) (Ok : Nat → α → Prop) {wi : TI} {v n : Nat} {it : Nat → D} {a0 : α} (hi : EvI A.K wi Γ Γ1 n it) (h0 : Ok 0 a0) (e0 : Γ1 = G 0 a0)
    (hs : ∀ B1, Same A.B0 B1 → ∀ i a, i < n → Ok i a → ∀ N, (∀ a', Ok (i + 1) a' → To (A.at B1) pin (G (i + 1) a') N) → To (A.at B1) pin ((G i a).set v (.va (it i))) (tt { nx := N, ct := N, bk := t2 E, rt := E.rt }))
    (hd : ∀ a, Ok n a → To A pin (G n a) (t2 E)) (pk : 0 ∉ [v] ∨ pin = none := by first | exact .inl (by decide) | exact .inr rfl) : To A pin Γ (tSeq (tFor wi (gName v) tt) t2 E) := to_forN (E := { E with nx := t2 E }) G Ok hi h0 e0 hs hd pk
theorem sq_while {α : Type} {c : TT} (I : α → List Sl) (Ok : α → Prop) (m : α → Nat) (bt : α → Bool) {a0 : α} (h0 : Ok a0) (e0 : Γ = I a0) (ht : ∀ a, Ok a → EvT A.K c (I a) (I a) (bt a))
    (hs : ∀ a, Ok a → bt a = true → ∀ N, (∀ a', Ok a' → m a' < m a → To A pin (I a') N) → To A pin (I a) (tt { nx := N, ct := N, bk := t2 E, rt := E.rt })) (hd : ∀ a, Ok a → bt a = false → To A pin (I a) (t2 E)) : To A pin Γ (tSeq (tWhile c tt) t2 E) := to_while (E := { E with nx := t2 E }) I Ok m bt h0 e0 ht hs hd
end
/-- try .. except: the wish of the body -/
def tTry (tb : WX → TS) (Wf : Ends → WX) : TS := fun D σ H => tb (Wf D) D σ H
theorem to_try {Γ : List Sl} {A : Amb} {pin : Option Addr} {E : Ends} {tb : WX → TS} {Wf : Ends → WX} (h : To A pin Γ (tb (Wf E) E)) : To A pin Γ (tTry tb Wf E) := h
theorem to_tryX {Γ Γx : List Sl} {A : Amb} {pin : Option Addr} {E : Ends} {tb : WX → TS} {Wf : Ends → WX} {x : Str} {ns : List Str} {ds : List D} (key : ∀ W, Xw A pin Γx x ns ds W → To A pin Γ (tb W E)) (h : Xw A pin Γx x ns ds (Wf E)) : To A pin Γ (tTry tb Wf E) := key _ h
theorem ev_slT {K : PySem.W.Frag} {Γ Γ1 Γ2 Γ3 : List Sl} {ta : TE} {tl th : TO} {ds : List D} {lo hi : Option Int} (h : Ev K ta Γ Γ1 (.tup ds)) (h1 : EvP K tl Γ1 Γ2 lo) (h2 : EvP K th Γ2 Γ3 hi) : Ev K (tSl (rSlA K) ta tl th) Γ Γ3 (.tup (cutD ds lo hi)) := fun B0 F σ B H S Q q =>
  h B0 F σ B H S _ fun v B1 H1 S1 s1 a1 => h1 B0 F σ B1 H1 S1 _ fun B2 H2 S2 s2 => h2 B0 F σ B2 H2 S2 _ fun B3 H3 S3 s3 => by
    cases a1.up (s2.trans s3) with
    | @tup a vs _ hh r =>
      refine ⟨a, vs, rfl, same_t S3.bh hh, fun hw => ?_, fun _ p hp => q _ _ _ (S3.new hp) (((s1.trans s2).trans s3).trans (S3.same hp)) (.tup (SqT.of upd_same) ((r.cut _ _).up (S3.same hp)))⟩
      refine q _ B3 H3 S3 ((s1.trans s2).trans s3) ?_
      have e : cutD ds lo hi = ds := by
        rw [r.length] at hw
        unfold cutD
        rw [hw.1, hw.2]
        simp
      rw [e]
      exact .tup hh r
theorem ev_catA {K : PySem.W.Frag} {Γ Γ1 Γ2 : List Sl} {ta tb : TE} {xs ys : List D} (ha : Ev K ta Γ Γ1 (.tup xs)) (hb : Ev K tb Γ1 Γ2 (.tup ys)) (hl : xs.length + ys.length ≤ 16777216) : Ev K (tOp (rCatA K) ta tb) Γ Γ2 (.tup (xs ++ ys)) := fun B0 F σ B H S Q q =>
  ha B0 F σ B H S _ fun vx B1 H1 S1 s1 a1 => hb B0 F σ B1 H1 S1 _ fun vy B2 H2 S2 s2 a2 => by
    cases a1.up s2 with
    | @tup a vs _ h1 r1 =>
      cases a2 with
      | @tup b ws _ h2 r2 =>
        refine ⟨a, b, vs, ws, rfl, rfl, same_t S2.bh h1, same_t S2.bh h2, line_of (by rw [r1.length, r2.length]; exact hl), fun z => ?_, fun _ z => ?_, fun _ _ p hp => q _ _ _ (S2.new hp) ((s1.trans s2).trans (S2.same hp)) (.tup (SqT.of upd_same) ((r1.append r2).up (S2.same hp)))⟩
        · subst z
          cases r1
          exact q _ B2 H2 S2 (s1.trans s2) (.tup h2 r2)
        · subst z
          cases r2
          exact q _ B2 H2 S2 (s1.trans s2) (by rw [List.append_nil]; exact .tup h1 r1)
theorem two_lt {a b : Nat} (h : a ≤ b) : 2 ^ a ≤ 2 ^ b := Nat.pow_le_pow_right (by decide) h
theorem cmul {i j : Int} {a b : Nat} (h1 : i.natAbs < 2 ^ a) (h2 : j.natAbs < 2 ^ b) (ha : 0 < a := by decide) (hb : 0 < b := by decide) (h : a + b ≤ 1000000 := by decide) : CMulW i j := wide_mul h1 h2 ha hb h
theorem natAbs_lt {i : Int} {a : Nat} (h1 : -(2 ^ a : Int) < i) (h2 : i < (2 : Int) ^ a) : i.natAbs < 2 ^ a := by
  have e : ((2 ^ a : Nat) : Int) = (2 : Int) ^ a := by
    rw [Int.natCast_pow]
    rfl
  omega
theorem pow_small {b : Int} {k n m : Nat} (h : b.natAbs < 2 ^ k) (hm : k * n < m) : (b ^ n).natAbs < 2 ^ m := by
  rw [Int.natAbs_pow]
  have h1 : b.natAbs ^ n ≤ (2 ^ k) ^ n := Nat.pow_le_pow_left (Nat.le_of_lt h) n
  rw [← Nat.pow_mul] at h1
  exact Nat.lt_of_le_of_lt h1 (Nat.pow_lt_pow_right (by decide) hm)
theorem small_of {i : Int} {a b : Nat} (h : i.natAbs < 2 ^ a) (hab : a ≤ b) : i.natAbs < 2 ^ b := Nat.lt_of_lt_of_le h (two_lt hab)
/-- small enough for every product -/
def Sm (i : Int) : Prop := i.natAbs < 2 ^ 300000
theorem sm_mul {i j : Int} (h1 : Sm i) (h2 : Sm j) : CMulW i j := cmul h1 h2
theorem sm_pow {b : Int} {n : Nat} (h0 : -(2 ^ 60) < b) (h : b < 2 ^ 60) (hn : n ≤ 4000) : Sm (b ^ n) := pow_small (k := 60) (natAbs_lt h0 h) (Nat.lt_of_le_of_lt (Nat.mul_le_mul_left 60 hn) (by decide))
theorem sm_of {i : Int} (h1 : -(2 ^ 200 : Int) < i) (h2 : i < (2 : Int) ^ 200) : Sm i := small_of (natAbs_lt h1 h2) (by decide)
theorem cdiv {i j : Int} (h : 0 < j) (h2 : j < 2 ^ 200) : CDivW i j := wide_div (b := 200) h (by omega) (by decide) (by decide)
end Y
set_option maxHeartbeats 4000000
namespace Z46
open PySem PySem.Spec PyProof.Rows L2 Y
def top (i : Nat) : Stmt := PySem.Challenge.pw_primedeep_k46_shuffles_at_every_depth.main.body.getD i (.Pass ⟨0, 0, 0, 0⟩)
def inClass (s : Stmt) (j : Nat) : Stmt := match s with
  | .ClassDef _ _ _ body _ _ _ _ _ _ _ => body.getD j (.Pass ⟨0, 0, 0, 0⟩)
  | _ => .Pass ⟨0, 0, 0, 0⟩
/-! ### what is reckoned -/
def begun (l : List Int) : List Int := 0 :: (l.take 63).map fun x => (x.natAbs : Int)
/-- a draw: what it tells, the pool behind it -/
def dr (l : List Int) (b q : Int) : Int × List Int :=
  if l.length = 1 then (q % b, l) else ((gi l (1 + gi l 0 % ((l.length : Int) - 1)) + q) % b, (l.set 0 (gi l 0 + 1)).set (1 + gi l 0 % ((l.length : Int) - 1)).toNat (gi l (1 + gi l 0 % ((l.length : Int) - 1)) / b))
theorem dr_len {l : List Int} {b q : Int} : (dr l b q).2.length = l.length := by
  unfold dr
  split
  · rfl
  · simp
theorem dr_lo {l : List Int} {b q : Int} (h : 0 < b) : 0 ≤ (dr l b q).1 := by
  unfold dr
  split
  · exact Int.emod_nonneg _ (by omega)
  · exact Int.emod_nonneg _ (by omega)
theorem dr_hi {l : List Int} {b q : Int} (h : 0 < b) : (dr l b q).1 < b := by
  unfold dr
  split
  · exact Int.emod_lt_of_pos _ h
  · exact Int.emod_lt_of_pos _ h
/-- the level of i, the depth of n -/
def lvlF (p : Nat) : Nat → Nat → Nat
  | 0, _ => 0
  | f + 1, i => if p ≤ i then lvlF p f (i / p) + 1 else 0
def lvl (p i : Nat) : Nat := lvlF p i i
def depF (p : Int) : Nat → Int → Nat
  | 0, _ => 0
  | f + 1, n => if n % p = 0 then depF p f (n / p) + 1 else 0
def dep (p n : Int) : Nat := depF p n.natAbs n
def bndL (p : Int) (row : List Int) : List Int := ((List.range ((row.length : Int) - 1).toNat).filter fun (i : Nat) => !decide (gi row (1 + (i : Int)) = 0)).map fun (i : Nat) => (lvl p.toNat (1 + i) : Int) - (dep p (gi row (1 + (i : Int))) : Int)
def bnd (p : Int) (row : List Int) : D := if bndL p row = [] then .non else .int (maxL (bndL p row))
def mah (p : Int) (r : List Int) : D := .obj "Mahler" ["p", "row"] [.int p, .tup (zs r)]
def trim (r : List Int) : List Int := r.take (trimN r r.length) where
  trimN (r : List Int) : Nat → Nat
    | 0 => 0
    | 1 => 1
    | n + 2 => if gi r (n + 1) = 0 then trimN r (n + 1) else n + 2
def ev : List Int → Nat → Int
  | r, 0 => gi r 0
  | r, x + 1 => ev r x + ev r.tail x
def resid (row : List Int) (m : Nat) : List Int := (List.range m).map fun x => ev row x % m
/-- the first two that meet -/
def meetD (l : List Int) : D := match (List.range l.length).find? (fun y => decide (gi l y ∈ l.take y)) with
  | none => .non
  | some y => .tup [.int (l.idxOf (gi l y)), .int y]
def looks (p : Int) (s : Nat) (good : D) : Res := if 2500 < p ^ (s + 1) then .exc "SizeError" ["count"] [.int (p ^ (s + 1))] else .ret good
def lookR (p : Int) (row : List Int) (s : Nat) (good : D) : Res := if bndL p row ≠ [] ∧ 0 < maxL (bndL p row) then .exc "RangeError" ["number"] [.int (maxL (bndL p row))] else looks p s good
structure LookOk (p : Int) (row : List Int) (s : Nat) : Prop where
  p2 : 2 ≤ p
  p3 : p < 1000
  len : row.length ≤ 1000
  n0 : row ≠ []
  hi : (row.length : Int) ≤ p ^ s
  lo : s = 0 ∨ p ^ (s - 1) < row.length
/-! ### the contracts -/
section
variable (K : PySem.W.Frag)
def sp__law_begin : Sp := spV K (fun l : List Int => l.length ≤ 63) (fun l => [.lsr (zs l)]) fun l => .own (.lst (zs (begun l)))
def sp__law_draw : Sp := spP K (fun a : List Int × Int × Int => a.1 ≠ [] ∧ 0 < a.2.1 ∧ a.2.1 < 2 ^ 200) (fun a => .lst (zs a.1)) (fun a => [.int a.2.1, .int a.2.2]) (fun a => .lst (zs (dr a.1 a.2.1 a.2.2).2)) fun a => .ret (.int (dr a.1 a.2.1 a.2.2).1)
abbrev powOk (a : Int × Nat) : Prop := 0 ≤ a.1 ∧ a.1 < 2 ^ 60 ∧ a.2 ≤ 1000
def sp__law_power : Sp := spV K powOk (fun a => [.int a.1, .int a.2]) fun a => .ret (.int (a.1 ^ a.2))
def sp_power : Sp := spV K powOk (fun a => [.int a.1, .int a.2]) fun a => .ret (.int (a.1 ^ a.2))
structure LevOk (p i : Int) (L : Nat) : Prop where
  p2 : 2 ≤ p
  p3 : p < 1000
  i0 : 0 ≤ i
  hi : i < p ^ (L + 1)
  lo : L = 0 ∨ p ^ L ≤ i
  l6 : L ≤ 12
def sp__law_level : Sp := spV K (fun a : Int × Int × Nat => LevOk a.1 a.2.1 a.2.2 ∧ a.2.2 ≤ 6) (fun a => [.int a.1, .int a.2.1]) fun a => .ret (.int a.2.2)
def sp_level_of : Sp := spV K (fun a : Int × Int × Nat => LevOk a.1 a.2.1 a.2.2) (fun a => [.int a.1, .int a.2.1]) fun a => .ret (.int a.2.2)
structure ParOk (p u : Int) : Prop where
  p2 : 2 ≤ p
  p3 : p < 1000
  u0 : u % p ≠ 0
def sp_parted : Sp := spV K (fun a : Int × Nat × Int => ParOk a.1 a.2.2) (fun a => [.int a.1, .int (a.1 ^ a.2.1 * a.2.2)]) fun a => .ret (.tup [.int a.2.1, .int a.2.2])
def sp_int_depth : Sp := spV K (fun a : Int × Nat × Int => ParOk a.1 a.2.2) (fun a => [.int a.1, .int (a.1 ^ a.2.1 * a.2.2)]) fun a => .ret (.int a.2.1)
def sp_row_bound : Sp := spV K (fun a : Int × List Int => 2 ≤ a.1 ∧ a.1 < 1000 ∧ a.2.length ≤ 1000) (fun a => [.int a.1, .tup (zs a.2)]) fun a => .ret (bnd a.1 a.2)
def sp_Mahler_bound : Sp := spV K (fun a : Int × List Int => 2 ≤ a.1 ∧ a.1 < 1000 ∧ a.2.length ≤ 1000) (fun a => [mah a.1 a.2]) fun a => .ret (bnd a.1 a.2)
abbrev LkA : Type := Int × List Int × Nat
def sp_looked_depth : Sp := spV K (fun a : LkA => LookOk a.1 a.2.1 a.2.2) (fun a => [mah a.1 a.2.1]) fun a => lookR a.1 a.2.1 a.2.2 (.int (a.2.2 + 1 : Nat))
def sp_shuffle_depth : Sp := spV K (fun a : LkA => LookOk a.1 a.2.1 a.2.2) (fun a => [mah a.1 a.2.1]) fun a => lookR a.1 a.2.1 a.2.2 (.int (a.2.2 + 1 : Nat))
def meetG (a : LkA) : D := meetD (resid a.2.1 (a.1 ^ (a.2.2 + 1)).toNat)
def sp_meeting : Sp := spV K (fun a : LkA => LookOk a.1 a.2.1 a.2.2) (fun a => [mah a.1 a.2.1]) fun a => lookR a.1 a.2.1 a.2.2 (meetG a)
def sp_shuffles : Sp := spV K (fun a : LkA => LookOk a.1 a.2.1 a.2.2) (fun a => [mah a.1 a.2.1]) fun a => lookR a.1 a.2.1 a.2.2 (.bl (isN (meetG a)))
def sp_led_residues : Sp := spV K (fun a : Int × List Int × Nat => a.2.1 ≠ [] ∧ a.2.1.length ≤ 1000 ∧ 1 ≤ a.2.2 ∧ a.2.2 ≤ 100000) (fun a => [mah a.1 a.2.1, .int a.2.2]) fun a => .own (.lst (zs (resid a.2.1 a.2.2)))
def sp__law_led : Sp := spV K (fun a : List Int × Nat => a.1 ≠ [] ∧ a.1.length ≤ 1000 ∧ (∀ x ∈ a.1, x.natAbs < 2 ^ 200) ∧ 2 ≤ a.2 ∧ a.2 ≤ 100000) (fun a => [.lst (zs a.1), .int a.2]) fun a => .own (.lst (zs (resid a.1 a.2)))
def sp__law_met : Sp := spV K (fun a : List Int × Nat => a.1 ≠ [] ∧ a.1.length ≤ 1000 ∧ (∀ x ∈ a.1, x.natAbs < 2 ^ 200) ∧ 2 ≤ a.2 ∧ a.2 ≤ 100000) (fun a => [.lst (zs a.1), .int a.2]) fun a => .ret (meetD (resid a.1 a.2))
def sp__law_is : Sp := spV K (fun _ : Int × Int => True) (fun a => [.int a.1, .int a.2]) fun a => .ret (.bl (decide (a.1 = a.2)))
def sp__law_alike : Sp := spV K (fun a : List Int × List Int => a.1.length ≤ 100000 ∧ a.2.length ≤ 100000) (fun a => [.tup (zs a.1), .tup (zs a.2)]) fun a => .ret (.bl (decide (a.1 = a.2)))
def sp__law_number : Sp := spV K (fun _ : Int => True) (fun a => [.int a]) fun a => .ret (.int a)
def sp__law_trimmed : Sp := spV K (fun r : List Int => r ≠ [] ∧ r.length ≤ 1000) (fun r => [.lst (zs r)]) fun r => .own (.lst (zs (trim r)))
def sp__law_steps : Sp := spV K (fun a : LkA => LookOk a.1 a.2.1 a.2.2 ∧ a.2.2 ≤ 6) (fun a => [.int a.1, .lst (zs a.2.1)]) fun a => .ret (.int (a.2.2 + 1 : Nat))
structure IniOk (p : Int) (r : List Int) : Prop where
  pr : inD (.int p) [.int 2, .int 3, .int 5, .int 7, .int 11, .int 13, .int 17, .int 19, .int 23, .int 29, .int 31, .int 37, .int 41, .int 43, .int 47, .int 53, .int 59, .int 61, .int 67, .int 71, .int 73, .int 79, .int 83, .int 89, .int 97] = true
  n0 : r ≠ []
  len : r.length ≤ 30
  e : ∀ x ∈ r, -(10 ^ 30) ≤ x ∧ x ≤ 10 ^ 30
def sp_look_prime : Sp := spV K (fun p : Int => inD (.int p) [.int 2, .int 3, .int 5, .int 7, .int 11, .int 13, .int 17, .int 19, .int 23, .int 29, .int 31, .int 37, .int 41, .int 43, .int 47, .int 53, .int 59, .int 61, .int 67, .int 71, .int 73, .int 79, .int 83, .int 89, .int 97] = true) (fun p => [.int p]) fun _ => .ret .non
def sp_look_size : Sp := spV K (fun a : Int × Int × Int => a.2.1 ≤ a.1 ∧ a.1 ≤ a.2.2) (fun a => [.int a.1, .int a.2.1, .int a.2.2]) fun _ => .ret .non
def sp_look_range : Sp := spV K (fun a : Int × Int × Int => a.2.1 ≤ a.1 ∧ a.1 ≤ a.2.2) (fun a => [.int a.1, .int a.2.1, .int a.2.2]) fun _ => .ret .non
def sp_look_list : Sp := spV K (fun a : List Int × Int × Int => a.2.1 ≤ a.1.length ∧ a.1.length ≤ a.2.2) (fun a => [.lst (zs a.1), .int a.2.1, .int a.2.2]) fun _ => .ret .non
def sp_look_each : Sp := spV K (fun a : List Int × Int × Int => a.1.length ≤ 1000 ∧ ∀ x ∈ a.1, a.2.1 ≤ x ∧ x ≤ a.2.2) (fun a => [.lst (zs a.1), .int a.2.1, .int a.2.2]) fun _ => .ret .non
def sp_Mahler___init__ : Sp := spP K (fun a : Int × List Int => IniOk a.1 a.2) (fun _ => .obj "Mahler" [] []) (fun a => [.int a.1, .lst (zs a.2)]) (fun a => mah a.1 (trim a.2)) fun _ => .ret .non
def sp_look_listT : Sp := spV K (fun a : List Int × Int × Int => a.2.1 ≤ a.1.length ∧ a.1.length ≤ a.2.2) (fun a => [.tup (zs a.1), .int a.2.1, .int a.2.2]) fun _ => .ret .non
def sp_look_eachT : Sp := spV K (fun a : List Int × Int × Int => a.1.length ≤ 1000 ∧ ∀ x ∈ a.1, a.2.1 ≤ x ∧ x ≤ a.2.2) (fun a => [.tup (zs a.1), .int a.2.1, .int a.2.2]) fun _ => .ret .non
/-- of a tuple of one -/
def sp_MahlerT : Sp := spP K (fun a : Int × Int => IniOk a.1 [a.2]) (fun _ => .obj "Mahler" [] []) (fun a => [.int a.1, .tup (zs [a.2])]) (fun a => mah a.1 [a.2]) fun _ => .ret .non
structure EntOk (p : Int) (count : Nat) (row : List Int) : Prop where
  len : row.length = count
  e : ∀ x ∈ row, -(10 ^ 30) ≤ x ∧ x ≤ 10 ^ 30
  d : ∀ i : Nat, 1 ≤ i → i < count → p ^ lvl p.toNat i ∣ gi row i
def sp__law_entries : Sp := spPR K (fun a : List Int × Int × Nat × Bool => a.1 ≠ [] ∧ 2 ≤ a.2.1 ∧ a.2.1 ≤ 47 ∧ 1 ≤ a.2.2.1 ∧ a.2.2.1 ≤ 30) (fun a => .lst (zs a.1)) (fun a => [.int a.2.1, .int a.2.2.1, .bl a.2.2.2]) (fun a (r : List Int × List Int) => r.1 ≠ [] ∧ EntOk a.2.1 a.2.2.1 r.2) (fun _ r => .lst (zs r.1)) fun _ r => .own (.lst (zs r.2))
def wide (part rest : Int) (n : Nat) : List Int := [rest] ++ List.replicate n 0 ++ [part]
def sp__law_wide_first : Sp := spV K (fun a : Int × Nat × Int × Int => IniOk a.1 (wide a.2.2.1 a.2.2.2 (a.2.1 - 1)) ∧ 1 ≤ a.2.1 ∧ a.2.2.1 ≠ 0) (fun a => [.int a.1, .int a.2.1, .int a.2.2.1, .int a.2.2.2]) fun a => .own (mah a.1 (wide a.2.2.1 a.2.2.2 (a.2.1 - 1)))
def sp__law_same : Sp := spV K (fun a : LkA × D => LookOk a.1.1 a.1.2.1 a.1.2.2 ∧ a.1.2.2 ≤ 6 ∧ a.1.1 ^ (a.1.2.2 + 1) ≤ 2500 ∧ (bndL a.1.1 a.1.2.1 = [] ∨ maxL (bndL a.1.1 a.1.2.1) ≤ 0) ∧ a.2 = meetG a.1) (fun a => [mah a.1.1 a.1.2.1, .int a.1.1, .lst (zs a.1.2.1), a.2]) fun _ => .ret (.bl true)
def refd (p : Int) (row : List Int) (s : Nat) : D := if bndL p row ≠ [] ∧ 0 < maxL (bndL p row) then .tup [.str "range", .int (maxL (bndL p row))] else .tup [.str "size", .int (p ^ (s + 1))]
def sp__law_call : Sp := spV K (fun a : Str × LkA => (a.1 = "depth" ∨ a.1 = "meeting" ∨ a.1 = "shuffles") ∧ LookOk a.2.1 a.2.2.1 a.2.2.2 ∧ ((bndL a.2.1 a.2.2.1 ≠ [] ∧ 0 < maxL (bndL a.2.1 a.2.2.1)) ∨ 2500 < a.2.1 ^ (a.2.2.2 + 1))) (fun a => [.str a.1, mah a.2.1 a.2.2.1]) fun a => .ret (refd a.2.1 a.2.2.1 a.2.2.2)
def sp__law_refused : Sp := spPR K (fun a : List Int => a ≠ []) (fun a => .lst (zs a)) (fun _ => []) (fun _ (r : List Int) => True) (fun _ r => .lst (zs r)) fun _ _ => .ret (.bl true)
def sp_law : Sp := spV K (fun l : List Int => l.length ≤ 63) (fun l => [.lsr (zs l)]) fun _ => .ret (.bl true)
end
end Z46
set_option maxHeartbeats 4000000
namespace Z46
open PySem PySem.Spec PyProof.Rows L2 Y
/-! _law_begin -/
abbrev s__law_begin : Stmt := top 40
def N__law_begin : List Str := ["script", "number"]
theorem sc__law_begin : FnScope N__law_begin ["script"] (defScope s__law_begin) := ⟨rfl, rfl, rfl, by decide +kernel, rfl, by decide +kernel, by decide +kernel⟩
def t__law_begin (K : PySem.W.Frag) (E : XK) : TS := (tRet (tOp rCat (tLst (tCons (tC (.int 0)) tNil)) (tLc (iList K (tSl (rSlL K) (tVar 0) tNoPart (tPart (tC (.int 63))))) (gName 1) tYes (tCB rAbsQ (tCons (tVar 1) tNil)) [1])))
theorem ps__law_begin {P : Program} {w : World} {K : PySem.W.Frag} {mg : Str → Option Value} {base : Heap} {f : Addr} (bn : Bn mg)  :
    ∀ (cdv : Value) (A : Around) (outer : List Env) (s : Shared) (H : Hp) (E : XK), Room 0 (A.deeper (PyProof.Rows.envOfC "_law_begin" (defScope s__law_begin) s.heap.objs.size f cdv)) → PSs (cxOf (L2N.CX P w) P w K mg base N__law_begin "_law_begin" (defScope s__law_begin) f cdv A outer s H E) (defBody s__law_begin) (t__law_begin K E) := by
  intro cdv A outer s H E hr
  exact (pss_one (ps_ret (pe_op op_cat (pe_lst (pa_cons pe_int pa_nil)) (pe_lc (own := [("number", 1)]) (g := (gName 1)) (tt := tYes) (te := (tCB rAbsQ (tCons (tVar 1) tNil))) rfl sc__law_begin.nd (pi_list (pe_slice sl_list (pv 0) po_none (po_some pe_int))) (blkOk_by (by rfl)) (fun _ _ _ _ _ => (pg_name (i := 1) sc__law_begin.nd rfl (by first | exact Or.inl rfl | exact Or.inr rfl))) (fun _ _ _ _ _ => pts_nil) (fun _ _ _ _ _ => (pe_callB call_absQ (by rfl) bn.abs bt_abs (pa_cons (pv 1) pa_nil)))))))

/-! _law_draw -/
abbrev s__law_draw : Stmt := top 41
def N__law_draw : List Str := ["pool", "bound", "plus", "at", "cell"]
theorem sc__law_draw : FnScope N__law_draw ["pool", "bound", "plus"] (defScope s__law_draw) := ⟨rfl, rfl, rfl, by decide +kernel, rfl, by decide +kernel, by decide +kernel⟩
def t__law_draw (K : PySem.W.Frag) (E : XK) : TS := (tSeq (tIfS (tTest (tOp rEq (tCB (rLenQ K) (tCons (tVar 0) tNil)) (tC (.int 1)))) (tRet (tOp rModI (tCB rIntQ (tCons (tVar 2) tNil)) (tVar 1))) tNext) (tSeq (tAsg (tOp rAddI (tC (.int 1)) (tOp rModI (tCB rIntQ (tCons (tOp (rIx K) (tVar 0) (tC (.int 0))) tNil)) (tOp rSubI (tCB (rLenQ K) (tCons (tVar 0) tNil)) (tC (.int 1))))) (gName 3)) (tSeq (tAsg (tCB rIntQ (tCons (tOp (rIx K) (tVar 0) (tVar 3)) tNil)) (gName 4)) (tSeq (tAsg (tOp rAddI (tOp (rIx K) (tVar 0) (tC (.int 0))) (tC (.int 1))) (gSub (tVar 0) (tC (.int 0)) rSetL)) (tSeq (tAsg (tOp rDivI (tVar 4) (tVar 1)) (gSub (tVar 0) (tVar 3) rSetL)) (tRet (tOp rModI (tCB rIntQ (tCons (tOp rAddI (tVar 4) (tVar 2)) tNil)) (tVar 1))))))))
theorem ps__law_draw {P : Program} {w : World} {K : PySem.W.Frag} {mg : Str → Option Value} {base : Heap} {f : Addr} (bn : Bn mg)  :
    ∀ (cdv : Value) (A : Around) (outer : List Env) (s : Shared) (H : Hp) (E : XK), Room 0 (A.deeper (PyProof.Rows.envOfC "_law_draw" (defScope s__law_draw) s.heap.objs.size f cdv)) → PSs (cxOf (L2N.CX P w) P w K mg base N__law_draw "_law_draw" (defScope s__law_draw) f cdv A outer s H E) (defBody s__law_draw) (t__law_draw K E) := by
  intro cdv A outer s H E hr
  exact (pss_cons (ps_if (pt_cmpR op_eq (pe_callB call_lenQ (by rfl) bn.len bt_len (pa_cons (pv 0) pa_nil)) pe_int (nomark _)) (pss_one (ps_ret (pe_op op_mod (pe_callTy call_intQ (by rfl) bn.int bt_int (pa_cons (pv 2) pa_nil)) (pv 1)))) pss_nil)
    (pss_cons (ps_set (i := 3) sc__law_draw.nd rfl (by first | exact Or.inl rfl | exact Or.inr rfl) (pe_op op_add pe_int (pe_op op_mod (pe_callTy call_intQ (by rfl) bn.int bt_int (pa_cons (pe_ix ix_seq (pv 0) pe_int (fun _ _ => rfl)) pa_nil)) (pe_op op_sub (pe_callB call_lenQ (by rfl) bn.len bt_len (pa_cons (pv 0) pa_nil)) pe_int))))
    (pss_cons (ps_set (i := 4) sc__law_draw.nd rfl (by first | exact Or.inl rfl | exact Or.inr rfl) (pe_callTy call_intQ (by rfl) bn.int bt_int (pa_cons (pe_ix ix_seq (pv 0) (pv 3) (fun _ _ => rfl)) pa_nil)))
    (pss_cons (ps_asg (pe_op op_add (pe_ix ix_seq (pv 0) pe_int (fun _ _ => rfl)) pe_int) (pg_sub (pv 0) pe_int set_list))
    (pss_cons (ps_asg (pe_op op_fdivW (pv 4) (pv 1)) (pg_sub (pv 0) (pv 3) set_list))
    (pss_one (ps_ret (pe_op op_mod (pe_callTy call_intQ (by rfl) bn.int bt_int (pa_cons (pe_op op_add (pv 4) (pv 2)) pa_nil)) (pv 1)))))))))

/-! _law_power -/
abbrev s__law_power : Stmt := top 42
def N__law_power : List Str := ["base", "exponent", "result", "k"]
theorem sc__law_power : FnScope N__law_power ["base", "exponent"] (defScope s__law_power) := ⟨rfl, rfl, rfl, by decide +kernel, rfl, by decide +kernel, by decide +kernel⟩
def t__law_power (K : PySem.W.Frag) (E : XK) : TS := (tSeq (tAsg (tC (.int 1)) (gName 2)) (tSeq (tFor (iRng1 (tCons (tVar 1) tNil)) (gName 3) (tAsg (tOp rMulI (tVar 2) (tVar 0)) (gName 2))) (tRet (tVar 2))))
theorem ps__law_power {P : Program} {w : World} {K : PySem.W.Frag} {mg : Str → Option Value} {base : Heap} {f : Addr} (bn : Bn mg)  :
    ∀ (cdv : Value) (A : Around) (outer : List Env) (s : Shared) (H : Hp) (E : XK), Room 0 (A.deeper (PyProof.Rows.envOfC "_law_power" (defScope s__law_power) s.heap.objs.size f cdv)) → PSs (cxOf (L2N.CX P w) P w K mg base N__law_power "_law_power" (defScope s__law_power) f cdv A outer s H E) (defBody s__law_power) (t__law_power K E) := by
  intro cdv A outer s H E hr
  exact (pss_cons (ps_set (i := 2) sc__law_power.nd rfl (by first | exact Or.inl rfl | exact Or.inr rfl) pe_int)
    (pss_cons (ps_for (passes_of rfl) rfl (pi_range1 (by rfl) bn.range (pa_cons (pv 1) pa_nil)) (pg_name (i := 3) sc__law_power.nd rfl (by first | exact Or.inl rfl | exact Or.inr rfl)) (pss_one (ps_set (i := 2) sc__law_power.nd rfl (by first | exact Or.inl rfl | exact Or.inr rfl) (pe_op op_mulW (pv 2) (pv 0)))))
    (pss_one (ps_ret (pv 2)))))

/-! _law_level -/
abbrev s__law_level : Stmt := top 47
def N__law_level : List Str := ["p", "i", "level", "reach", "k"]
theorem sc__law_level : FnScope N__law_level ["p", "i"] (defScope s__law_level) := ⟨rfl, rfl, rfl, by decide +kernel, rfl, by decide +kernel, by decide +kernel⟩
def t__law_level (K : PySem.W.Frag) (E : XK) : TS := (tSeq (tAsg (tC (.int 0)) (gName 2)) (tSeq (tAsg (tVar 0) (gName 3)) (tSeq (tFor (iRng1 (tCons (tC (.int 6)) tNil)) (gName 4) (tIfS (tTest (tOp rLeI (tVar 3) (tVar 1))) (tSeq (tAsg (tOp rMulI (tVar 3) (tVar 0)) (gName 3)) (tAsg (tOp rAddI (tVar 2) (tC (.int 1))) (gName 2))) tNext)) (tRet (tVar 2)))))
theorem ps__law_level {P : Program} {w : World} {K : PySem.W.Frag} {mg : Str → Option Value} {base : Heap} {f : Addr} (bn : Bn mg)  :
    ∀ (cdv : Value) (A : Around) (outer : List Env) (s : Shared) (H : Hp) (E : XK), Room 0 (A.deeper (PyProof.Rows.envOfC "_law_level" (defScope s__law_level) s.heap.objs.size f cdv)) → PSs (cxOf (L2N.CX P w) P w K mg base N__law_level "_law_level" (defScope s__law_level) f cdv A outer s H E) (defBody s__law_level) (t__law_level K E) := by
  intro cdv A outer s H E hr
  exact (pss_cons (ps_set (i := 2) sc__law_level.nd rfl (by first | exact Or.inl rfl | exact Or.inr rfl) pe_int)
    (pss_cons (ps_set (i := 3) sc__law_level.nd rfl (by first | exact Or.inl rfl | exact Or.inr rfl) (pv 0))
    (pss_cons (ps_for (passes_of rfl) rfl (pi_range1 (by rfl) bn.range (pa_cons pe_int pa_nil)) (pg_name (i := 4) sc__law_level.nd rfl (by first | exact Or.inl rfl | exact Or.inr rfl)) (pss_one (ps_if (pt_cmpR op_le (pv 3) (pv 1) (nomark _)) (pss_cons (ps_set (i := 3) sc__law_level.nd rfl (by first | exact Or.inl rfl | exact Or.inr rfl) (pe_op op_mulW (pv 3) (pv 0)))
    (pss_one (ps_set (i := 2) sc__law_level.nd rfl (by first | exact Or.inl rfl | exact Or.inr rfl) (pe_op op_add (pv 2) pe_int)))) pss_nil)))
    (pss_one (ps_ret (pv 2))))))

/-! _law_entries -/
abbrev s__law_entries : Stmt := top 48
def N__law_entries : List Str := ["pool", "p", "count", "great", "kind", "top", "row", "i", "scale", "sign", "part"]
theorem sc__law_entries : FnScope N__law_entries ["pool", "p", "count", "great"] (defScope s__law_entries) := ⟨rfl, rfl, rfl, by decide +kernel, rfl, by decide +kernel, by decide +kernel⟩
def t__law_entries (K : PySem.W.Frag) (E : XK) : TS := (tSeq (tAsg (tCallS (sp__law_draw K) (fun _ => E0) (tCons (tVar 0) (tCons (tC (.int 4)) (tCons (tC (.int 0)) tNil)))) (gName 4)) (tSeq (tAsg (tC (.int 3)) (gName 5)) (tSeq (tIfS (tB (tVar 3)) (tAsg (tOp rPowI (tC (.int 10)) (tC (.int 20))) (gName 5)) tNext) (tSeq (tAsg (tLst (tCons (tOp rSubI (tCallS (sp__law_draw K) (fun _ => E0) (tCons (tVar 0) (tCons (tC (.int 19)) (tCons (tC (.int 4)) tNil)))) (tC (.int 9))) tNil)) (gName 6)) (tSeq (tFor (iRng2 (tCons (tC (.int 1)) (tCons (tVar 2) tNil))) (gName 7) (tSeq (tAsg (tCallS (sp__law_power K) (fun _ => E0) (tCons (tVar 1) (tCons (tCallS (sp__law_level K) (fun _ => E0) (tCons (tVar 1) (tCons (tVar 7) tNil))) tNil))) (gName 8)) (tSeq (tAsg (tOp rSubI (tC (.int 1)) (tOp rMulI (tC (.int 2)) (tCallS (sp__law_draw K) (fun _ => E0) (tCons (tVar 0) (tCons (tC (.int 2)) (tCons (tVar 7) tNil)))))) (gName 9)) (tSeq (tAsg (tCallS (sp__law_draw K) (fun _ => E0) (tCons (tVar 0) (tCons (tVar 1) (tCons (tOp rMulI (tC (.int 2)) (tVar 7)) tNil)))) (gName 10)) (tSeq (tIfS (tAnd (tTest (tOp rEq (tVar 4) (tC (.int 0)))) (tTest (tOp rEq (tVar 7) (tC (.int 1))))) (tAsg (tOp rAddI (tC (.int 1)) (tOp rModI (tCB rIntQ (tCons (tVar 10) tNil)) (tOp rSubI (tVar 1) (tC (.int 1))))) (gName 10)) tNext) (tSeq (tAsg (tOp rAddI (tVar 10) (tOp rMulI (tVar 1) (tCallS (sp__law_draw K) (fun _ => E0) (tCons (tVar 0) (tCons (tVar 5) (tCons (tVar 7) tNil)))))) (gName 10)) (tSeq (tIfS (tAnd (tTest (tOp rEq (tVar 4) (tC (.int 0)))) (tTest (tOp rGtI (tVar 7) (tC (.int 1))))) (tAsg (tOp rMulI (tVar 1) (tVar 10)) (gName 10)) tNext) (tDrop (tBM K "list" rAppend (tVar 6) (tCons (tOp rMulI (tOp rMulI (tVar 9) (tVar 8)) (tVar 10)) tNil)))))))))) (tRet (tVar 6)))))))
theorem ps__law_entries {P : Program} {w : World} {K : PySem.W.Frag} {mg : Str → Option Value} {base : Heap} {f : Addr} (bn : Bn mg) (c__law_draw : Cal P w K mg base "_law_draw" 1 ["pool", "bound", "plus"] (sp__law_draw K)) (c__law_power : Cal P w K mg base "_law_power" 1 ["base", "exponent"] (sp__law_power K)) (c__law_level : Cal P w K mg base "_law_level" 1 ["p", "i"] (sp__law_level K)) :
    ∀ (cdv : Value) (A : Around) (outer : List Env) (s : Shared) (H : Hp) (E : XK), Room 1 (A.deeper (PyProof.Rows.envOfC "_law_entries" (defScope s__law_entries) s.heap.objs.size f cdv)) → PSs (cxOf (L2N.CX P w) P w K mg base N__law_entries "_law_entries" (defScope s__law_entries) f cdv A outer s H E) (defBody s__law_entries) (t__law_entries K E) := by
  intro cdv A outer s H E hr
  exact (pss_cons (ps_set (i := 4) sc__law_entries.nd rfl (by first | exact Or.inl rfl | exact Or.inr rfl) (pe_cal c__law_draw hr (fun σ => passAt0 σ) (pa_cons (pv 0) (pa_cons pe_int (pa_cons pe_int pa_nil)))))
    (pss_cons (ps_set (i := 5) sc__law_entries.nd rfl (by first | exact Or.inl rfl | exact Or.inr rfl) pe_int)
    (pss_cons (ps_if (pt_val (pv 3)) (pss_one (ps_set (i := 5) sc__law_entries.nd rfl (by first | exact Or.inl rfl | exact Or.inr rfl) (pe_op op_pow pe_int pe_int))) pss_nil)
    (pss_cons (ps_set (i := 6) sc__law_entries.nd rfl (by first | exact Or.inl rfl | exact Or.inr rfl) (pe_lst (pa_cons (pe_op op_sub (pe_cal c__law_draw hr (fun σ => passAt0 σ) (pa_cons (pv 0) (pa_cons pe_int (pa_cons pe_int pa_nil)))) pe_int) pa_nil)))
    (pss_cons (ps_for (passes_of rfl) rfl (pi_range2 (by rfl) bn.range (pa_cons pe_int (pa_cons (pv 2) pa_nil))) (pg_name (i := 7) sc__law_entries.nd rfl (by first | exact Or.inl rfl | exact Or.inr rfl)) (pss_cons (ps_set (i := 8) sc__law_entries.nd rfl (by first | exact Or.inl rfl | exact Or.inr rfl) (pe_cal c__law_power hr (fun σ => passAt0 σ) (pa_cons (pv 1) (pa_cons (pe_cal c__law_level hr (fun σ => passAt0 σ) (pa_cons (pv 1) (pa_cons (pv 7) pa_nil))) pa_nil))))
    (pss_cons (ps_set (i := 9) sc__law_entries.nd rfl (by first | exact Or.inl rfl | exact Or.inr rfl) (pe_op op_sub pe_int (pe_op op_mulW pe_int (pe_cal c__law_draw hr (fun σ => passAt0 σ) (pa_cons (pv 0) (pa_cons pe_int (pa_cons (pv 7) pa_nil)))))))
    (pss_cons (ps_set (i := 10) sc__law_entries.nd rfl (by first | exact Or.inl rfl | exact Or.inr rfl) (pe_cal c__law_draw hr (fun σ => passAt0 σ) (pa_cons (pv 0) (pa_cons (pv 1) (pa_cons (pe_op op_mulW pe_int (pv 7)) pa_nil)))))
    (pss_cons (ps_if (PW.pt (pw_and (pt_cmpR op_eq (pv 4) pe_int (nomark _)) (pw_and1 (pt_cmpR op_eq (pv 7) pe_int (nomark _))))) (pss_one (ps_set (i := 10) sc__law_entries.nd rfl (by first | exact Or.inl rfl | exact Or.inr rfl) (pe_op op_add pe_int (pe_op op_mod (pe_callTy call_intQ (by rfl) bn.int bt_int (pa_cons (pv 10) pa_nil)) (pe_op op_sub (pv 1) pe_int))))) pss_nil)
    (pss_cons (ps_set (i := 10) sc__law_entries.nd rfl (by first | exact Or.inl rfl | exact Or.inr rfl) (pe_op op_add (pv 10) (pe_op op_mulW (pv 1) (pe_cal c__law_draw hr (fun σ => passAt0 σ) (pa_cons (pv 0) (pa_cons (pv 5) (pa_cons (pv 7) pa_nil)))))))
    (pss_cons (ps_if (PW.pt (pw_and (pt_cmpR op_eq (pv 4) pe_int (nomark _)) (pw_and1 (pt_cmpR op_gt (pv 7) pe_int (nomark _))))) (pss_one (ps_set (i := 10) sc__law_entries.nd rfl (by first | exact Or.inl rfl | exact Or.inr rfl) (pe_op op_mulW (pv 1) (pv 10)))) pss_nil)
    (pss_one (ps_expr (pe_bm PySem.F.plainAttrs_list PySem.F.slot_list_append PySem.F.type_list_append mt_append (pv 6) (pa_cons (pe_op op_mulW (pe_op op_mulW (pv 9) (pv 8)) (pv 10)) pa_nil)))))))))))
    (pss_one (ps_ret (pv 6))))))))

/-! _law_trimmed -/
abbrev s__law_trimmed : Stmt := top 49
def N__law_trimmed : List Str := ["row", "size", "k"]
theorem sc__law_trimmed : FnScope N__law_trimmed ["row"] (defScope s__law_trimmed) := ⟨rfl, rfl, rfl, by decide +kernel, rfl, by decide +kernel, by decide +kernel⟩
def t__law_trimmed (K : PySem.W.Frag) (E : XK) : TS := (tSeq (tAsg (tCB (rLenQ K) (tCons (tVar 0) tNil)) (gName 1)) (tSeq (tFor (iRng1 (tCons (tCB (rLenQ K) (tCons (tVar 0) tNil)) tNil)) (gName 2) (tIfS (tAnd (tTest (tOp rGtI (tVar 1) (tC (.int 1)))) (tTest (tOp rEq (tOp (rIx K) (tVar 0) (tOp rSubI (tVar 1) (tC (.int 1)))) (tC (.int 0))))) (tAsg (tOp rSubI (tVar 1) (tC (.int 1))) (gName 1)) tNext)) (tRet (tSl (rSlL K) (tVar 0) tNoPart (tPart (tVar 1))))))
theorem ps__law_trimmed {P : Program} {w : World} {K : PySem.W.Frag} {mg : Str → Option Value} {base : Heap} {f : Addr} (bn : Bn mg)  :
    ∀ (cdv : Value) (A : Around) (outer : List Env) (s : Shared) (H : Hp) (E : XK), Room 0 (A.deeper (PyProof.Rows.envOfC "_law_trimmed" (defScope s__law_trimmed) s.heap.objs.size f cdv)) → PSs (cxOf (L2N.CX P w) P w K mg base N__law_trimmed "_law_trimmed" (defScope s__law_trimmed) f cdv A outer s H E) (defBody s__law_trimmed) (t__law_trimmed K E) := by
  intro cdv A outer s H E hr
  exact (pss_cons (ps_set (i := 1) sc__law_trimmed.nd rfl (by first | exact Or.inl rfl | exact Or.inr rfl) (pe_callB call_lenQ (by rfl) bn.len bt_len (pa_cons (pv 0) pa_nil)))
    (pss_cons (ps_for (passes_of rfl) rfl (pi_range1 (by rfl) bn.range (pa_cons (pe_callB call_lenQ (by rfl) bn.len bt_len (pa_cons (pv 0) pa_nil)) pa_nil)) (pg_name (i := 2) sc__law_trimmed.nd rfl (by first | exact Or.inl rfl | exact Or.inr rfl)) (pss_one (ps_if (PW.pt (pw_and (pt_cmpR op_gt (pv 1) pe_int (nomark _)) (pw_and1 (pt_cmpR op_eq (pe_ix ix_seq (pv 0) (pe_op op_sub (pv 1) pe_int) (fun _ _ => rfl)) pe_int (nomark _))))) (pss_one (ps_set (i := 1) sc__law_trimmed.nd rfl (by first | exact Or.inl rfl | exact Or.inr rfl) (pe_op op_sub (pv 1) pe_int))) pss_nil)))
    (pss_one (ps_ret (pe_slice sl_list (pv 0) po_none (po_some (pv 1)))))))

/-! look_prime -/
abbrev s_look_prime : Stmt := top 18
def N_look_prime : List Str := ["p"]
theorem sc_look_prime : FnScope N_look_prime ["p"] (defScope s_look_prime) := ⟨rfl, rfl, rfl, by decide +kernel, rfl, by decide +kernel, by decide +kernel⟩
def t_look_prime (K : PySem.W.Frag) (E : XK) : TS := (tIfS (tTest (tOp (rIn K true) (tVar 0) (tC (.ref (He.ga K "SMALL_PRIMES"))))) (tRaiseE (He.ga K "PrimeError") ["number"] (WD E) (tCons (tVar 0) tNil)) tNext)
theorem ps_look_prime {P : Program} {w : World} {K : PySem.W.Frag} {mg : Str → Option Value} {base : Heap} {f : Addr} (bn : Bn mg) (e_PrimeError : Err P K mg "PrimeError" ["number"]) (g_SMALL_PRIMES : mg "SMALL_PRIMES" = some (.ref (He.ga K "SMALL_PRIMES"))) :
    ∀ (cdv : Value) (A : Around) (outer : List Env) (s : Shared) (H : Hp) (E : XK), Room 0 (A.deeper (PyProof.Rows.envOfC "look_prime" (defScope s_look_prime) s.heap.objs.size f cdv)) → PSs (cxOf (L2N.CX P w) P w K mg base N_look_prime "look_prime" (defScope s_look_prime) f cdv A outer s H E) (defBody s_look_prime) (t_look_prime K E) := by
  intro cdv A outer s H E hr
  exact (pss_one (ps_if (pt_cmpR op_notIn_seq (pv 0) (pe_glob (by rfl) g_SMALL_PRIMES rfl) (by rfl)) (pss_one (ps_raiseY rfl (L2N.takes_of rfl rfl rfl rfl) (pmk_y e_PrimeError hr (pa_cons (pv 0) pa_nil)))) pss_nil))

/-! look_size -/
abbrev s_look_size : Stmt := top 20
def N_look_size : List Str := ["count", "low", "high"]
theorem sc_look_size : FnScope N_look_size ["count", "low", "high"] (defScope s_look_size) := ⟨rfl, rfl, rfl, by decide +kernel, rfl, by decide +kernel, by decide +kernel⟩
def t_look_size (K : PySem.W.Frag) (E : XK) : TS := (tIfS (tNot (tTest (tChain rLeI rLeI (tVar 1) (tVar 0) (tVar 2)))) (tRaiseE (He.ga K "SizeError") ["count"] (WD E) (tCons (tVar 0) tNil)) tNext)
theorem ps_look_size {P : Program} {w : World} {K : PySem.W.Frag} {mg : Str → Option Value} {base : Heap} {f : Addr} (bn : Bn mg) (e_SizeError : Err P K mg "SizeError" ["count"]) :
    ∀ (cdv : Value) (A : Around) (outer : List Env) (s : Shared) (H : Hp) (E : XK), Room 0 (A.deeper (PyProof.Rows.envOfC "look_size" (defScope s_look_size) s.heap.objs.size f cdv)) → PSs (cxOf (L2N.CX P w) P w K mg base N_look_size "look_size" (defScope s_look_size) f cdv A outer s H E) (defBody s_look_size) (t_look_size K E) := by
  intro cdv A outer s H E hr
  exact (pss_one (ps_if (pt_not (pt_chain op_le op_le (pv 1) (pv 0) (pv 2))) (pss_one (ps_raiseY rfl (L2N.takes_of rfl rfl rfl rfl) (pmk_y e_SizeError hr (pa_cons (pv 0) pa_nil)))) pss_nil))

/-! look_list -/
abbrev s_look_list : Stmt := top 21
def N_look_list : List Str := ["entries", "low", "high"]
theorem sc_look_list : FnScope N_look_list ["entries", "low", "high"] (defScope s_look_list) := ⟨rfl, rfl, rfl, by decide +kernel, rfl, by decide +kernel, by decide +kernel⟩
def t_look_list (K : PySem.W.Frag) (E : XK) : TS := (tDrop (tCallS (sp_look_size K) (WE (WD E)) (tCons (tCB (rLenQ K) (tCons (tVar 0) tNil)) (tCons (tVar 1) (tCons (tVar 2) tNil)))))
theorem ps_look_list {P : Program} {w : World} {K : PySem.W.Frag} {mg : Str → Option Value} {base : Heap} {f : Addr} (bn : Bn mg) (c_look_size : Cal P w K mg base "look_size" 1 ["count", "low", "high"] (sp_look_size K)) :
    ∀ (cdv : Value) (A : Around) (outer : List Env) (s : Shared) (H : Hp) (E : XK), Room 1 (A.deeper (PyProof.Rows.envOfC "look_list" (defScope s_look_list) s.heap.objs.size f cdv)) → PSs (cxOf (L2N.CX P w) P w K mg base N_look_list "look_list" (defScope s_look_list) f cdv A outer s H E) (defBody s_look_list) (t_look_list K E) := by
  intro cdv A outer s H E hr
  exact (pss_one (ps_expr (pe_cal c_look_size hr (fun σ => L2N.passAt (L2N.takes_of rfl rfl rfl rfl) σ) (pa_cons (pe_callB call_lenQ (by rfl) bn.len bt_len (pa_cons (pv 0) pa_nil)) (pa_cons (pv 1) (pa_cons (pv 2) pa_nil))))))

/-! look_range -/
abbrev s_look_range : Stmt := top 19
def N_look_range : List Str := ["number", "low", "high"]
theorem sc_look_range : FnScope N_look_range ["number", "low", "high"] (defScope s_look_range) := ⟨rfl, rfl, rfl, by decide +kernel, rfl, by decide +kernel, by decide +kernel⟩
def t_look_range (K : PySem.W.Frag) (E : XK) : TS := (tIfS (tNot (tTest (tChain rLeI rLeI (tVar 1) (tVar 0) (tVar 2)))) (tRaiseE (He.ga K "RangeError") ["number"] (WD E) (tCons (tVar 0) tNil)) tNext)
theorem ps_look_range {P : Program} {w : World} {K : PySem.W.Frag} {mg : Str → Option Value} {base : Heap} {f : Addr} (bn : Bn mg) (e_RangeError : Err P K mg "RangeError" ["number"]) :
    ∀ (cdv : Value) (A : Around) (outer : List Env) (s : Shared) (H : Hp) (E : XK), Room 0 (A.deeper (PyProof.Rows.envOfC "look_range" (defScope s_look_range) s.heap.objs.size f cdv)) → PSs (cxOf (L2N.CX P w) P w K mg base N_look_range "look_range" (defScope s_look_range) f cdv A outer s H E) (defBody s_look_range) (t_look_range K E) := by
  intro cdv A outer s H E hr
  exact (pss_one (ps_if (pt_not (pt_chain op_le op_le (pv 1) (pv 0) (pv 2))) (pss_one (ps_raiseY rfl (L2N.takes_of rfl rfl rfl rfl) (pmk_y e_RangeError hr (pa_cons (pv 0) pa_nil)))) pss_nil))

/-! look_each -/
abbrev s_look_each : Stmt := top 22
def N_look_each : List Str := ["entries", "low", "high", "entry"]
theorem sc_look_each : FnScope N_look_each ["entries", "low", "high"] (defScope s_look_each) := ⟨rfl, rfl, rfl, by decide +kernel, rfl, by decide +kernel, by decide +kernel⟩
def t_look_each (K : PySem.W.Frag) (E : XK) : TS := (tFor (iList K (tVar 0)) (gName 3) (tDrop (tCallS (sp_look_range K) (WE (WD E)) (tCons (tVar 3) (tCons (tVar 1) (tCons (tVar 2) tNil))))))
theorem ps_look_each {P : Program} {w : World} {K : PySem.W.Frag} {mg : Str → Option Value} {base : Heap} {f : Addr} (bn : Bn mg) (c_look_range : Cal P w K mg base "look_range" 1 ["number", "low", "high"] (sp_look_range K)) :
    ∀ (cdv : Value) (A : Around) (outer : List Env) (s : Shared) (H : Hp) (E : XK), Room 1 (A.deeper (PyProof.Rows.envOfC "look_each" (defScope s_look_each) s.heap.objs.size f cdv)) → PSs (cxOf (L2N.CX P w) P w K mg base N_look_each "look_each" (defScope s_look_each) f cdv A outer s H E) (defBody s_look_each) (t_look_each K E) := by
  intro cdv A outer s H E hr
  exact (pss_one (ps_for (passes_of rfl) rfl (pi_list (pv 0)) (pg_name (i := 3) sc_look_each.nd rfl (by first | exact Or.inl rfl | exact Or.inr rfl)) (pss_one (ps_expr (pe_cal c_look_range hr (fun σ => L2N.passAt (L2N.takes_of rfl rfl rfl rfl) σ) (pa_cons (pv 3) (pa_cons (pv 1) (pa_cons (pv 2) pa_nil))))))))

/-! Mahler.__init__ -/
abbrev s_Mahler___init__ : Stmt := inClass (top 38) 0
def N_Mahler___init__ : List Str := ["self", "p", "row", "size"]
theorem sc_Mahler___init__ : FnScope N_Mahler___init__ ["self", "p", "row"] (defScope s_Mahler___init__) := ⟨rfl, rfl, rfl, by decide +kernel, rfl, by decide +kernel, by decide +kernel⟩
def t_Mahler___init__ (K : PySem.W.Frag) (E : XK) : TS := (tSeq (tDrop (tCallS (sp_look_prime K) (WE (WD E)) (tCons (tVar 1) tNil))) (tSeq (tDrop (tCallS (sp_look_list K) (WE (WD E)) (tCons (tVar 2) (tCons (tC (.int 1)) (tCons (tC (.int 30)) tNil))))) (tSeq (tDrop (tCallS (sp_look_each K) (WE (WD E)) (tCons (tVar 2) (tCons (tUn rNegI (tC (.int (10 ^ 30)))) (tCons (tC (.int (10 ^ 30))) tNil))))) (tSeq (tAsg (tCB (rLenQ K) (tCons (tVar 2) tNil)) (gName 3)) (tSeq (tWhile (tAnd (tTest (tOp rGtI (tVar 3) (tC (.int 1)))) (tTest (tOp rEq (tOp (rIx K) (tVar 2) (tOp rSubI (tVar 3) (tC (.int 1)))) (tC (.int 0))))) (tAsg (tOp rSubI (tVar 3) (tC (.int 1))) (gName 3))) (tSeq (sFld K (tVar 0) (tVar 1) "p") (sFld K (tVar 0) (tCB (rTupQ K) (tCons (tSl (rSlL K) (tVar 2) tNoPart (tPart (tVar 3))) tNil)) "row")))))))
theorem ps_Mahler___init__ {P : Program} {w : World} {K : PySem.W.Frag} {mg : Str → Option Value} {base : Heap} {f : Addr} {tk_MOST_ROW : Tok} {tk_MOST_ENTRY : Tok} (bn : Bn mg) (c_look_prime : Cal P w K mg base "look_prime" 1 ["p"] (sp_look_prime K)) (c_look_list : Cal P w K mg base "look_list" 2 ["entries", "low", "high"] (sp_look_list K)) (c_look_each : Cal P w K mg base "look_each" 2 ["entries", "low", "high"] (sp_look_each K)) (m_MOST_ROW : mg "MOST_ROW" = some (.int 30 tk_MOST_ROW)) (m_MOST_ENTRY : mg "MOST_ENTRY" = some (.int (10 ^ 30) tk_MOST_ENTRY)) :
    ∀ (cdv : Value) (A : Around) (outer : List Env) (s : Shared) (H : Hp) (E : XK), Room 2 (A.deeper (PyProof.Rows.envOfC "Mahler.__init__" (defScope s_Mahler___init__) s.heap.objs.size f cdv)) → PSs (cxOf (L2N.CX P w) P w K mg base N_Mahler___init__ "Mahler.__init__" (defScope s_Mahler___init__) f cdv A outer s H E) (defBody s_Mahler___init__) (t_Mahler___init__ K E) := by
  intro cdv A outer s H E hr
  exact (pss_cons (ps_expr (pe_cal c_look_prime hr (fun σ => L2N.passAt (L2N.takes_of rfl rfl rfl rfl) σ) (pa_cons (pv 1) pa_nil)))
    (pss_cons (ps_expr (pe_cal c_look_list hr (fun σ => L2N.passAt (L2N.takes_of rfl rfl rfl rfl) σ) (pa_cons (pv 2) (pa_cons pe_int (pa_cons (pe_glob (by rfl) m_MOST_ROW ⟨_, rfl⟩) pa_nil)))))
    (pss_cons (ps_expr (pe_cal c_look_each hr (fun σ => L2N.passAt (L2N.takes_of rfl rfl rfl rfl) σ) (pa_cons (pv 2) (pa_cons (pe_un un_neg (pe_glob (by rfl) m_MOST_ENTRY ⟨_, rfl⟩)) (pa_cons (pe_glob (by rfl) m_MOST_ENTRY ⟨_, rfl⟩) pa_nil)))))
    (pss_cons (ps_set (i := 3) sc_Mahler___init__.nd rfl (by first | exact Or.inl rfl | exact Or.inr rfl) (pe_callB call_lenQ (by rfl) bn.len bt_len (pa_cons (pv 2) pa_nil)))
    (pss_cons (ps_while (passes_of rfl) (PW.pt (pw_and (pt_cmpR op_gt (pv 3) pe_int (nomark _)) (pw_and1 (pt_cmpR op_eq (pe_ix ix_seq (pv 2) (pe_op op_sub (pv 3) pe_int) (fun _ _ => rfl)) pe_int (nomark _))))) (pss_one (ps_set (i := 3) sc_Mahler___init__.nd rfl (by first | exact Or.inl rfl | exact Or.inr rfl) (pe_op op_sub (pv 3) pe_int))))
    (pss_cons (ps_fld (pv 0) (pv 1) rfl)
    (pss_one (ps_fld (pv 0) (pe_callTy call_tupQ (by rfl) bn.tuple bt_tuple (pa_cons (pe_slice sl_list (pv 2) po_none (po_some (pv 3))) pa_nil)) rfl))))))))

/-! _law_steps -/
abbrev s__law_steps : Stmt := top 52
def N__law_steps : List Str := ["p", "row", "steps", "reach", "k"]
theorem sc__law_steps : FnScope N__law_steps ["p", "row"] (defScope s__law_steps) := ⟨rfl, rfl, rfl, by decide +kernel, rfl, by decide +kernel, by decide +kernel⟩
def t__law_steps (K : PySem.W.Frag) (E : XK) : TS := (tSeq (tAsg (tC (.int 0)) (gName 2)) (tSeq (tAsg (tC (.int 1)) (gName 3)) (tSeq (tFor (iRng1 (tCons (tC (.int 6)) tNil)) (gName 4) (tIfS (tTest (tOp rLtI (tVar 3) (tCB (rLenQ K) (tCons (tVar 1) tNil)))) (tSeq (tAsg (tOp rMulI (tVar 3) (tVar 0)) (gName 3)) (tAsg (tOp rAddI (tVar 2) (tC (.int 1))) (gName 2))) tNext)) (tRet (tOp rAddI (tVar 2) (tC (.int 1)))))))
theorem ps__law_steps {P : Program} {w : World} {K : PySem.W.Frag} {mg : Str → Option Value} {base : Heap} {f : Addr} (bn : Bn mg)  :
    ∀ (cdv : Value) (A : Around) (outer : List Env) (s : Shared) (H : Hp) (E : XK), Room 0 (A.deeper (PyProof.Rows.envOfC "_law_steps" (defScope s__law_steps) s.heap.objs.size f cdv)) → PSs (cxOf (L2N.CX P w) P w K mg base N__law_steps "_law_steps" (defScope s__law_steps) f cdv A outer s H E) (defBody s__law_steps) (t__law_steps K E) := by
  intro cdv A outer s H E hr
  exact (pss_cons (ps_set (i := 2) sc__law_steps.nd rfl (by first | exact Or.inl rfl | exact Or.inr rfl) pe_int)
    (pss_cons (ps_set (i := 3) sc__law_steps.nd rfl (by first | exact Or.inl rfl | exact Or.inr rfl) pe_int)
    (pss_cons (ps_for (passes_of rfl) rfl (pi_range1 (by rfl) bn.range (pa_cons pe_int pa_nil)) (pg_name (i := 4) sc__law_steps.nd rfl (by first | exact Or.inl rfl | exact Or.inr rfl)) (pss_one (ps_if (pt_cmpR op_lt (pv 3) (pe_callB call_lenQ (by rfl) bn.len bt_len (pa_cons (pv 1) pa_nil)) (nomark _)) (pss_cons (ps_set (i := 3) sc__law_steps.nd rfl (by first | exact Or.inl rfl | exact Or.inr rfl) (pe_op op_mulW (pv 3) (pv 0)))
    (pss_one (ps_set (i := 2) sc__law_steps.nd rfl (by first | exact Or.inl rfl | exact Or.inr rfl) (pe_op op_add (pv 2) pe_int)))) pss_nil)))
    (pss_one (ps_ret (pe_op op_add (pv 2) pe_int))))))

/-! _law_led -/
abbrev s__law_led : Stmt := top 50
def N__law_led : List Str := ["row", "modulus", "choices", "led", "x", "total", "moved", "i", "k"]
theorem sc__law_led : FnScope N__law_led ["row", "modulus"] (defScope s__law_led) := ⟨rfl, rfl, rfl, by decide +kernel, rfl, by decide +kernel, by decide +kernel⟩
def t__law_led (K : PySem.W.Frag) (E : XK) : TS := (tSeq (tAsg (tOp rCat (tLst (tCons (tC (.int 1)) tNil)) (tLc (iRng1 (tCons (tOp rSubI (tCB (rLenQ K) (tCons (tVar 0) tNil)) (tC (.int 1))) tNil)) (gName 8) tYes (tC (.int 0)) [8])) (gName 2)) (tSeq (tAsg (tLst tNil) (gName 3)) (tSeq (tFor (iRng1 (tCons (tVar 1) tNil)) (gName 4) (tSeq (tAsg (tCB (rSum K) (tCons (tLc (iRng1 (tCons (tCB (rLenQ K) (tCons (tVar 0) tNil)) tNil)) (gName 7) tYes (tOp rMulI (tOp (rIx K) (tVar 0) (tVar 7)) (tOp (rIx K) (tVar 2) (tVar 7))) [7]) tNil)) (gName 5)) (tSeq (tDrop (tBM K "list" rAppend (tVar 3) (tCons (tOp rModI (tCB rIntQ (tCons (tVar 5) tNil)) (tVar 1)) tNil))) (tSeq (tAsg (tLst (tCons (tC (.int 1)) tNil)) (gName 6)) (tSeq (tFor (iRng1 (tCons (tOp rSubI (tCB (rLenQ K) (tCons (tVar 0) tNil)) (tC (.int 1))) tNil)) (gName 7) (tDrop (tBM K "list" rAppend (tVar 6) (tCons (tOp rModI (tCB rIntQ (tCons (tOp rAddI (tOp (rIx K) (tVar 2) (tVar 7)) (tOp (rIx K) (tVar 2) (tOp rAddI (tVar 7) (tC (.int 1))))) tNil)) (tVar 1)) tNil)))) (tAsg (tVar 6) (gName 2))))))) (tRet (tVar 3)))))
theorem ps__law_led {P : Program} {w : World} {K : PySem.W.Frag} {mg : Str → Option Value} {base : Heap} {f : Addr} (bn : Bn mg)  :
    ∀ (cdv : Value) (A : Around) (outer : List Env) (s : Shared) (H : Hp) (E : XK), Room 0 (A.deeper (PyProof.Rows.envOfC "_law_led" (defScope s__law_led) s.heap.objs.size f cdv)) → PSs (cxOf (L2N.CX P w) P w K mg base N__law_led "_law_led" (defScope s__law_led) f cdv A outer s H E) (defBody s__law_led) (t__law_led K E) := by
  intro cdv A outer s H E hr
  exact (pss_cons (ps_set (i := 2) sc__law_led.nd rfl (by first | exact Or.inl rfl | exact Or.inr rfl) (pe_op op_cat (pe_lst (pa_cons pe_int pa_nil)) (pe_lc (own := [("k", 8)]) (g := (gName 8)) (tt := tYes) (te := (tC (.int 0))) rfl sc__law_led.nd (pi_range1 (by rfl) bn.range (pa_cons (pe_op op_sub (pe_callB call_lenQ (by rfl) bn.len bt_len (pa_cons (pv 0) pa_nil)) pe_int) pa_nil)) (blkOk_by (by rfl)) (fun _ _ _ _ _ => (pg_name (i := 8) sc__law_led.nd rfl (by first | exact Or.inl rfl | exact Or.inr rfl))) (fun _ _ _ _ _ => pts_nil) (fun _ _ _ _ _ => pe_int))))
    (pss_cons (ps_set (i := 3) sc__law_led.nd rfl (by first | exact Or.inl rfl | exact Or.inr rfl) (pe_lst pa_nil))
    (pss_cons (ps_for (passes_of rfl) rfl (pi_range1 (by rfl) bn.range (pa_cons (pv 1) pa_nil)) (pg_name (i := 4) sc__law_led.nd rfl (by first | exact Or.inl rfl | exact Or.inr rfl)) (pss_cons (ps_set (i := 5) sc__law_led.nd rfl (by first | exact Or.inl rfl | exact Or.inr rfl) (pe_callB (cr_sum rfl) (by rfl) bn.sum bt_sum (pa_cons (pe_lc (own := [("i", 7)]) (g := (gName 7)) (tt := tYes) (te := (tOp rMulI (tOp (rIx K) (tVar 0) (tVar 7)) (tOp (rIx K) (tVar 2) (tVar 7)))) rfl sc__law_led.nd (pi_range1 (by rfl) bn.range (pa_cons (pe_callB call_lenQ (by rfl) bn.len bt_len (pa_cons (pv 0) pa_nil)) pa_nil)) (blkOk_by (by rfl)) (fun _ _ _ _ _ => (pg_name (i := 7) sc__law_led.nd rfl (by first | exact Or.inl rfl | exact Or.inr rfl))) (fun _ _ _ _ _ => pts_nil) (fun _ _ _ _ _ => (pe_op op_mulW (pe_ix ix_seq (pv 0) (pv 7) (fun _ _ => rfl)) (pe_ix ix_seq (pv 2) (pv 7) (fun _ _ => rfl))))) pa_nil)))
    (pss_cons (ps_expr (pe_bm PySem.F.plainAttrs_list PySem.F.slot_list_append PySem.F.type_list_append mt_append (pv 3) (pa_cons (pe_op op_mod (pe_callTy call_intQ (by rfl) bn.int bt_int (pa_cons (pv 5) pa_nil)) (pv 1)) pa_nil)))
    (pss_cons (ps_set (i := 6) sc__law_led.nd rfl (by first | exact Or.inl rfl | exact Or.inr rfl) (pe_lst (pa_cons pe_int pa_nil)))
    (pss_cons (ps_for (passes_of rfl) rfl (pi_range1 (by rfl) bn.range (pa_cons (pe_op op_sub (pe_callB call_lenQ (by rfl) bn.len bt_len (pa_cons (pv 0) pa_nil)) pe_int) pa_nil)) (pg_name (i := 7) sc__law_led.nd rfl (by first | exact Or.inl rfl | exact Or.inr rfl)) (pss_one (ps_expr (pe_bm PySem.F.plainAttrs_list PySem.F.slot_list_append PySem.F.type_list_append mt_append (pv 6) (pa_cons (pe_op op_mod (pe_callTy call_intQ (by rfl) bn.int bt_int (pa_cons (pe_op op_add (pe_ix ix_seq (pv 2) (pv 7) (fun _ _ => rfl)) (pe_ix ix_seq (pv 2) (pe_op op_add (pv 7) pe_int) (fun _ _ => rfl))) pa_nil)) (pv 1)) pa_nil)))))
    (pss_one (ps_set (i := 2) sc__law_led.nd rfl (by first | exact Or.inl rfl | exact Or.inr rfl) (pv 6))))))))
    (pss_one (ps_ret (pv 3))))))

/-! _law_met -/
abbrev s__law_met : Stmt := top 51
def N__law_met : List Str := ["row", "modulus", "led", "seen", "y"]
theorem sc__law_met : FnScope N__law_met ["row", "modulus"] (defScope s__law_met) := ⟨rfl, rfl, rfl, by decide +kernel, rfl, by decide +kernel, by decide +kernel⟩
def t__law_met (K : PySem.W.Frag) (E : XK) : TS := (tSeq (tAsg (tCallS (sp__law_led K) (fun _ => E0) (tCons (tVar 0) (tCons (tVar 1) tNil))) (gName 2)) (tSeq (tAsg tDNewK (gName 3)) (tSeq (tFor (iRng1 (tCons (tVar 1) tNil)) (gName 4) (tSeq (tIfS (tB (tDIn (tOp (rIx K) (tVar 2) (tVar 4)) (tVar 3))) (tRet (tTup (tCons (tDGet (tVar 3) (tOp (rIx K) (tVar 2) (tVar 4))) (tCons (tVar 4) tNil)))) tNext) (sDPut (tVar 3) (tOp (rIx K) (tVar 2) (tVar 4)) (tVar 4)))) (tRet (tC .non)))))
theorem ps__law_met {P : Program} {w : World} {K : PySem.W.Frag} {mg : Str → Option Value} {base : Heap} {f : Addr} (bn : Bn mg) (c__law_led : Cal P w K mg base "_law_led" 1 ["row", "modulus"] (sp__law_led K)) :
    ∀ (cdv : Value) (A : Around) (outer : List Env) (s : Shared) (H : Hp) (E : XK), Room 1 (A.deeper (PyProof.Rows.envOfC "_law_met" (defScope s__law_met) s.heap.objs.size f cdv)) → PSs (cxOf (L2N.CX P w) P w K mg base N__law_met "_law_met" (defScope s__law_met) f cdv A outer s H E) (defBody s__law_met) (t__law_met K E) := by
  intro cdv A outer s H E hr
  exact (pss_cons (ps_set (i := 2) sc__law_met.nd rfl (by first | exact Or.inl rfl | exact Or.inr rfl) (pe_cal c__law_led hr (fun σ => passAt0 σ) (pa_cons (pv 0) (pa_cons (pv 1) pa_nil))))
    (pss_cons (ps_set (i := 3) sc__law_met.nd rfl (by first | exact Or.inl rfl | exact Or.inr rfl) pe_dnewK)
    (pss_cons (ps_for (passes_of rfl) rfl (pi_range1 (by rfl) bn.range (pa_cons (pv 1) pa_nil)) (pg_name (i := 4) sc__law_met.nd rfl (by first | exact Or.inl rfl | exact Or.inr rfl)) (pss_cons (ps_if (pt_cmp (pc_din (hu_of hr) (pe_ix ix_seq (pv 2) (pv 4) (fun _ _ => rfl)) (pv 3))) (pss_one (ps_ret (pe_tup (pa_cons (pe_dget (hu_of hr) (pv 3) (pe_ix ix_seq (pv 2) (pv 4) (fun _ _ => rfl)) (fun _ _ => rfl)) (pa_cons (pv 4) pa_nil))))) pss_nil)
    (pss_one (ps_dput (hu_of hr) (pv 3) (pe_ix ix_seq (pv 2) (pv 4) (fun _ _ => rfl)) (pv 4) rfl))))
    (pss_one (ps_ret pe_non)))))

/-! level_of -/
abbrev s_level_of : Stmt := top 36
def N_level_of : List Str := ["p", "i", "level", "reach"]
theorem sc_level_of : FnScope N_level_of ["p", "i"] (defScope s_level_of) := ⟨rfl, rfl, rfl, by decide +kernel, rfl, by decide +kernel, by decide +kernel⟩
def t_level_of (K : PySem.W.Frag) (E : XK) : TS := (tSeq (tAsg (tC (.int 0)) (gName 2)) (tSeq (tAsg (tVar 0) (gName 3)) (tSeq (tWhile (tTest (tOp rLeI (tVar 3) (tVar 1))) (tSeq (tAsg (tOp rMulI (tVar 3) (tVar 0)) (gName 3)) (tAsg (tOp rAddI (tVar 2) (tC (.int 1))) (gName 2)))) (tRet (tVar 2)))))
theorem ps_level_of {P : Program} {w : World} {K : PySem.W.Frag} {mg : Str → Option Value} {base : Heap} {f : Addr} (bn : Bn mg)  :
    ∀ (cdv : Value) (A : Around) (outer : List Env) (s : Shared) (H : Hp) (E : XK), Room 0 (A.deeper (PyProof.Rows.envOfC "level_of" (defScope s_level_of) s.heap.objs.size f cdv)) → PSs (cxOf (L2N.CX P w) P w K mg base N_level_of "level_of" (defScope s_level_of) f cdv A outer s H E) (defBody s_level_of) (t_level_of K E) := by
  intro cdv A outer s H E hr
  exact (pss_cons (ps_set (i := 2) sc_level_of.nd rfl (by first | exact Or.inl rfl | exact Or.inr rfl) pe_int)
    (pss_cons (ps_set (i := 3) sc_level_of.nd rfl (by first | exact Or.inl rfl | exact Or.inr rfl) (pv 0))
    (pss_cons (ps_while (passes_of rfl) (pt_cmpR op_le (pv 3) (pv 1) (nomark _)) (pss_cons (ps_set (i := 3) sc_level_of.nd rfl (by first | exact Or.inl rfl | exact Or.inr rfl) (pe_op op_mulW (pv 3) (pv 0)))
    (pss_one (ps_set (i := 2) sc_level_of.nd rfl (by first | exact Or.inl rfl | exact Or.inr rfl) (pe_op op_add (pv 2) pe_int)))))
    (pss_one (ps_ret (pv 2))))))

/-! parted -/
abbrev s_parted : Stmt := top 24
def N_parted : List Str := ["p", "n", "found", "rest"]
theorem sc_parted : FnScope N_parted ["p", "n"] (defScope s_parted) := ⟨rfl, rfl, rfl, by decide +kernel, rfl, by decide +kernel, by decide +kernel⟩
def t_parted (K : PySem.W.Frag) (E : XK) : TS := (tSeq (tAsg (tC (.int 0)) (gName 2)) (tSeq (tAsg (tVar 1) (gName 3)) (tSeq (tWhile (tTest (tOp rEq (tOp rModI (tVar 3) (tVar 0)) (tC (.int 0)))) (tSeq (tAsg (tOp rDivI (tVar 3) (tVar 0)) (gName 3)) (tAug 2 (tC (.int 1)) iAdd))) (tRet (tTup (tCons (tVar 2) (tCons (tVar 3) tNil)))))))
theorem ps_parted {P : Program} {w : World} {K : PySem.W.Frag} {mg : Str → Option Value} {base : Heap} {f : Addr} (bn : Bn mg)  :
    ∀ (cdv : Value) (A : Around) (outer : List Env) (s : Shared) (H : Hp) (E : XK), Room 0 (A.deeper (PyProof.Rows.envOfC "parted" (defScope s_parted) s.heap.objs.size f cdv)) → PSs (cxOf (L2N.CX P w) P w K mg base N_parted "parted" (defScope s_parted) f cdv A outer s H E) (defBody s_parted) (t_parted K E) := by
  intro cdv A outer s H E hr
  exact (pss_cons (ps_set (i := 2) sc_parted.nd rfl (by first | exact Or.inl rfl | exact Or.inr rfl) pe_int)
    (pss_cons (ps_set (i := 3) sc_parted.nd rfl (by first | exact Or.inl rfl | exact Or.inr rfl) (pv 1))
    (pss_cons (ps_while (passes_of rfl) (pt_cmpR op_eq (pe_op op_mod (pv 3) (pv 0)) pe_int (nomark _)) (pss_cons (ps_set (i := 3) sc_parted.nd rfl (by first | exact Or.inl rfl | exact Or.inr rfl) (pe_op op_fdivW (pv 3) (pv 0)))
    (pss_one (ps_aug (i := 2) sc_parted.nd rfl (by first | exact Or.inl rfl | exact Or.inr rfl) pe_int ip_add))))
    (pss_one (ps_ret (pe_tup (pa_cons (pv 2) (pa_cons (pv 3) pa_nil))))))))

/-! int_depth -/
abbrev s_int_depth : Stmt := top 25
def N_int_depth : List Str := ["p", "n"]
theorem sc_int_depth : FnScope N_int_depth ["p", "n"] (defScope s_int_depth) := ⟨rfl, rfl, rfl, by decide +kernel, rfl, by decide +kernel, by decide +kernel⟩
def t_int_depth (K : PySem.W.Frag) (E : XK) : TS := (tRet (tOp (rIx K) (tCallS (sp_parted K) (fun _ => E0) (tCons (tVar 0) (tCons (tVar 1) tNil))) (tC (.int 0))))
theorem ps_int_depth {P : Program} {w : World} {K : PySem.W.Frag} {mg : Str → Option Value} {base : Heap} {f : Addr} (bn : Bn mg) (c_parted : Cal P w K mg base "parted" 1 ["p", "n"] (sp_parted K)) :
    ∀ (cdv : Value) (A : Around) (outer : List Env) (s : Shared) (H : Hp) (E : XK), Room 1 (A.deeper (PyProof.Rows.envOfC "int_depth" (defScope s_int_depth) s.heap.objs.size f cdv)) → PSs (cxOf (L2N.CX P w) P w K mg base N_int_depth "int_depth" (defScope s_int_depth) f cdv A outer s H E) (defBody s_int_depth) (t_int_depth K E) := by
  intro cdv A outer s H E hr
  exact (pss_one (ps_ret (pe_ix ix_seq (pe_cal c_parted hr (fun σ => passAt0 σ) (pa_cons (pv 0) (pa_cons (pv 1) pa_nil))) pe_int (fun _ _ => rfl))))

/-! row_bound -/
abbrev s_row_bound : Stmt := top 37
def N_row_bound : List Str := ["p", "row", "found", "i"]
theorem sc_row_bound : FnScope N_row_bound ["p", "row"] (defScope s_row_bound) := ⟨rfl, rfl, rfl, by decide +kernel, rfl, by decide +kernel, by decide +kernel⟩
def t_row_bound (K : PySem.W.Frag) (E : XK) : TS := (tSeq (tAsg (tLc (iRng2 (tCons (tC (.int 1)) (tCons (tCB (rLenQ K) (tCons (tVar 1) tNil)) tNil))) (gName 3) (tTest (tOp rNe (tOp (rIx K) (tVar 1) (tVar 3)) (tC (.int 0)))) (tOp rSubI (tCallS (sp_level_of K) (fun _ => E0) (tCons (tVar 0) (tCons (tVar 3) tNil))) (tCallS (sp_int_depth K) (fun _ => E0) (tCons (tVar 0) (tCons (tOp (rIx K) (tVar 1) (tVar 3)) tNil)))) [3]) (gName 2)) (tSeq (tIfS (tNot (tTru K (tVar 2))) (tRet (tC .non)) tNext) (tRet (tCB (rMax K) (tCons (tVar 2) tNil)))))
theorem ps_row_bound {P : Program} {w : World} {K : PySem.W.Frag} {mg : Str → Option Value} {base : Heap} {f : Addr} (bn : Bn mg) (c_level_of : Cal P w K mg base "level_of" 1 ["p", "i"] (sp_level_of K)) (c_int_depth : Cal P w K mg base "int_depth" 2 ["p", "n"] (sp_int_depth K)) :
    ∀ (cdv : Value) (A : Around) (outer : List Env) (s : Shared) (H : Hp) (E : XK), Room 2 (A.deeper (PyProof.Rows.envOfC "row_bound" (defScope s_row_bound) s.heap.objs.size f cdv)) → PSs (cxOf (L2N.CX P w) P w K mg base N_row_bound "row_bound" (defScope s_row_bound) f cdv A outer s H E) (defBody s_row_bound) (t_row_bound K E) := by
  intro cdv A outer s H E hr
  exact (pss_cons (ps_setLc (i := 2) (own := [("i", 3)]) (g := (gName 3)) (tt := (tTest (tOp rNe (tOp (rIx K) (tVar 1) (tVar 3)) (tC (.int 0))))) (te := (tOp rSubI (tCallS (sp_level_of K) (fun _ => E0) (tCons (tVar 0) (tCons (tVar 3) tNil))) (tCallS (sp_int_depth K) (fun _ => E0) (tCons (tVar 0) (tCons (tOp (rIx K) (tVar 1) (tVar 3)) tNil))))) rfl sc_row_bound.nd rfl rfl (sw_true rfl rfl rfl (by decide +kernel)) (pi_range2 (by rfl) bn.range (pa_cons pe_int (pa_cons (pe_callB call_lenQ (by rfl) bn.len bt_len (pa_cons (pv 1) pa_nil)) pa_nil))) (blkOk_by (by rfl)) (fun _ _ _ _ _ => (pg_name (i := 3) sc_row_bound.nd rfl (by first | exact Or.inl rfl | exact Or.inr rfl))) (fun _ _ _ _ _ => (pts_one (pt_cmpR op_ne (pe_ix ix_seq (pv 1) (pv 3) (fun _ _ => rfl)) pe_int (nomark _)))) (fun _ _ _ _ _ => (pe_op op_sub (pe_cal c_level_of hr (fun σ => passAt0 σ) (pa_cons (pv 0) (pa_cons (pv 3) pa_nil))) (pe_cal c_int_depth hr (fun σ => passAt0 σ) (pa_cons (pv 0) (pa_cons (pe_ix ix_seq (pv 1) (pv 3) (fun _ _ => rfl)) pa_nil))))))
    (pss_cons (ps_if (pt_not (pt_truth (pv 2) (by intro _; rfl))) (pss_one (ps_ret pe_non)) pss_nil)
    (pss_one (ps_ret (pe_callB (cr_max rfl) (by rfl) bn.max bt_max (pa_cons (pv 2) pa_nil))))))

/-! Mahler.bound -/
abbrev s_Mahler_bound : Stmt := inClass (top 38) 3
def N_Mahler_bound : List Str := ["self"]
theorem sc_Mahler_bound : FnScope N_Mahler_bound ["self"] (defScope s_Mahler_bound) := ⟨rfl, rfl, rfl, by decide +kernel, rfl, by decide +kernel, by decide +kernel⟩
def t_Mahler_bound (K : PySem.W.Frag) (E : XK) : TS := (tRet (tCallS (sp_row_bound K) (fun _ => E0) (tCons (tFld K (tVar 0) "p") (tCons (tFld K (tVar 0) "row") tNil))))
theorem ps_Mahler_bound {P : Program} {w : World} {K : PySem.W.Frag} {mg : Str → Option Value} {base : Heap} {f : Addr} (bn : Bn mg) (c_row_bound : Cal P w K mg base "row_bound" 3 ["p", "row"] (sp_row_bound K)) :
    ∀ (cdv : Value) (A : Around) (outer : List Env) (s : Shared) (H : Hp) (E : XK), Room 3 (A.deeper (PyProof.Rows.envOfC "Mahler.bound" (defScope s_Mahler_bound) s.heap.objs.size f cdv)) → PSs (cxOf (L2N.CX P w) P w K mg base N_Mahler_bound "Mahler.bound" (defScope s_Mahler_bound) f cdv A outer s H E) (defBody s_Mahler_bound) (t_Mahler_bound K E) := by
  intro cdv A outer s H E hr
  exact (pss_one (ps_ret (pe_cal c_row_bound hr (fun σ => passAt0 σ) (pa_cons (pe_fld (pv 0) (by rfl)) (pa_cons (pe_fld (pv 0) (by rfl)) pa_nil)))))

/-! looked_depth -/
abbrev s_looked_depth : Stmt := top 28
def N_looked_depth : List Str := ["g", "bound", "found", "reach"]
theorem sc_looked_depth : FnScope N_looked_depth ["g"] (defScope s_looked_depth) := ⟨rfl, rfl, rfl, by decide +kernel, rfl, by decide +kernel, by decide +kernel⟩
def t_looked_depth (K : PySem.W.Frag) (E : XK) : TS := (tSeq (tAsg (tProp (He.ga K "Mahler") (sp_Mahler_bound K) [] E0 (tVar 0)) (gName 1)) (tSeq (tIfS (tAnd (tTest (tOp rNotNn (tVar 1) (tC .non))) (tTest (tOp rGtI (tVar 1) (tC (.int 0))))) (tRaiseE (He.ga K "RangeError") ["number"] (WD E) (tCons (tVar 1) tNil)) tNext) (tSeq (tAsg (tC (.int 1)) (gName 2)) (tSeq (tAsg (tC (.int 1)) (gName 3)) (tSeq (tWhile (tTest (tOp rLtI (tVar 3) (tCB (rLenQ K) (tCons (tFld K (tVar 0) "row") tNil)))) (tSeq (tAsg (tOp rMulI (tVar 3) (tFld K (tVar 0) "p")) (gName 3)) (tAsg (tOp rAddI (tVar 2) (tC (.int 1))) (gName 2)))) (tSeq (tIfS (tTest (tOp rGtI (tOp rMulI (tVar 3) (tFld K (tVar 0) "p")) (tC (.int 2500)))) (tRaiseE (He.ga K "SizeError") ["count"] (WD E) (tCons (tOp rMulI (tVar 3) (tFld K (tVar 0) "p")) tNil)) tNext) (tRet (tVar 2))))))))
theorem ps_looked_depth {P : Program} {w : World} {K : PySem.W.Frag} {mg : Str → Option Value} {base : Heap} {f : Addr} {tk_MOST_RESIDUES : Tok} (bn : Bn mg) (p_Mahler_bound : CalP P w K mg base "Mahler" "bound" 4 (sp_Mahler_bound K)) (e_RangeError : Err P K mg "RangeError" ["number"]) (e_SizeError : Err P K mg "SizeError" ["count"]) (m_MOST_RESIDUES : mg "MOST_RESIDUES" = some (.int 2500 tk_MOST_RESIDUES)) :
    ∀ (cdv : Value) (A : Around) (outer : List Env) (s : Shared) (H : Hp) (E : XK), Room 5 (A.deeper (PyProof.Rows.envOfC "looked_depth" (defScope s_looked_depth) s.heap.objs.size f cdv)) → PSs (cxOf (L2N.CX P w) P w K mg base N_looked_depth "looked_depth" (defScope s_looked_depth) f cdv A outer s H E) (defBody s_looked_depth) (t_looked_depth K E) := by
  intro cdv A outer s H E hr
  exact (pss_cons (ps_set (i := 1) sc_looked_depth.nd rfl (by first | exact Or.inl rfl | exact Or.inr rfl) (pe_calP p_Mahler_bound hr (pv 0)))
    (pss_cons (ps_if (PW.pt (pw_and (pt_cmpR op_notNn (pv 1) pe_non (nomark _)) (pw_and1 (pt_cmpR op_gt (pv 1) pe_int (nomark _))))) (pss_one (ps_raiseY rfl (L2N.takes_of rfl rfl rfl rfl) (pmk_y e_RangeError hr (pa_cons (pv 1) pa_nil)))) pss_nil)
    (pss_cons (ps_set (i := 2) sc_looked_depth.nd rfl (by first | exact Or.inl rfl | exact Or.inr rfl) pe_int)
    (pss_cons (ps_set (i := 3) sc_looked_depth.nd rfl (by first | exact Or.inl rfl | exact Or.inr rfl) pe_int)
    (pss_cons (ps_while (passes_of rfl) (pt_cmpR op_lt (pv 3) (pe_callB call_lenQ (by rfl) bn.len bt_len (pa_cons (pe_fld (pv 0) (by rfl)) pa_nil)) (nomark _)) (pss_cons (ps_set (i := 3) sc_looked_depth.nd rfl (by first | exact Or.inl rfl | exact Or.inr rfl) (pe_op op_mulW (pv 3) (pe_fld (pv 0) (by rfl))))
    (pss_one (ps_set (i := 2) sc_looked_depth.nd rfl (by first | exact Or.inl rfl | exact Or.inr rfl) (pe_op op_add (pv 2) pe_int)))))
    (pss_cons (ps_if (pt_cmpR op_gt (pe_op op_mulW (pv 3) (pe_fld (pv 0) (by rfl))) (pe_glob (by rfl) m_MOST_RESIDUES ⟨_, rfl⟩) (nomark _)) (pss_one (ps_raiseY rfl (L2N.takes_of rfl rfl rfl rfl) (pmk_y e_SizeError hr (pa_cons (pe_op op_mulW (pv 3) (pe_fld (pv 0) (by rfl))) pa_nil)))) pss_nil)
    (pss_one (ps_ret (pv 2)))))))))

/-! led_residues -/
abbrev s_led_residues : Stmt := top 29
def N_led_residues : List Str := ["g", "modulus", "differences", "found", "_", "following", "c", "d"]
theorem sc_led_residues : FnScope N_led_residues ["g", "modulus"] (defScope s_led_residues) := ⟨rfl, rfl, rfl, by decide +kernel, rfl, by decide +kernel, by decide +kernel⟩
def t_led_residues (K : PySem.W.Frag) (E : XK) : TS := (tSeq (tAsg (tLc (iTup K (tFld K (tVar 0) "row")) (gName 6) tYes (tOp rModI (tVar 6) (tVar 1)) [6]) (gName 2)) (tSeq (tAsg (tLst tNil) (gName 3)) (tSeq (tFor (iRng1 (tCons (tVar 1) tNil)) (gName 4) (tSeq (tDrop (tBM K "list" rAppend (tVar 3) (tCons (tOp (rIx K) (tVar 2) (tC (.int 0))) tNil))) (tSeq (tAsg (tOp rCat (tSl (rSlL K) (tVar 2) (tPart (tC (.int 1))) tNoPart) (tLst (tCons (tC (.int 0)) tNil))) (gName 5)) (tAsg (tLc (iZip K (tCons (tVar 2) (tCons (tVar 5) tNil))) (gTup K 2 (gCons (gName 6) (gCons (gName 7) gNil))) tYes (tOp rModI (tOp rAddI (tVar 6) (tVar 7)) (tVar 1)) [6, 7]) (gName 2))))) (tRet (tVar 3)))))
theorem ps_led_residues {P : Program} {w : World} {K : PySem.W.Frag} {mg : Str → Option Value} {base : Heap} {f : Addr} (bn : Bn mg)  :
    ∀ (cdv : Value) (A : Around) (outer : List Env) (s : Shared) (H : Hp) (E : XK), Room 0 (A.deeper (PyProof.Rows.envOfC "led_residues" (defScope s_led_residues) s.heap.objs.size f cdv)) → PSs (cxOf (L2N.CX P w) P w K mg base N_led_residues "led_residues" (defScope s_led_residues) f cdv A outer s H E) (defBody s_led_residues) (t_led_residues K E) := by
  intro cdv A outer s H E hr
  exact (pss_cons (ps_setLc (i := 2) (own := [("c", 6)]) (g := (gName 6)) (tt := tYes) (te := (tOp rModI (tVar 6) (tVar 1))) rfl sc_led_residues.nd rfl rfl (sw_true rfl rfl rfl (by decide +kernel)) (pi_tup (pe_fld (pv 0) (by rfl))) (blkOk_by (by rfl)) (fun _ _ _ _ _ => (pg_name (i := 6) sc_led_residues.nd rfl (by first | exact Or.inl rfl | exact Or.inr rfl))) (fun _ _ _ _ _ => pts_nil) (fun _ _ _ _ _ => (pe_op op_mod (pv 6) (pv 1))))
    (pss_cons (ps_set (i := 3) sc_led_residues.nd rfl (by first | exact Or.inl rfl | exact Or.inr rfl) (pe_lst pa_nil))
    (pss_cons (ps_for (passes_of rfl) rfl (pi_range1 (by rfl) bn.range (pa_cons (pv 1) pa_nil)) (pg_name (i := 4) sc_led_residues.nd rfl (by first | exact Or.inl rfl | exact Or.inr rfl)) (pss_cons (ps_expr (pe_bm PySem.F.plainAttrs_list PySem.F.slot_list_append PySem.F.type_list_append mt_append (pv 3) (pa_cons (pe_ix ix_seq (pv 2) pe_int (fun _ _ => rfl)) pa_nil)))
    (pss_cons (ps_set (i := 5) sc_led_residues.nd rfl (by first | exact Or.inl rfl | exact Or.inr rfl) (pe_op op_cat (pe_slice sl_list (pv 2) (po_some pe_int) po_none) (pe_lst (pa_cons pe_int pa_nil))))
    (pss_one (ps_setLc (i := 2) (own := [("c", 6), ("d", 7)]) (g := (gTup K 2 (gCons (gName 6) (gCons (gName 7) gNil)))) (tt := tYes) (te := (tOp rModI (tOp rAddI (tVar 6) (tVar 7)) (tVar 1))) rfl sc_led_residues.nd rfl rfl (sw_true rfl rfl rfl (by decide +kernel)) (pi_zip (by rfl) bn.zip (pa_cons (pv 2) (pa_cons (pv 5) pa_nil))) (blkOk_by (by rfl)) (fun _ _ _ _ _ => (pg_tup (by rfl) (pgs_cons (pg_name (i := 6) sc_led_residues.nd rfl (by first | exact Or.inl rfl | exact Or.inr rfl)) (pgs_cons (pg_name (i := 7) sc_led_residues.nd rfl (by first | exact Or.inl rfl | exact Or.inr rfl)) pgs_nil)))) (fun _ _ _ _ _ => pts_nil) (fun _ _ _ _ _ => (pe_op op_mod (pe_op op_add (pv 6) (pv 7)) (pv 1))))))))
    (pss_one (ps_ret (pv 3))))))

/-! power -/
abbrev s_power : Stmt := top 23
def N_power : List Str := ["base", "exponent", "result", "square", "rest"]
theorem sc_power : FnScope N_power ["base", "exponent"] (defScope s_power) := ⟨rfl, rfl, rfl, by decide +kernel, rfl, by decide +kernel, by decide +kernel⟩
def t_power (K : PySem.W.Frag) (E : XK) : TS := (tSeq (tAsg (tC (.int 1)) (gName 2)) (tSeq (tAsg (tVar 0) (gName 3)) (tSeq (tAsg (tVar 1) (gName 4)) (tSeq (tWhile (tTest (tOp rGtI (tVar 4) (tC (.int 0)))) (tSeq (tIfS (tTest (tOp rEq (tOp rModI (tVar 4) (tC (.int 2))) (tC (.int 1)))) (tAsg (tOp rMulI (tVar 2) (tVar 3)) (gName 2)) tNext) (tSeq (tAsg (tOp rDivI (tVar 4) (tC (.int 2))) (gName 4)) (tIfS (tTest (tOp rGtI (tVar 4) (tC (.int 0)))) (tAsg (tOp rMulI (tVar 3) (tVar 3)) (gName 3)) tNext)))) (tRet (tVar 2))))))
theorem ps_power {P : Program} {w : World} {K : PySem.W.Frag} {mg : Str → Option Value} {base : Heap} {f : Addr} (bn : Bn mg)  :
    ∀ (cdv : Value) (A : Around) (outer : List Env) (s : Shared) (H : Hp) (E : XK), Room 0 (A.deeper (PyProof.Rows.envOfC "power" (defScope s_power) s.heap.objs.size f cdv)) → PSs (cxOf (L2N.CX P w) P w K mg base N_power "power" (defScope s_power) f cdv A outer s H E) (defBody s_power) (t_power K E) := by
  intro cdv A outer s H E hr
  exact (pss_cons (ps_set (i := 2) sc_power.nd rfl (by first | exact Or.inl rfl | exact Or.inr rfl) pe_int)
    (pss_cons (ps_set (i := 3) sc_power.nd rfl (by first | exact Or.inl rfl | exact Or.inr rfl) (pv 0))
    (pss_cons (ps_set (i := 4) sc_power.nd rfl (by first | exact Or.inl rfl | exact Or.inr rfl) (pv 1))
    (pss_cons (ps_while (passes_of rfl) (pt_cmpR op_gt (pv 4) pe_int (nomark _)) (pss_cons (ps_if (pt_cmpR op_eq (pe_op op_mod (pv 4) pe_int) pe_int (nomark _)) (pss_one (ps_set (i := 2) sc_power.nd rfl (by first | exact Or.inl rfl | exact Or.inr rfl) (pe_op op_mulW (pv 2) (pv 3)))) pss_nil)
    (pss_cons (ps_set (i := 4) sc_power.nd rfl (by first | exact Or.inl rfl | exact Or.inr rfl) (pe_op op_fdivW (pv 4) pe_int))
    (pss_one (ps_if (pt_cmpR op_gt (pv 4) pe_int (nomark _)) (pss_one (ps_set (i := 3) sc_power.nd rfl (by first | exact Or.inl rfl | exact Or.inr rfl) (pe_op op_mulW (pv 3) (pv 3)))) pss_nil)))))
    (pss_one (ps_ret (pv 2)))))))

/-! meeting -/
abbrev s_meeting : Stmt := top 31
def N_meeting : List Str := ["g", "found", "seen", "y", "led"]
theorem sc_meeting : FnScope N_meeting ["g"] (defScope s_meeting) := ⟨rfl, rfl, rfl, by decide +kernel, rfl, by decide +kernel, by decide +kernel⟩
def t_meeting (K : PySem.W.Frag) (E : XK) : TS := (tSeq (tAsg (tCallS (sp_looked_depth K) (WE (WD E)) (tCons (tVar 0) tNil)) (gName 1)) (tSeq (tAsg tDNewK (gName 2)) (tSeq (tFor (iEnum K (tCons (tCallS (sp_led_residues K) (fun _ => E0) (tCons (tVar 0) (tCons (tCallS (sp_power K) (fun _ => E0) (tCons (tFld K (tVar 0) "p") (tCons (tVar 1) tNil))) tNil))) tNil)) (gTup K 2 (gCons (gName 3) (gCons (gName 4) gNil))) (tSeq (tIfS (tB (tDIn (tVar 4) (tVar 2))) (tRet (tTup (tCons (tDGet (tVar 2) (tVar 4)) (tCons (tVar 3) tNil)))) tNext) (sDPut (tVar 2) (tVar 4) (tVar 3)))) (tRet (tC .non)))))
theorem ps_meeting {P : Program} {w : World} {K : PySem.W.Frag} {mg : Str → Option Value} {base : Heap} {f : Addr} (bn : Bn mg) (c_looked_depth : Cal P w K mg base "looked_depth" 6 ["g"] (sp_looked_depth K)) (c_led_residues : Cal P w K mg base "led_residues" 1 ["g", "modulus"] (sp_led_residues K)) (c_power : Cal P w K mg base "power" 1 ["base", "exponent"] (sp_power K)) :
    ∀ (cdv : Value) (A : Around) (outer : List Env) (s : Shared) (H : Hp) (E : XK), Room 6 (A.deeper (PyProof.Rows.envOfC "meeting" (defScope s_meeting) s.heap.objs.size f cdv)) → PSs (cxOf (L2N.CX P w) P w K mg base N_meeting "meeting" (defScope s_meeting) f cdv A outer s H E) (defBody s_meeting) (t_meeting K E) := by
  intro cdv A outer s H E hr
  exact (pss_cons (ps_set (i := 1) sc_meeting.nd rfl (by first | exact Or.inl rfl | exact Or.inr rfl) (pe_cal c_looked_depth hr (fun σ => L2N.passAt (L2N.takes_of rfl rfl rfl rfl) σ) (pa_cons (pv 0) pa_nil)))
    (pss_cons (ps_set (i := 2) sc_meeting.nd rfl (by first | exact Or.inl rfl | exact Or.inr rfl) pe_dnewK)
    (pss_cons (ps_for (passes_of rfl) rfl (pi_enum (by rfl) bn.enumerate (pa_cons (pe_cal c_led_residues hr (fun σ => passAt0 σ) (pa_cons (pv 0) (pa_cons (pe_cal c_power hr (fun σ => passAt0 σ) (pa_cons (pe_fld (pv 0) (by rfl)) (pa_cons (pv 1) pa_nil))) pa_nil))) pa_nil)) (pg_tup (by rfl) (pgs_cons (pg_name (i := 3) sc_meeting.nd rfl (by first | exact Or.inl rfl | exact Or.inr rfl)) (pgs_cons (pg_name (i := 4) sc_meeting.nd rfl (by first | exact Or.inl rfl | exact Or.inr rfl)) pgs_nil))) (pss_cons (ps_if (pt_cmp (pc_din (hu_of hr) (pv 4) (pv 2))) (pss_one (ps_ret (pe_tup (pa_cons (pe_dget (hu_of hr) (pv 2) (pv 4) (fun _ _ => rfl)) (pa_cons (pv 3) pa_nil))))) pss_nil)
    (pss_one (ps_dput (hu_of hr) (pv 2) (pv 4) (pv 3) rfl))))
    (pss_one (ps_ret pe_non)))))

/-! shuffles -/
abbrev s_shuffles : Stmt := top 32
def N_shuffles : List Str := ["g"]
theorem sc_shuffles : FnScope N_shuffles ["g"] (defScope s_shuffles) := ⟨rfl, rfl, rfl, by decide +kernel, rfl, by decide +kernel, by decide +kernel⟩
def t_shuffles (K : PySem.W.Frag) (E : XK) : TS := (tRet (tOp rIsNn (tCallS (sp_meeting K) (WE (WD E)) (tCons (tVar 0) tNil)) (tC .non)))
theorem ps_shuffles {P : Program} {w : World} {K : PySem.W.Frag} {mg : Str → Option Value} {base : Heap} {f : Addr} (bn : Bn mg) (c_meeting : Cal P w K mg base "meeting" 7 ["g"] (sp_meeting K)) :
    ∀ (cdv : Value) (A : Around) (outer : List Env) (s : Shared) (H : Hp) (E : XK), Room 7 (A.deeper (PyProof.Rows.envOfC "shuffles" (defScope s_shuffles) s.heap.objs.size f cdv)) → PSs (cxOf (L2N.CX P w) P w K mg base N_shuffles "shuffles" (defScope s_shuffles) f cdv A outer s H E) (defBody s_shuffles) (t_shuffles K E) := by
  intro cdv A outer s H E hr
  exact (pss_one (ps_ret (pe_cmpR op_isNn (pe_cal c_meeting hr (fun σ => L2N.passAt (L2N.takes_of rfl rfl rfl rfl) σ) (pa_cons (pv 0) pa_nil)) pe_non (nomark _))))

/-! _law_is -/
abbrev s__law_is : Stmt := top 43
def N__law_is : List Str := ["told", "due"]
theorem sc__law_is : FnScope N__law_is ["told", "due"] (defScope s__law_is) := ⟨rfl, rfl, rfl, by decide +kernel, rfl, by decide +kernel, by decide +kernel⟩
def t__law_is (K : PySem.W.Frag) (E : XK) : TS := (tRet (tAndV (tCB (rIsi K) (tCons (tVar 0) (tCons (tC (.ty "int")) tNil))) (tAndV (tNotV (tCB (rIsi K) (tCons (tVar 0) (tCons (tC (.ty "bool")) tNil)))) (tOp (rEqD K) (tVar 0) (tVar 1)))))
theorem ps__law_is {P : Program} {w : World} {K : PySem.W.Frag} {mg : Str → Option Value} {base : Heap} {f : Addr} (bn : Bn mg)  :
    ∀ (cdv : Value) (A : Around) (outer : List Env) (s : Shared) (H : Hp) (E : XK), Room 0 (A.deeper (PyProof.Rows.envOfC "_law_is" (defScope s__law_is) s.heap.objs.size f cdv)) → PSs (cxOf (L2N.CX P w) P w K mg base N__law_is "_law_is" (defScope s__law_is) f cdv A outer s H E) (defBody s__law_is) (t__law_is K E) := by
  intro cdv A outer s H E hr
  exact (pss_one (ps_ret (pe_and (pe_callB call_isi (by rfl) bn.isinstance bt_isinstance (pa_cons (pv 0) (pa_cons (pe_bltn (by rfl) bn.int bt_int rfl) pa_nil))) (pe_and (pe_not (pe_callB call_isi (by rfl) bn.isinstance bt_isinstance (pa_cons (pv 0) (pa_cons (pe_bltn (by rfl) bn.bool bt_bool rfl) pa_nil)))) (pe_one (pe_cmpR (op_eqD hr.units) (pv 0) (pv 1) (nomark _)))))))

/-! _law_alike -/
abbrev s__law_alike : Stmt := top 44
def N__law_alike : List Str := ["told", "due", "k"]
theorem sc__law_alike : FnScope N__law_alike ["told", "due"] (defScope s__law_alike) := ⟨rfl, rfl, rfl, by decide +kernel, rfl, by decide +kernel, by decide +kernel⟩
def t__law_alike (K : PySem.W.Frag) (E : XK) : TS := (tSeq (tIfS (tTest (tOp rNe (tCB (rIsi K) (tCons (tVar 0) (tCons (tC (.ty "list")) tNil))) (tCB (rIsi K) (tCons (tVar 1) (tCons (tC (.ty "list")) tNil))))) (tRet (tC (.bl false))) tNext) (tSeq (tIfS (tTest (tOp rNe (tCB (rIsi K) (tCons (tVar 0) (tCons (tC (.ty "tuple")) tNil))) (tCB (rIsi K) (tCons (tVar 1) (tCons (tC (.ty "tuple")) tNil))))) (tRet (tC (.bl false))) tNext) (tSeq (tIfS (tTest (tOp rNe (tCB (rLenQ K) (tCons (tVar 0) tNil)) (tCB (rLenQ K) (tCons (tVar 1) tNil)))) (tRet (tC (.bl false))) tNext) (tRet (tCB (rAll K) (tCons (tLc (iRng1 (tCons (tCB (rLenQ K) (tCons (tVar 1) tNil)) tNil)) (gName 2) tYes (tCallS (sp__law_is K) (fun _ => E0) (tCons (tOp (rIx K) (tVar 0) (tVar 2)) (tCons (tOp (rIx K) (tVar 1) (tVar 2)) tNil))) [2]) tNil))))))
theorem ps__law_alike {P : Program} {w : World} {K : PySem.W.Frag} {mg : Str → Option Value} {base : Heap} {f : Addr} (bn : Bn mg) (c__law_is : Cal P w K mg base "_law_is" 1 ["told", "due"] (sp__law_is K)) :
    ∀ (cdv : Value) (A : Around) (outer : List Env) (s : Shared) (H : Hp) (E : XK), Room 1 (A.deeper (PyProof.Rows.envOfC "_law_alike" (defScope s__law_alike) s.heap.objs.size f cdv)) → PSs (cxOf (L2N.CX P w) P w K mg base N__law_alike "_law_alike" (defScope s__law_alike) f cdv A outer s H E) (defBody s__law_alike) (t__law_alike K E) := by
  intro cdv A outer s H E hr
  exact (pss_cons (ps_if (pt_cmpR op_ne (pe_callB call_isi (by rfl) bn.isinstance bt_isinstance (pa_cons (pv 0) (pa_cons (pe_bltn (by rfl) bn.list bt_list rfl) pa_nil))) (pe_callB call_isi (by rfl) bn.isinstance bt_isinstance (pa_cons (pv 1) (pa_cons (pe_bltn (by rfl) bn.list bt_list rfl) pa_nil))) (nomark _)) (pss_one (ps_ret pe_bl)) pss_nil)
    (pss_cons (ps_if (pt_cmpR op_ne (pe_callB call_isi (by rfl) bn.isinstance bt_isinstance (pa_cons (pv 0) (pa_cons (pe_bltn (by rfl) bn.tuple bt_tuple rfl) pa_nil))) (pe_callB call_isi (by rfl) bn.isinstance bt_isinstance (pa_cons (pv 1) (pa_cons (pe_bltn (by rfl) bn.tuple bt_tuple rfl) pa_nil))) (nomark _)) (pss_one (ps_ret pe_bl)) pss_nil)
    (pss_cons (ps_if (pt_cmpR op_ne (pe_callB call_lenQ (by rfl) bn.len bt_len (pa_cons (pv 0) pa_nil)) (pe_callB call_lenQ (by rfl) bn.len bt_len (pa_cons (pv 1) pa_nil)) (nomark _)) (pss_one (ps_ret pe_bl)) pss_nil)
    (pss_one (ps_ret (pe_callB (cr_all rfl) (by rfl) bn.all bt_all (pa_cons (pe_lc (own := [("k", 2)]) (g := (gName 2)) (tt := tYes) (te := (tCallS (sp__law_is K) (fun _ => E0) (tCons (tOp (rIx K) (tVar 0) (tVar 2)) (tCons (tOp (rIx K) (tVar 1) (tVar 2)) tNil)))) rfl sc__law_alike.nd (pi_range1 (by rfl) bn.range (pa_cons (pe_callB call_lenQ (by rfl) bn.len bt_len (pa_cons (pv 1) pa_nil)) pa_nil)) (blkOk_by (by rfl)) (fun _ _ _ _ _ => (pg_name (i := 2) sc__law_alike.nd rfl (by first | exact Or.inl rfl | exact Or.inr rfl))) (fun _ _ _ _ _ => pts_nil) (fun _ _ _ _ _ => (pe_cal c__law_is hr (fun σ => passAt0 σ) (pa_cons (pe_ix ix_seq (pv 0) (pv 2) (fun _ _ => rfl)) (pa_cons (pe_ix ix_seq (pv 1) (pv 2) (fun _ _ => rfl)) pa_nil))))) pa_nil)))))))

/-! shuffle_depth -/
abbrev s_shuffle_depth : Stmt := top 30
def N_shuffle_depth : List Str := ["g"]
theorem sc_shuffle_depth : FnScope N_shuffle_depth ["g"] (defScope s_shuffle_depth) := ⟨rfl, rfl, rfl, by decide +kernel, rfl, by decide +kernel, by decide +kernel⟩
def t_shuffle_depth (K : PySem.W.Frag) (E : XK) : TS := (tRet (tCallS (sp_looked_depth K) (WE (WD E)) (tCons (tVar 0) tNil)))
theorem ps_shuffle_depth {P : Program} {w : World} {K : PySem.W.Frag} {mg : Str → Option Value} {base : Heap} {f : Addr} (bn : Bn mg) (c_looked_depth : Cal P w K mg base "looked_depth" 6 ["g"] (sp_looked_depth K)) :
    ∀ (cdv : Value) (A : Around) (outer : List Env) (s : Shared) (H : Hp) (E : XK), Room 6 (A.deeper (PyProof.Rows.envOfC "shuffle_depth" (defScope s_shuffle_depth) s.heap.objs.size f cdv)) → PSs (cxOf (L2N.CX P w) P w K mg base N_shuffle_depth "shuffle_depth" (defScope s_shuffle_depth) f cdv A outer s H E) (defBody s_shuffle_depth) (t_shuffle_depth K E) := by
  intro cdv A outer s H E hr
  exact (pss_one (ps_ret (pe_cal c_looked_depth hr (fun σ => L2N.passAt (L2N.takes_of rfl rfl rfl rfl) σ) (pa_cons (pv 0) pa_nil))))

/-! _law_same -/
abbrev s__law_same : Stmt := top 53
def N__law_same : List Str := ["g", "p", "own", "due", "told"]
theorem sc__law_same : FnScope N__law_same ["g", "p", "own", "due"] (defScope s__law_same) := ⟨rfl, rfl, rfl, by decide +kernel, rfl, by decide +kernel, by decide +kernel⟩
def t__law_same (K : PySem.W.Frag) (E : XK) : TS := (tSeq (tAsg (tCallS (sp_meeting K) (WE (WD E)) (tCons (tVar 0) tNil)) (gName 4)) (tSeq (tIfS (tAnd (tTest (tOp rIsNn (tVar 3) (tC .non))) (tOr (tTest (tOp rNotNn (tVar 4) (tC .non))) (tTest (tOp rNotB (tCallS (sp_shuffles K) (WE (WD E)) (tCons (tVar 0) tNil)) (tC (.bl true)))))) (tRet (tC (.bl false))) tNext) (tSeq (tIfS (tAnd (tTest (tOp rNotNn (tVar 3) (tC .non))) (tOr (tNot (tB (tCallS (sp__law_alike K) (fun _ => E0) (tCons (tVar 4) (tCons (tVar 3) tNil))))) (tTest (tOp rNotB (tCallS (sp_shuffles K) (WE (WD E)) (tCons (tVar 0) tNil)) (tC (.bl false)))))) (tRet (tC (.bl false))) tNext) (tRet (tAndV (tCallS (sp__law_is K) (fun _ => E0) (tCons (tCallS (sp_shuffle_depth K) (WE (WD E)) (tCons (tVar 0) tNil)) (tCons (tCallS (sp__law_steps K) (fun _ => E0) (tCons (tVar 1) (tCons (tVar 2) tNil))) tNil))) (tCallS (sp__law_alike K) (fun _ => E0) (tCons (tFld K (tVar 0) "row") (tCons (tCB (rTupQ K) (tCons (tVar 2) tNil)) tNil))))))))
theorem ps__law_same {P : Program} {w : World} {K : PySem.W.Frag} {mg : Str → Option Value} {base : Heap} {f : Addr} (bn : Bn mg) (c_meeting : Cal P w K mg base "meeting" 7 ["g"] (sp_meeting K)) (c_shuffles : Cal P w K mg base "shuffles" 8 ["g"] (sp_shuffles K)) (c__law_alike : Cal P w K mg base "_law_alike" 2 ["told", "due"] (sp__law_alike K)) (c__law_is : Cal P w K mg base "_law_is" 1 ["told", "due"] (sp__law_is K)) (c_shuffle_depth : Cal P w K mg base "shuffle_depth" 7 ["g"] (sp_shuffle_depth K)) (c__law_steps : Cal P w K mg base "_law_steps" 1 ["p", "row"] (sp__law_steps K)) :
    ∀ (cdv : Value) (A : Around) (outer : List Env) (s : Shared) (H : Hp) (E : XK), Room 8 (A.deeper (PyProof.Rows.envOfC "_law_same" (defScope s__law_same) s.heap.objs.size f cdv)) → PSs (cxOf (L2N.CX P w) P w K mg base N__law_same "_law_same" (defScope s__law_same) f cdv A outer s H E) (defBody s__law_same) (t__law_same K E) := by
  intro cdv A outer s H E hr
  exact (pss_cons (ps_set (i := 4) sc__law_same.nd rfl (by first | exact Or.inl rfl | exact Or.inr rfl) (pe_cal c_meeting hr (fun σ => L2N.passAt (L2N.takes_of rfl rfl rfl rfl) σ) (pa_cons (pv 0) pa_nil)))
    (pss_cons (ps_if (PW.pt (pw_and (pt_cmpR op_isNn (pv 3) pe_non (nomark _)) (pw_and1 (PW.pt (pw_or (pt_cmpR op_notNn (pv 4) pe_non (nomark _)) (pw_or1 (pt_cmpR op_notBl (pe_cal c_shuffles hr (fun σ => L2N.passAt (L2N.takes_of rfl rfl rfl rfl) σ) (pa_cons (pv 0) pa_nil)) pe_bl (nomark _)))))))) (pss_one (ps_ret pe_bl)) pss_nil)
    (pss_cons (ps_if (PW.pt (pw_and (pt_cmpR op_notNn (pv 3) pe_non (nomark _)) (pw_and1 (PW.pt (pw_or (pt_not (pt_val (pe_cal c__law_alike hr (fun σ => passAt0 σ) (pa_cons (pv 4) (pa_cons (pv 3) pa_nil))))) (pw_or1 (pt_cmpR op_notBl (pe_cal c_shuffles hr (fun σ => L2N.passAt (L2N.takes_of rfl rfl rfl rfl) σ) (pa_cons (pv 0) pa_nil)) pe_bl (nomark _)))))))) (pss_one (ps_ret pe_bl)) pss_nil)
    (pss_one (ps_ret (pe_and (pe_cal c__law_is hr (fun σ => passAt0 σ) (pa_cons (pe_cal c_shuffle_depth hr (fun σ => L2N.passAt (L2N.takes_of rfl rfl rfl rfl) σ) (pa_cons (pv 0) pa_nil)) (pa_cons (pe_cal c__law_steps hr (fun σ => passAt0 σ) (pa_cons (pv 1) (pa_cons (pv 2) pa_nil))) pa_nil))) (pe_one (pe_cal c__law_alike hr (fun σ => passAt0 σ) (pa_cons (pe_fld (pv 0) (by rfl)) (pa_cons (pe_callTy call_tupQ (by rfl) bn.tuple bt_tuple (pa_cons (pv 2) pa_nil)) pa_nil))))))))))

/-! _law_wide_first -/
abbrev s__law_wide_first : Stmt := top 54
def N__law_wide_first : List Str := ["p", "at", "part", "rest", "row", "k"]
theorem sc__law_wide_first : FnScope N__law_wide_first ["p", "at", "part", "rest"] (defScope s__law_wide_first) := ⟨rfl, rfl, rfl, by decide +kernel, rfl, by decide +kernel, by decide +kernel⟩
def t__law_wide_first (K : PySem.W.Frag) (E : XK) : TS := (tSeq (tAsg (tOp rCat (tOp rCat (tLst (tCons (tVar 3) tNil)) (tLc (iRng1 (tCons (tOp rSubI (tVar 1) (tC (.int 1))) tNil)) (gName 5) tYes (tC (.int 0)) [5])) (tLst (tCons (tVar 2) tNil))) (gName 4)) (tRet (tMake (He.ga K "Mahler") (sp_Mahler___init__ K) [] E0 (tCons (tVar 0) (tCons (tVar 4) tNil)))))
theorem ps__law_wide_first {P : Program} {w : World} {K : PySem.W.Frag} {mg : Str → Option Value} {base : Heap} {f : Addr} (bn : Bn mg) (n_Mahler : CalM P w K mg base "Mahler" 3 ["self", "p", "row"] (sp_Mahler___init__ K)) :
    ∀ (cdv : Value) (A : Around) (outer : List Env) (s : Shared) (H : Hp) (E : XK), Room 4 (A.deeper (PyProof.Rows.envOfC "_law_wide_first" (defScope s__law_wide_first) s.heap.objs.size f cdv)) → PSs (cxOf (L2N.CX P w) P w K mg base N__law_wide_first "_law_wide_first" (defScope s__law_wide_first) f cdv A outer s H E) (defBody s__law_wide_first) (t__law_wide_first K E) := by
  intro cdv A outer s H E hr
  exact (pss_cons (ps_set (i := 4) sc__law_wide_first.nd rfl (by first | exact Or.inl rfl | exact Or.inr rfl) (pe_op op_cat (pe_op op_cat (pe_lst (pa_cons (pv 3) pa_nil)) (pe_lc (own := [("k", 5)]) (g := (gName 5)) (tt := tYes) (te := (tC (.int 0))) rfl sc__law_wide_first.nd (pi_range1 (by rfl) bn.range (pa_cons (pe_op op_sub (pv 1) pe_int) pa_nil)) (blkOk_by (by rfl)) (fun _ _ _ _ _ => (pg_name (i := 5) sc__law_wide_first.nd rfl (by first | exact Or.inl rfl | exact Or.inr rfl))) (fun _ _ _ _ _ => pts_nil) (fun _ _ _ _ _ => pe_int))) (pe_lst (pa_cons (pv 2) pa_nil))))
    (pss_one (ps_ret (pe_calM n_Mahler hr (pa_cons (pv 0) (pa_cons (pv 4) pa_nil))))))

/-! _law_number -/
abbrev s__law_number : Stmt := top 45
def N__law_number : List Str := ["told"]
theorem sc__law_number : FnScope N__law_number ["told"] (defScope s__law_number) := ⟨rfl, rfl, rfl, by decide +kernel, rfl, by decide +kernel, by decide +kernel⟩
def t__law_number (K : PySem.W.Frag) (E : XK) : TS := (tSeq (tIfS (tAnd (tB (tCB (rIsi K) (tCons (tVar 0) (tCons (tC (.ty "int")) tNil)))) (tNot (tB (tCB (rIsi K) (tCons (tVar 0) (tCons (tC (.ty "bool")) tNil)))))) (tRet (tVar 0)) tNext) (tRet (tC .non)))
theorem psH__law_number {P : Program} {w : World} {K : PySem.W.Frag} {mg : Str → Option Value} {base : Heap} {f : Addr} (bn : Bn mg)  :
    ∀ (cdv : Value) (A : Around) (outer : List Env) (s : Shared) (H : Hp) (E : XK) (pp : Addr × Obj), L2H.Hot1 A pp → L2H.RoomH 0 (A.deeper (PyProof.Rows.envOfC "_law_number" (defScope s__law_number) s.heap.objs.size f cdv)) → PSs (L2H.cxH (L2N.CX P w) P w K mg base N__law_number "_law_number" (defScope s__law_number) f cdv A outer s H E pp) (defBody s__law_number) (t__law_number K E) := by
  intro cdv A outer s H E pp hot hr
  exact (pss_cons (ps_if (PW.pt (pw_and (pt_val (pe_callB call_isi (by rfl) bn.isinstance bt_isinstance (pa_cons (pv 0) (pa_cons (pe_bltn (by rfl) bn.int bt_int rfl) pa_nil)))) (pw_and1 (pt_not (pt_val (pe_callB call_isi (by rfl) bn.isinstance bt_isinstance (pa_cons (pv 0) (pa_cons (pe_bltn (by rfl) bn.bool bt_bool rfl) pa_nil)))))))) (pss_one (ps_ret (pv 0))) pss_nil)
    (pss_one (ps_ret pe_non)))

/-! _law_call -/
abbrev s__law_call : Stmt := top 46
def N__law_call : List Str := ["word", "g", "e", "flags"]
theorem sc__law_call : FnScope N__law_call ["word", "g"] (defScope s__law_call) := ⟨rfl, rfl, rfl, by decide +kernel, rfl, by decide +kernel, by decide +kernel⟩
def t__law_call (K : PySem.W.Frag) (E : XK) : TS := (tTry (fun (W : WX) => (tSeq (tIfS (tTest (tOp rEq (tVar 0) (tC (.str "depth")))) (tRet (tTup (tCons (tC (.str "told")) (tCons (tCallS (sp_shuffle_depth K) (WE W) (tCons (tVar 1) tNil)) tNil)))) tNext) (tSeq (tIfS (tTest (tOp rEq (tVar 0) (tC (.str "meeting")))) (tRet (tTup (tCons (tC (.str "told")) (tCons (tCallS (sp_meeting K) (WE W) (tCons (tVar 1) tNil)) tNil)))) tNext) (tRet (tTup (tCons (tC (.str "told")) (tCons (tCallS (sp_shuffles K) (WE W) (tCons (tVar 1) tNil)) tNil))))))) (fun D => wAs K (.ref (He.ga K "PrimedeepError")) 2 (fun a cls d => (tSeq (tAsg (tLst (tCons (tCB (rIsX K cls d a) (tCons (tVar 2) (tCons (tC (.ref (He.ga K "SizeError"))) tNil))) (tCons (tCB (rIsX K cls d a) (tCons (tVar 2) (tCons (tC (.ref (He.ga K "RangeError"))) tNil))) (tCons (tCB (rIsX K cls d a) (tCons (tVar 2) (tCons (tC (.ref (He.ga K "PrimeError"))) tNil))) tNil)))) (gName 3)) (tSeq (tAsg (tOp rCat (tVar 3) (tLst (tCons (tCB (rIsX K cls d a) (tCons (tVar 2) (tCons (tC (.ref (He.ga K "DepthError"))) tNil))) (tCons (tCB (rIsX K cls d a) (tCons (tVar 2) (tCons (tC (.ref (He.ga K "ZeroError"))) tNil))) (tCons (tCB (rIsX K cls d a) (tCons (tVar 2) (tCons (tC (.ref (He.ga K "MixError"))) tNil))) tNil))))) (gName 3)) (tSeq (tAsg (tOp rCat (tVar 3) (tLst (tCons (tCB (rIsX K cls d a) (tCons (tVar 2) (tCons (tC (.ref (He.ga K "BarError"))) tNil))) (tCons (tCB (rIsX K cls d a) (tCons (tVar 2) (tCons (tC (.ref (He.ga K "MonicError"))) tNil))) (tCons (tCB (rIsX K cls d a) (tCons (tVar 2) (tCons (tC (.ref (He.ga K "RepeatError"))) tNil))) tNil))))) (gName 3)) (tSeq (tAsg (tOp rCat (tVar 3) (tLst (tCons (tCB (rIsX K cls d a) (tCons (tVar 2) (tCons (tC (.ref (He.ga K "FieldError"))) tNil))) (tCons (tCB (rIsX K cls d a) (tCons (tVar 2) (tCons (tC (.ref (He.ga K "EditError"))) tNil))) (tCons (tCB (rIsX K cls d a) (tCons (tVar 2) (tCons (tC (.ref (He.ga K "TextError"))) tNil))) tNil))))) (gName 3)) (tSeq (tAsg (tOp rCat (tVar 3) (tLst (tCons (tCB (rIsX K cls d a) (tCons (tVar 2) (tCons (tC (.ref (He.ga K "HistoryError"))) tNil))) tNil))) (gName 3)) (tSeq (tIfS (tOr (tTest (tOp rNe (tBM K "list" (rCntB K) (tVar 3) (tCons (tC (.bl true)) tNil)) (tC (.int 1)))) (tNot (tB (tCB (rIsX K cls d a) (tCons (tVar 2) (tCons (tC (.ty "ValueError")) tNil)))))) (tRet (tTup (tCons (tC (.str "several")) tNil))) tNext) (tSeq (tIfS (tB (tOp (rIx K) (tVar 3) (tC (.int 0)))) (tRet (tTup (tCons (tC (.str "size")) (tCons (tCallS (sp__law_number K) (fun _ => E0) (tCons (tXfA K a cls d "count" (tVar 2)) tNil)) tNil)))) tNext) (tSeq (tIfS (tB (tOp (rIx K) (tVar 3) (tC (.int 1)))) (tRet (tTup (tCons (tC (.str "range")) (tCons (tCallS (sp__law_number K) (fun _ => E0) (tCons (tXfA K a cls d "number" (tVar 2)) tNil)) tNil)))) tNext) (tRet (tTup (tCons (tC (.str "other")) tNil)))))))))))) (WD E) D))
theorem ps__law_call {P : Program} {w : World} {K : PySem.W.Frag} {mg : Str → Option Value} {base : Heap} {f : Addr} (bn : Bn mg) (c_shuffle_depth : Cal P w K mg base "shuffle_depth" 7 ["g"] (sp_shuffle_depth K)) (c_meeting : Cal P w K mg base "meeting" 7 ["g"] (sp_meeting K)) (c_shuffles : Cal P w K mg base "shuffles" 8 ["g"] (sp_shuffles K)) (h__law_number : CalH P w K mg base "_law_number" 1 ["told"] (sp__law_number K)) (g_PrimedeepError : mg "PrimedeepError" = some (.ref (He.ga K "PrimedeepError"))) (g_SizeError : mg "SizeError" = some (.ref (He.ga K "SizeError"))) (g_RangeError : mg "RangeError" = some (.ref (He.ga K "RangeError"))) (g_PrimeError : mg "PrimeError" = some (.ref (He.ga K "PrimeError"))) (g_DepthError : mg "DepthError" = some (.ref (He.ga K "DepthError"))) (g_ZeroError : mg "ZeroError" = some (.ref (He.ga K "ZeroError"))) (g_MixError : mg "MixError" = some (.ref (He.ga K "MixError"))) (g_BarError : mg "BarError" = some (.ref (He.ga K "BarError"))) (g_MonicError : mg "MonicError" = some (.ref (He.ga K "MonicError"))) (g_RepeatError : mg "RepeatError" = some (.ref (He.ga K "RepeatError"))) (g_FieldError : mg "FieldError" = some (.ref (He.ga K "FieldError"))) (g_EditError : mg "EditError" = some (.ref (He.ga K "EditError"))) (g_TextError : mg "TextError" = some (.ref (He.ga K "TextError"))) (g_HistoryError : mg "HistoryError" = some (.ref (He.ga K "HistoryError"))) (g_ValueError : mg "ValueError" = none) :
    ∀ (cdv : Value) (A : Around) (outer : List Env) (s : Shared) (H : Hp) (E : XK), Room 8 (A.deeper (PyProof.Rows.envOfC "_law_call" (defScope s__law_call) s.heap.objs.size f cdv)) → PSs (cxOf (L2N.CX P w) P w K mg base N__law_call "_law_call" (defScope s__law_call) f cdv A outer s H E) (defBody s__law_call) (t__law_call K E) := by
  intro cdv A outer s H E hr
  exact (pss_one (L2N.ps_try_as (i := 2) (tb := fun (W : WX) => (tSeq (tIfS (tTest (tOp rEq (tVar 0) (tC (.str "depth")))) (tRet (tTup (tCons (tC (.str "told")) (tCons (tCallS (sp_shuffle_depth K) (WE W) (tCons (tVar 1) tNil)) tNil)))) tNext) (tSeq (tIfS (tTest (tOp rEq (tVar 0) (tC (.str "meeting")))) (tRet (tTup (tCons (tC (.str "told")) (tCons (tCallS (sp_meeting K) (WE W) (tCons (tVar 1) tNil)) tNil)))) tNext) (tRet (tTup (tCons (tC (.str "told")) (tCons (tCallS (sp_shuffles K) (WE W) (tCons (tVar 1) tNil)) tNil))))))) (ts := fun a cls d => (tSeq (tAsg (tLst (tCons (tCB (rIsX K cls d a) (tCons (tVar 2) (tCons (tC (.ref (He.ga K "SizeError"))) tNil))) (tCons (tCB (rIsX K cls d a) (tCons (tVar 2) (tCons (tC (.ref (He.ga K "RangeError"))) tNil))) (tCons (tCB (rIsX K cls d a) (tCons (tVar 2) (tCons (tC (.ref (He.ga K "PrimeError"))) tNil))) tNil)))) (gName 3)) (tSeq (tAsg (tOp rCat (tVar 3) (tLst (tCons (tCB (rIsX K cls d a) (tCons (tVar 2) (tCons (tC (.ref (He.ga K "DepthError"))) tNil))) (tCons (tCB (rIsX K cls d a) (tCons (tVar 2) (tCons (tC (.ref (He.ga K "ZeroError"))) tNil))) (tCons (tCB (rIsX K cls d a) (tCons (tVar 2) (tCons (tC (.ref (He.ga K "MixError"))) tNil))) tNil))))) (gName 3)) (tSeq (tAsg (tOp rCat (tVar 3) (tLst (tCons (tCB (rIsX K cls d a) (tCons (tVar 2) (tCons (tC (.ref (He.ga K "BarError"))) tNil))) (tCons (tCB (rIsX K cls d a) (tCons (tVar 2) (tCons (tC (.ref (He.ga K "MonicError"))) tNil))) (tCons (tCB (rIsX K cls d a) (tCons (tVar 2) (tCons (tC (.ref (He.ga K "RepeatError"))) tNil))) tNil))))) (gName 3)) (tSeq (tAsg (tOp rCat (tVar 3) (tLst (tCons (tCB (rIsX K cls d a) (tCons (tVar 2) (tCons (tC (.ref (He.ga K "FieldError"))) tNil))) (tCons (tCB (rIsX K cls d a) (tCons (tVar 2) (tCons (tC (.ref (He.ga K "EditError"))) tNil))) (tCons (tCB (rIsX K cls d a) (tCons (tVar 2) (tCons (tC (.ref (He.ga K "TextError"))) tNil))) tNil))))) (gName 3)) (tSeq (tAsg (tOp rCat (tVar 3) (tLst (tCons (tCB (rIsX K cls d a) (tCons (tVar 2) (tCons (tC (.ref (He.ga K "HistoryError"))) tNil))) tNil))) (gName 3)) (tSeq (tIfS (tOr (tTest (tOp rNe (tBM K "list" (rCntB K) (tVar 3) (tCons (tC (.bl true)) tNil)) (tC (.int 1)))) (tNot (tB (tCB (rIsX K cls d a) (tCons (tVar 2) (tCons (tC (.ty "ValueError")) tNil)))))) (tRet (tTup (tCons (tC (.str "several")) tNil))) tNext) (tSeq (tIfS (tB (tOp (rIx K) (tVar 3) (tC (.int 0)))) (tRet (tTup (tCons (tC (.str "size")) (tCons (tCallS (sp__law_number K) (fun _ => E0) (tCons (tXfA K a cls d "count" (tVar 2)) tNil)) tNil)))) tNext) (tSeq (tIfS (tB (tOp (rIx K) (tVar 3) (tC (.int 1)))) (tRet (tTup (tCons (tC (.str "range")) (tCons (tCallS (sp__law_number K) (fun _ => E0) (tCons (tXfA K a cls d "number" (tVar 2)) tNil)) tNil)))) tNext) (tRet (tTup (tCons (tC (.str "other")) tNil)))))))))))) (Wout := WD E) rfl rfl sc__law_call.nd rfl rfl ⟨rfl, by decide, Or.inl g_PrimedeepError⟩ (L2N.takes_of rfl rfl rfl rfl) (fun W pn xe tk pa => (pss_cons (ps_if (pt_cmpR op_eq (pv 0) pe_str (nomark _)) (pss_one (ps_ret (pe_tup (pa_cons pe_str (pa_cons (pe_cal c_shuffle_depth hr (fun σ => L2N.passAt tk σ) (pa_cons (pv 1) pa_nil)) pa_nil))))) pss_nil)
    (pss_cons (ps_if (pt_cmpR op_eq (pv 0) pe_str (nomark _)) (pss_one (ps_ret (pe_tup (pa_cons pe_str (pa_cons (pe_cal c_meeting hr (fun σ => L2N.passAt tk σ) (pa_cons (pv 1) pa_nil)) pa_nil))))) pss_nil)
    (pss_one (ps_ret (pe_tup (pa_cons pe_str (pa_cons (pe_cal c_shuffles hr (fun σ => L2N.passAt tk σ) (pa_cons (pv 1) pa_nil)) pa_nil)))))))) (fun a oe cls d pn hz hf => (pss_cons (ps_set (i := 3) sc__law_call.nd rfl (by first | exact Or.inl rfl | exact Or.inr rfl) (pe_lst (pa_cons (pe_callB (call_isX hz hf) (by rfl) bn.isinstance bt_isinstance (pa_cons (pv 2) (pa_cons (pe_glob (by rfl) g_SizeError rfl) pa_nil))) (pa_cons (pe_callB (call_isX hz hf) (by rfl) bn.isinstance bt_isinstance (pa_cons (pv 2) (pa_cons (pe_glob (by rfl) g_RangeError rfl) pa_nil))) (pa_cons (pe_callB (call_isX hz hf) (by rfl) bn.isinstance bt_isinstance (pa_cons (pv 2) (pa_cons (pe_glob (by rfl) g_PrimeError rfl) pa_nil))) pa_nil)))))
    (pss_cons (ps_set (i := 3) sc__law_call.nd rfl (by first | exact Or.inl rfl | exact Or.inr rfl) (pe_op op_cat (pv 3) (pe_lst (pa_cons (pe_callB (call_isX hz hf) (by rfl) bn.isinstance bt_isinstance (pa_cons (pv 2) (pa_cons (pe_glob (by rfl) g_DepthError rfl) pa_nil))) (pa_cons (pe_callB (call_isX hz hf) (by rfl) bn.isinstance bt_isinstance (pa_cons (pv 2) (pa_cons (pe_glob (by rfl) g_ZeroError rfl) pa_nil))) (pa_cons (pe_callB (call_isX hz hf) (by rfl) bn.isinstance bt_isinstance (pa_cons (pv 2) (pa_cons (pe_glob (by rfl) g_MixError rfl) pa_nil))) pa_nil))))))
    (pss_cons (ps_set (i := 3) sc__law_call.nd rfl (by first | exact Or.inl rfl | exact Or.inr rfl) (pe_op op_cat (pv 3) (pe_lst (pa_cons (pe_callB (call_isX hz hf) (by rfl) bn.isinstance bt_isinstance (pa_cons (pv 2) (pa_cons (pe_glob (by rfl) g_BarError rfl) pa_nil))) (pa_cons (pe_callB (call_isX hz hf) (by rfl) bn.isinstance bt_isinstance (pa_cons (pv 2) (pa_cons (pe_glob (by rfl) g_MonicError rfl) pa_nil))) (pa_cons (pe_callB (call_isX hz hf) (by rfl) bn.isinstance bt_isinstance (pa_cons (pv 2) (pa_cons (pe_glob (by rfl) g_RepeatError rfl) pa_nil))) pa_nil))))))
    (pss_cons (ps_set (i := 3) sc__law_call.nd rfl (by first | exact Or.inl rfl | exact Or.inr rfl) (pe_op op_cat (pv 3) (pe_lst (pa_cons (pe_callB (call_isX hz hf) (by rfl) bn.isinstance bt_isinstance (pa_cons (pv 2) (pa_cons (pe_glob (by rfl) g_FieldError rfl) pa_nil))) (pa_cons (pe_callB (call_isX hz hf) (by rfl) bn.isinstance bt_isinstance (pa_cons (pv 2) (pa_cons (pe_glob (by rfl) g_EditError rfl) pa_nil))) (pa_cons (pe_callB (call_isX hz hf) (by rfl) bn.isinstance bt_isinstance (pa_cons (pv 2) (pa_cons (pe_glob (by rfl) g_TextError rfl) pa_nil))) pa_nil))))))
    (pss_cons (ps_set (i := 3) sc__law_call.nd rfl (by first | exact Or.inl rfl | exact Or.inr rfl) (pe_op op_cat (pv 3) (pe_lst (pa_cons (pe_callB (call_isX hz hf) (by rfl) bn.isinstance bt_isinstance (pa_cons (pv 2) (pa_cons (pe_glob (by rfl) g_HistoryError rfl) pa_nil))) pa_nil))))
    (pss_cons (ps_if (PW.pt (pw_or (pt_cmpR op_ne (pe_bm PySem.F.plainAttrs_list PySem.F.slot_list_count PySem.F.type_list_count mt_countB (pv 3) (pa_cons pe_bl pa_nil)) pe_int (nomark _)) (pw_or1 (pt_not (pt_val (pe_callB (call_isX hz hf) (by rfl) bn.isinstance bt_isinstance (pa_cons (pv 2) (pa_cons (pe_bltn (by rfl) g_ValueError bt_ValueError rfl) pa_nil)))))))) (pss_one (ps_ret (pe_tup (pa_cons pe_str pa_nil)))) pss_nil)
    (pss_cons (ps_if (pt_val (pe_ix ix_seq (pv 3) pe_int (fun _ _ => rfl))) (pss_one (ps_ret (pe_tup (pa_cons pe_str (pa_cons (pe_calH h__law_number (room_suite hr) (hot_suite hz hf) (pa_cons (pe_xfA hz hf (pv 2)) pa_nil)) pa_nil))))) pss_nil)
    (pss_cons (ps_if (pt_val (pe_ix ix_seq (pv 3) pe_int (fun _ _ => rfl))) (pss_one (ps_ret (pe_tup (pa_cons pe_str (pa_cons (pe_calH h__law_number (room_suite hr) (hot_suite hz hf) (pa_cons (pe_xfA hz hf (pv 2)) pa_nil)) pa_nil))))) pss_nil)
    (pss_one (ps_ret (pe_tup (pa_cons pe_str pa_nil)))))))))))))))

/-! _law_refused -/
abbrev s__law_refused : Stmt := top 55
def N__law_refused : List Str := ["pool", "rest", "p", "at", "part", "above", "q", "many", "r", "spot", "both", "deep", "asked", "word", "constant"]
theorem sc__law_refused : FnScope N__law_refused ["pool"] (defScope s__law_refused) := ⟨rfl, rfl, rfl, by decide +kernel, rfl, by decide +kernel, by decide +kernel⟩
def t__law_refused (K : PySem.W.Frag) (E : XK) : TS := (tSeq (tAsg (tCallS (sp__law_draw K) (fun _ => E0) (tCons (tVar 0) (tCons (tOp rPowI (tC (.int 10)) (tC (.int 6))) (tCons (tC (.int 5)) tNil)))) (gName 1)) (tSeq (tAsg (tOp (rIx K) (tLst (tCons (tC (.int 2)) (tCons (tC (.int 3)) (tCons (tC (.int 5)) (tCons (tC (.int 7)) tNil))))) (tCallS (sp__law_draw K) (fun _ => E0) (tCons (tVar 0) (tCons (tC (.int 4)) (tCons (tC (.int 1)) tNil))))) (gName 2)) (tSeq (tAsg (tOp rAddI (tVar 2) (tCallS (sp__law_draw K) (fun _ => E0) (tCons (tVar 0) (tCons (tOp rSubI (tC (.int 30)) (tVar 2)) (tCons (tC (.int 4)) tNil))))) (gName 3)) (tSeq (tAsg (tOp rAddI (tOp rAddI (tC (.int 1)) (tCallS (sp__law_draw K) (fun _ => E0) (tCons (tVar 0) (tCons (tOp rSubI (tVar 2) (tC (.int 1))) (tCons (tC (.int 0)) tNil))))) (tOp rMulI (tVar 2) (tVar 1))) (gName 4)) (tSeq (tAsg (tCallS (sp__law_wide_first K) (fun _ => E0) (tCons (tVar 2) (tCons (tVar 3) (tCons (tVar 4) (tCons (tVar 1) tNil))))) (gName 5)) (tSeq (tAsg (tOp (rIx K) (tLst (tCons (tC (.int 53)) (tCons (tC (.int 59)) (tCons (tC (.int 61)) (tCons (tC (.int 67)) (tCons (tC (.int 71)) (tCons (tC (.int 73)) (tCons (tC (.int 79)) (tCons (tC (.int 83)) (tCons (tC (.int 89)) (tCons (tC (.int 97)) tNil))))))))))) (tCallS (sp__law_draw K) (fun _ => E0) (tCons (tVar 0) (tCons (tC (.int 10)) (tCons (tC (.int 0)) tNil))))) (gName 6)) (tSeq (tAsg (tMake (He.ga K "Mahler") (sp_Mahler___init__ K) [] E0 (tCons (tVar 6) (tCons (tLst (tCons (tVar 1) (tCons (tOp rAddI (tC (.int 1)) (tCallS (sp__law_draw K) (fun _ => E0) (tCons (tVar 0) (tCons (tC (.int 9)) (tCons (tC (.int 0)) tNil))))) tNil))) tNil))) (gName 7)) (tSeq (tAsg (tOp (rIx K) (tLst (tCons (tC (.int 17)) (tCons (tC (.int 19)) (tCons (tC (.int 23)) (tCons (tC (.int 29)) tNil))))) (tCallS (sp__law_draw K) (fun _ => E0) (tCons (tVar 0) (tCons (tC (.int 4)) (tCons (tC (.int 0)) tNil))))) (gName 8)) (tSeq (tAsg (tOp rAddI (tVar 8) (tCallS (sp__law_draw K) (fun _ => E0) (tCons (tVar 0) (tCons (tOp rSubI (tC (.int 30)) (tVar 8)) (tCons (tC (.int 0)) tNil))))) (gName 9)) (tSeq (tAsg (tCallS (sp__law_wide_first K) (fun _ => E0) (tCons (tVar 8) (tCons (tVar 9) (tCons (tOp rAddI (tC (.int 1)) (tCallS (sp__law_draw K) (fun _ => E0) (tCons (tVar 0) (tCons (tOp rSubI (tVar 8) (tC (.int 1))) (tCons (tC (.int 0)) tNil))))) (tCons (tVar 1) tNil))))) (gName 10)) (tSeq (tAsg (tCallS (sp__law_wide_first K) (fun _ => E0) (tCons (tVar 8) (tCons (tVar 9) (tCons (tVar 8) (tCons (tVar 1) tNil))))) (gName 11)) (tSeq (tAsg (tLst tNil) (gName 12)) (tSeq (tFor (iList K (tLst (tCons (tC (.str "depth")) (tCons (tC (.str "meeting")) (tCons (tC (.str "shuffles")) tNil))))) (gName 13) (tSeq (tDrop (tBM K "list" rAppend (tVar 12) (tCons (tOp (rEqD K) (tCallS (sp__law_call K) (fun _ => E0) (tCons (tVar 13) (tCons (tVar 5) tNil))) (tTup (tCons (tC (.str "range")) (tCons (tCallS (sp__law_level K) (fun _ => E0) (tCons (tVar 2) (tCons (tVar 3) tNil))) tNil)))) tNil))) (tSeq (tDrop (tBM K "list" rAppend (tVar 12) (tCons (tOp (rEqD K) (tCallS (sp__law_call K) (fun _ => E0) (tCons (tVar 13) (tCons (tVar 7) tNil))) (tTup (tCons (tC (.str "size")) (tCons (tOp rMulI (tVar 6) (tVar 6)) tNil)))) tNil))) (tSeq (tDrop (tBM K "list" rAppend (tVar 12) (tCons (tOp (rEqD K) (tCallS (sp__law_call K) (fun _ => E0) (tCons (tVar 13) (tCons (tVar 10) tNil))) (tTup (tCons (tC (.str "range")) (tCons (tC (.int 1)) tNil)))) tNil))) (tDrop (tBM K "list" rAppend (tVar 12) (tCons (tOp (rEqD K) (tCallS (sp__law_call K) (fun _ => E0) (tCons (tVar 13) (tCons (tVar 11) tNil))) (tTup (tCons (tC (.str "size")) (tCons (tOp rMulI (tOp rMulI (tVar 8) (tVar 8)) (tVar 8)) tNil)))) tNil))))))) (tSeq (tAsg (tMake (He.ga K "Mahler") (sp_MahlerT K) [] E0 (tCons (tVar 6) (tCons (tTup (tCons (tVar 1) tNil)) tNil))) (gName 14)) (tSeq (tDrop (tBM K "list" rAppend (tVar 12) (tCons (tCallS (sp__law_same K) (fun _ => E0) (tCons (tVar 14) (tCons (tVar 6) (tCons (tLst (tCons (tVar 1) tNil)) (tCons (tTup (tCons (tC (.int 0)) (tCons (tC (.int 1)) tNil))) tNil))))) tNil))) (tRet (tCB (rAll K) (tCons (tVar 12) tNil))))))))))))))))))
theorem ps__law_refused {P : Program} {w : World} {K : PySem.W.Frag} {mg : Str → Option Value} {base : Heap} {f : Addr} (bn : Bn mg) (c__law_draw : Cal P w K mg base "_law_draw" 1 ["pool", "bound", "plus"] (sp__law_draw K)) (c__law_wide_first : Cal P w K mg base "_law_wide_first" 5 ["p", "at", "part", "rest"] (sp__law_wide_first K)) (n_Mahler : CalM P w K mg base "Mahler" 3 ["self", "p", "row"] (sp_Mahler___init__ K)) (n_MahlerT : CalM P w K mg base "Mahler" 3 ["self", "p", "row"] (sp_MahlerT K)) (c__law_call : Cal P w K mg base "_law_call" 9 ["word", "g"] (sp__law_call K)) (c__law_level : Cal P w K mg base "_law_level" 1 ["p", "i"] (sp__law_level K)) (c__law_same : Cal P w K mg base "_law_same" 9 ["g", "p", "own", "due"] (sp__law_same K)) :
    ∀ (cdv : Value) (A : Around) (outer : List Env) (s : Shared) (H : Hp) (E : XK), Room 9 (A.deeper (PyProof.Rows.envOfC "_law_refused" (defScope s__law_refused) s.heap.objs.size f cdv)) → PSs (cxOf (L2N.CX P w) P w K mg base N__law_refused "_law_refused" (defScope s__law_refused) f cdv A outer s H E) (defBody s__law_refused) (t__law_refused K E) := by
  intro cdv A outer s H E hr
  exact (pss_cons (ps_set (i := 1) sc__law_refused.nd rfl (by first | exact Or.inl rfl | exact Or.inr rfl) (pe_cal c__law_draw hr (fun σ => passAt0 σ) (pa_cons (pv 0) (pa_cons (pe_op op_pow pe_int pe_int) (pa_cons pe_int pa_nil)))))
    (pss_cons (ps_set (i := 2) sc__law_refused.nd rfl (by first | exact Or.inl rfl | exact Or.inr rfl) (pe_ix ix_seq (pe_lst (pa_cons pe_int (pa_cons pe_int (pa_cons pe_int (pa_cons pe_int pa_nil))))) (pe_cal c__law_draw hr (fun σ => passAt0 σ) (pa_cons (pv 0) (pa_cons pe_int (pa_cons pe_int pa_nil)))) (fun _ _ => rfl)))
    (pss_cons (ps_set (i := 3) sc__law_refused.nd rfl (by first | exact Or.inl rfl | exact Or.inr rfl) (pe_op op_add (pv 2) (pe_cal c__law_draw hr (fun σ => passAt0 σ) (pa_cons (pv 0) (pa_cons (pe_op op_sub pe_int (pv 2)) (pa_cons pe_int pa_nil))))))
    (pss_cons (ps_set (i := 4) sc__law_refused.nd rfl (by first | exact Or.inl rfl | exact Or.inr rfl) (pe_op op_add (pe_op op_add pe_int (pe_cal c__law_draw hr (fun σ => passAt0 σ) (pa_cons (pv 0) (pa_cons (pe_op op_sub (pv 2) pe_int) (pa_cons pe_int pa_nil))))) (pe_op op_mulW (pv 2) (pv 1))))
    (pss_cons (ps_set (i := 5) sc__law_refused.nd rfl (by first | exact Or.inl rfl | exact Or.inr rfl) (pe_cal c__law_wide_first hr (fun σ => passAt0 σ) (pa_cons (pv 2) (pa_cons (pv 3) (pa_cons (pv 4) (pa_cons (pv 1) pa_nil))))))
    (pss_cons (ps_set (i := 6) sc__law_refused.nd rfl (by first | exact Or.inl rfl | exact Or.inr rfl) (pe_ix ix_seq (pe_lst (pa_cons pe_int (pa_cons pe_int (pa_cons pe_int (pa_cons pe_int (pa_cons pe_int (pa_cons pe_int (pa_cons pe_int (pa_cons pe_int (pa_cons pe_int (pa_cons pe_int pa_nil))))))))))) (pe_cal c__law_draw hr (fun σ => passAt0 σ) (pa_cons (pv 0) (pa_cons pe_int (pa_cons pe_int pa_nil)))) (fun _ _ => rfl)))
    (pss_cons (ps_set (i := 7) sc__law_refused.nd rfl (by first | exact Or.inl rfl | exact Or.inr rfl) (pe_calM n_Mahler hr (pa_cons (pv 6) (pa_cons (pe_lst (pa_cons (pv 1) (pa_cons (pe_op op_add pe_int (pe_cal c__law_draw hr (fun σ => passAt0 σ) (pa_cons (pv 0) (pa_cons pe_int (pa_cons pe_int pa_nil))))) pa_nil))) pa_nil))))
    (pss_cons (ps_set (i := 8) sc__law_refused.nd rfl (by first | exact Or.inl rfl | exact Or.inr rfl) (pe_ix ix_seq (pe_lst (pa_cons pe_int (pa_cons pe_int (pa_cons pe_int (pa_cons pe_int pa_nil))))) (pe_cal c__law_draw hr (fun σ => passAt0 σ) (pa_cons (pv 0) (pa_cons pe_int (pa_cons pe_int pa_nil)))) (fun _ _ => rfl)))
    (pss_cons (ps_set (i := 9) sc__law_refused.nd rfl (by first | exact Or.inl rfl | exact Or.inr rfl) (pe_op op_add (pv 8) (pe_cal c__law_draw hr (fun σ => passAt0 σ) (pa_cons (pv 0) (pa_cons (pe_op op_sub pe_int (pv 8)) (pa_cons pe_int pa_nil))))))
    (pss_cons (ps_set (i := 10) sc__law_refused.nd rfl (by first | exact Or.inl rfl | exact Or.inr rfl) (pe_cal c__law_wide_first hr (fun σ => passAt0 σ) (pa_cons (pv 8) (pa_cons (pv 9) (pa_cons (pe_op op_add pe_int (pe_cal c__law_draw hr (fun σ => passAt0 σ) (pa_cons (pv 0) (pa_cons (pe_op op_sub (pv 8) pe_int) (pa_cons pe_int pa_nil))))) (pa_cons (pv 1) pa_nil))))))
    (pss_cons (ps_set (i := 11) sc__law_refused.nd rfl (by first | exact Or.inl rfl | exact Or.inr rfl) (pe_cal c__law_wide_first hr (fun σ => passAt0 σ) (pa_cons (pv 8) (pa_cons (pv 9) (pa_cons (pv 8) (pa_cons (pv 1) pa_nil))))))
    (pss_cons (ps_set (i := 12) sc__law_refused.nd rfl (by first | exact Or.inl rfl | exact Or.inr rfl) (pe_lst pa_nil))
    (pss_cons (ps_for (passes_of rfl) rfl (pi_list (pe_lst (pa_cons pe_str (pa_cons pe_str (pa_cons pe_str pa_nil))))) (pg_name (i := 13) sc__law_refused.nd rfl (by first | exact Or.inl rfl | exact Or.inr rfl)) (pss_cons (ps_expr (pe_bm PySem.F.plainAttrs_list PySem.F.slot_list_append PySem.F.type_list_append mt_append (pv 12) (pa_cons (pe_cmpR (op_eqD hr.units) (pe_cal c__law_call hr (fun σ => passAt0 σ) (pa_cons (pv 13) (pa_cons (pv 5) pa_nil))) (pe_tup (pa_cons pe_str (pa_cons (pe_cal c__law_level hr (fun σ => passAt0 σ) (pa_cons (pv 2) (pa_cons (pv 3) pa_nil))) pa_nil))) (nomark _)) pa_nil)))
    (pss_cons (ps_expr (pe_bm PySem.F.plainAttrs_list PySem.F.slot_list_append PySem.F.type_list_append mt_append (pv 12) (pa_cons (pe_cmpR (op_eqD hr.units) (pe_cal c__law_call hr (fun σ => passAt0 σ) (pa_cons (pv 13) (pa_cons (pv 7) pa_nil))) (pe_tup (pa_cons pe_str (pa_cons (pe_op op_mulW (pv 6) (pv 6)) pa_nil))) (nomark _)) pa_nil)))
    (pss_cons (ps_expr (pe_bm PySem.F.plainAttrs_list PySem.F.slot_list_append PySem.F.type_list_append mt_append (pv 12) (pa_cons (pe_cmpR (op_eqD hr.units) (pe_cal c__law_call hr (fun σ => passAt0 σ) (pa_cons (pv 13) (pa_cons (pv 10) pa_nil))) (pe_tup (pa_cons pe_str (pa_cons pe_int pa_nil))) (nomark _)) pa_nil)))
    (pss_one (ps_expr (pe_bm PySem.F.plainAttrs_list PySem.F.slot_list_append PySem.F.type_list_append mt_append (pv 12) (pa_cons (pe_cmpR (op_eqD hr.units) (pe_cal c__law_call hr (fun σ => passAt0 σ) (pa_cons (pv 13) (pa_cons (pv 11) pa_nil))) (pe_tup (pa_cons pe_str (pa_cons (pe_op op_mulW (pe_op op_mulW (pv 8) (pv 8)) (pv 8)) pa_nil))) (nomark _)) pa_nil))))))))
    (pss_cons (ps_set (i := 14) sc__law_refused.nd rfl (by first | exact Or.inl rfl | exact Or.inr rfl) (pe_calM n_MahlerT hr (pa_cons (pv 6) (pa_cons (pe_tup (pa_cons (pv 1) pa_nil)) pa_nil))))
    (pss_cons (ps_expr (pe_bm PySem.F.plainAttrs_list PySem.F.slot_list_append PySem.F.type_list_append mt_append (pv 12) (pa_cons (pe_cal c__law_same hr (fun σ => passAt0 σ) (pa_cons (pv 14) (pa_cons (pv 6) (pa_cons (pe_lst (pa_cons (pv 1) pa_nil)) (pa_cons (pe_tup (pa_cons pe_int (pa_cons pe_int pa_nil))) pa_nil))))) pa_nil)))
    (pss_one (ps_ret (pe_callB (cr_all rfl) (by rfl) bn.all bt_all (pa_cons (pv 12) pa_nil)))))))))))))))))))

/-! law -/
abbrev s_law : Stmt := top 56
def N_law : List Str := ["script", "pool", "great", "sizes", "size", "p", "count", "row", "own", "given", "g", "depth", "modulus", "due", "k"]
theorem sc_law : FnScope N_law ["script"] (defScope s_law) := ⟨rfl, rfl, rfl, by decide +kernel, rfl, by decide +kernel, by decide +kernel⟩
def t_law (K : PySem.W.Frag) (E : XK) : TS := (tSeq (tAsg (tCallS (sp__law_begin K) (fun _ => E0) (tCons (tVar 0) tNil)) (gName 1)) (tSeq (tAsg (tOp rEq (tCallS (sp__law_draw K) (fun _ => E0) (tCons (tVar 1) (tCons (tC (.int 8)) (tCons (tC (.int 1)) tNil)))) (tC (.int 0))) (gName 2)) (tSeq (tAsg (tLst (tCons (tTup (tCons (tC (.int 2)) (tCons (tC (.int 30)) tNil))) (tCons (tTup (tCons (tC (.int 3)) (tCons (tC (.int 9)) tNil))) (tCons (tTup (tCons (tC (.int 5)) (tCons (tC (.int 5)) tNil))) (tCons (tTup (tCons (tC (.int 7)) (tCons (tC (.int 7)) tNil))) (tCons (tTup (tCons (tC (.int 2)) (tCons (tC (.int 9)) tNil))) (tCons (tTup (tCons (tC (.int 3)) (tCons (tC (.int 27)) tNil))) (tCons (tTup (tCons (tC (.int 11)) (tCons (tC (.int 6)) tNil))) (tCons (tTup (tCons (tC (.int 5)) (tCons (tC (.int 25)) tNil))) tNil))))))))) (gName 3)) (tSeq (tIfS (tB (tVar 2)) (tAsg (tLst (tCons (tTup (tCons (tC (.int 3)) (tCons (tC (.int 30)) tNil))) (tCons (tTup (tCons (tC (.int 5)) (tCons (tC (.int 30)) tNil))) (tCons (tTup (tCons (tC (.int 7)) (tCons (tC (.int 30)) tNil))) (tCons (tTup (tCons (tC (.int 11)) (tCons (tC (.int 20)) tNil))) (tCons (tTup (tCons (tC (.int 13)) (tCons (tC (.int 16)) tNil))) (tCons (tTup (tCons (tC (.int 47)) (tCons (tC (.int 4)) tNil))) (tCons (tTup (tCons (tC (.int 43)) (tCons (tC (.int 5)) tNil))) (tCons (tTup (tCons (tC (.int 2)) (tCons (tC (.int 30)) tNil))) tNil))))))))) (gName 3)) tNext) (tSeq (tAsg (tOp (rIx K) (tVar 3) (tCallS (sp__law_draw K) (fun _ => E0) (tCons (tVar 1) (tCons (tC (.int 8)) (tCons (tC (.int 1)) tNil))))) (gName 4)) (tSeq (tAsg (tOp (rIx K) (tVar 4) (tC (.int 0))) (gName 5)) (tSeq (tAsg (tOp rAddI (tC (.int 1)) (tCallS (sp__law_draw K) (fun _ => E0) (tCons (tVar 1) (tCons (tOp (rIx K) (tVar 4) (tC (.int 1))) (tCons (tC (.int 4)) tNil))))) (gName 6)) (tSeq (tIfS (tB (tVar 2)) (tAsg (tOp rSubI (tOp (rIx K) (tVar 4) (tC (.int 1))) (tCallS (sp__law_draw K) (fun _ => E0) (tCons (tVar 1) (tCons (tC (.int 3)) (tCons (tC (.int 0)) tNil))))) (gName 6)) tNext) (tSeq (tAsg (tCallS (sp__law_entries K) (fun _ => E0) (tCons (tVar 1) (tCons (tVar 5) (tCons (tVar 6) (tCons (tVar 2) tNil))))) (gName 7)) (tSeq (tAsg (tCallS (sp__law_trimmed K) (fun _ => E0) (tCons (tVar 7) tNil)) (gName 8)) (tSeq (tAsg (tCB (rListQ K) (tCons (tVar 7) tNil)) (gName 9)) (tSeq (tAsg (tMake (He.ga K "Mahler") (sp_Mahler___init__ K) [] E0 (tCons (tVar 5) (tCons (tVar 9) tNil))) (gName 10)) (tSeq (tAsg (tOp rAddI (tOp (rIx K) (tVar 9) (tC (.int 0))) (tC (.int 1))) (gSub (tVar 9) (tC (.int 0)) rSetL)) (tSeq (tAsg (tCallS (sp__law_steps K) (fun _ => E0) (tCons (tVar 5) (tCons (tVar 8) tNil))) (gName 11)) (tSeq (tAsg (tCallS (sp__law_power K) (fun _ => E0) (tCons (tVar 5) (tCons (tVar 11) tNil))) (gName 12)) (tSeq (tAsg (tCallS (sp__law_met K) (fun _ => E0) (tCons (tVar 8) (tCons (tVar 12) tNil))) (gName 13)) (tSeq (tIfS (tOr (tNot (tB (tCallS (sp__law_same K) (fun _ => E0) (tCons (tVar 10) (tCons (tVar 5) (tCons (tVar 8) (tCons (tVar 13) tNil))))))) (tNot (tB (tCallS (sp__law_refused K) (fun _ => E0) (tCons (tVar 1) tNil))))) (tRet (tC (.bl false))) tNext) (tSeq (tFor (iRng1 (tCons (tC (.int 2)) tNil)) (gName 14) (tSeq (tAsg (tOp rMulI (tVar 12) (tVar 5)) (gName 12)) (tIfS (tAnd (tTest (tOp rLeI (tVar 12) (tC (.int 400)))) (tTest (tOp rNe (tOp rIsNn (tCallS (sp__law_met K) (fun _ => E0) (tCons (tVar 8) (tCons (tVar 12) tNil))) (tC .non)) (tCallS (sp_shuffles K) (WE (WD E)) (tCons (tVar 10) tNil))))) (tRet (tC (.bl false))) tNext))) (tRet (tOrV (tOp rGtI (tVar 12) (tC (.int 400))) (tCallS (sp__law_same K) (fun _ => E0) (tCons (tVar 10) (tCons (tVar 5) (tCons (tVar 8) (tCons (tVar 13) tNil)))))))))))))))))))))))))
theorem ps_law {P : Program} {w : World} {K : PySem.W.Frag} {mg : Str → Option Value} {base : Heap} {f : Addr} (bn : Bn mg) (c__law_begin : Cal P w K mg base "_law_begin" 1 ["script"] (sp__law_begin K)) (c__law_draw : Cal P w K mg base "_law_draw" 1 ["pool", "bound", "plus"] (sp__law_draw K)) (c__law_entries : Cal P w K mg base "_law_entries" 2 ["pool", "p", "count", "great"] (sp__law_entries K)) (c__law_trimmed : Cal P w K mg base "_law_trimmed" 1 ["row"] (sp__law_trimmed K)) (n_Mahler : CalM P w K mg base "Mahler" 3 ["self", "p", "row"] (sp_Mahler___init__ K)) (c__law_steps : Cal P w K mg base "_law_steps" 1 ["p", "row"] (sp__law_steps K)) (c__law_power : Cal P w K mg base "_law_power" 1 ["base", "exponent"] (sp__law_power K)) (c__law_met : Cal P w K mg base "_law_met" 2 ["row", "modulus"] (sp__law_met K)) (c__law_same : Cal P w K mg base "_law_same" 9 ["g", "p", "own", "due"] (sp__law_same K)) (c__law_refused : Cal P w K mg base "_law_refused" 10 ["pool"] (sp__law_refused K)) (c_shuffles : Cal P w K mg base "shuffles" 8 ["g"] (sp_shuffles K)) :
    ∀ (cdv : Value) (A : Around) (outer : List Env) (s : Shared) (H : Hp) (E : XK), Room 10 (A.deeper (PyProof.Rows.envOfC "law" (defScope s_law) s.heap.objs.size f cdv)) → PSs (cxOf (L2N.CX P w) P w K mg base N_law "law" (defScope s_law) f cdv A outer s H E) (defBody s_law) (t_law K E) := by
  intro cdv A outer s H E hr
  exact (pss_cons (ps_set (i := 1) sc_law.nd rfl (by first | exact Or.inl rfl | exact Or.inr rfl) (pe_cal c__law_begin hr (fun σ => passAt0 σ) (pa_cons (pv 0) pa_nil)))
    (pss_cons (ps_set (i := 2) sc_law.nd rfl (by first | exact Or.inl rfl | exact Or.inr rfl) (pe_cmpR op_eq (pe_cal c__law_draw hr (fun σ => passAt0 σ) (pa_cons (pv 1) (pa_cons pe_int (pa_cons pe_int pa_nil)))) pe_int (nomark _)))
    (pss_cons (ps_set (i := 3) sc_law.nd rfl (by first | exact Or.inl rfl | exact Or.inr rfl) (pe_lst (pa_cons (pe_tup (pa_cons pe_int (pa_cons pe_int pa_nil))) (pa_cons (pe_tup (pa_cons pe_int (pa_cons pe_int pa_nil))) (pa_cons (pe_tup (pa_cons pe_int (pa_cons pe_int pa_nil))) (pa_cons (pe_tup (pa_cons pe_int (pa_cons pe_int pa_nil))) (pa_cons (pe_tup (pa_cons pe_int (pa_cons pe_int pa_nil))) (pa_cons (pe_tup (pa_cons pe_int (pa_cons pe_int pa_nil))) (pa_cons (pe_tup (pa_cons pe_int (pa_cons pe_int pa_nil))) (pa_cons (pe_tup (pa_cons pe_int (pa_cons pe_int pa_nil))) pa_nil))))))))))
    (pss_cons (ps_if (pt_val (pv 2)) (pss_one (ps_set (i := 3) sc_law.nd rfl (by first | exact Or.inl rfl | exact Or.inr rfl) (pe_lst (pa_cons (pe_tup (pa_cons pe_int (pa_cons pe_int pa_nil))) (pa_cons (pe_tup (pa_cons pe_int (pa_cons pe_int pa_nil))) (pa_cons (pe_tup (pa_cons pe_int (pa_cons pe_int pa_nil))) (pa_cons (pe_tup (pa_cons pe_int (pa_cons pe_int pa_nil))) (pa_cons (pe_tup (pa_cons pe_int (pa_cons pe_int pa_nil))) (pa_cons (pe_tup (pa_cons pe_int (pa_cons pe_int pa_nil))) (pa_cons (pe_tup (pa_cons pe_int (pa_cons pe_int pa_nil))) (pa_cons (pe_tup (pa_cons pe_int (pa_cons pe_int pa_nil))) pa_nil))))))))))) pss_nil)
    (pss_cons (ps_set (i := 4) sc_law.nd rfl (by first | exact Or.inl rfl | exact Or.inr rfl) (pe_ix ix_seq (pv 3) (pe_cal c__law_draw hr (fun σ => passAt0 σ) (pa_cons (pv 1) (pa_cons pe_int (pa_cons pe_int pa_nil)))) (fun _ _ => rfl)))
    (pss_cons (ps_set (i := 5) sc_law.nd rfl (by first | exact Or.inl rfl | exact Or.inr rfl) (pe_ix ix_seq (pv 4) pe_int (fun _ _ => rfl)))
    (pss_cons (ps_set (i := 6) sc_law.nd rfl (by first | exact Or.inl rfl | exact Or.inr rfl) (pe_op op_add pe_int (pe_cal c__law_draw hr (fun σ => passAt0 σ) (pa_cons (pv 1) (pa_cons (pe_ix ix_seq (pv 4) pe_int (fun _ _ => rfl)) (pa_cons pe_int pa_nil))))))
    (pss_cons (ps_if (pt_val (pv 2)) (pss_one (ps_set (i := 6) sc_law.nd rfl (by first | exact Or.inl rfl | exact Or.inr rfl) (pe_op op_sub (pe_ix ix_seq (pv 4) pe_int (fun _ _ => rfl)) (pe_cal c__law_draw hr (fun σ => passAt0 σ) (pa_cons (pv 1) (pa_cons pe_int (pa_cons pe_int pa_nil))))))) pss_nil)
    (pss_cons (ps_set (i := 7) sc_law.nd rfl (by first | exact Or.inl rfl | exact Or.inr rfl) (pe_cal c__law_entries hr (fun σ => passAt0 σ) (pa_cons (pv 1) (pa_cons (pv 5) (pa_cons (pv 6) (pa_cons (pv 2) pa_nil))))))
    (pss_cons (ps_set (i := 8) sc_law.nd rfl (by first | exact Or.inl rfl | exact Or.inr rfl) (pe_cal c__law_trimmed hr (fun σ => passAt0 σ) (pa_cons (pv 7) pa_nil)))
    (pss_cons (ps_set (i := 9) sc_law.nd rfl (by first | exact Or.inl rfl | exact Or.inr rfl) (pe_callTy call_listQ (by rfl) bn.list bt_list (pa_cons (pv 7) pa_nil)))
    (pss_cons (ps_set (i := 10) sc_law.nd rfl (by first | exact Or.inl rfl | exact Or.inr rfl) (pe_calM n_Mahler hr (pa_cons (pv 5) (pa_cons (pv 9) pa_nil))))
    (pss_cons (ps_asg (pe_op op_add (pe_ix ix_seq (pv 9) pe_int (fun _ _ => rfl)) pe_int) (pg_sub (pv 9) pe_int set_list))
    (pss_cons (ps_set (i := 11) sc_law.nd rfl (by first | exact Or.inl rfl | exact Or.inr rfl) (pe_cal c__law_steps hr (fun σ => passAt0 σ) (pa_cons (pv 5) (pa_cons (pv 8) pa_nil))))
    (pss_cons (ps_set (i := 12) sc_law.nd rfl (by first | exact Or.inl rfl | exact Or.inr rfl) (pe_cal c__law_power hr (fun σ => passAt0 σ) (pa_cons (pv 5) (pa_cons (pv 11) pa_nil))))
    (pss_cons (ps_set (i := 13) sc_law.nd rfl (by first | exact Or.inl rfl | exact Or.inr rfl) (pe_cal c__law_met hr (fun σ => passAt0 σ) (pa_cons (pv 8) (pa_cons (pv 12) pa_nil))))
    (pss_cons (ps_if (PW.pt (pw_or (pt_not (pt_val (pe_cal c__law_same hr (fun σ => passAt0 σ) (pa_cons (pv 10) (pa_cons (pv 5) (pa_cons (pv 8) (pa_cons (pv 13) pa_nil))))))) (pw_or1 (pt_not (pt_val (pe_cal c__law_refused hr (fun σ => passAt0 σ) (pa_cons (pv 1) pa_nil))))))) (pss_one (ps_ret pe_bl)) pss_nil)
    (pss_cons (ps_for (passes_of rfl) rfl (pi_range1 (by rfl) bn.range (pa_cons pe_int pa_nil)) (pg_name (i := 14) sc_law.nd rfl (by first | exact Or.inl rfl | exact Or.inr rfl)) (pss_cons (ps_set (i := 12) sc_law.nd rfl (by first | exact Or.inl rfl | exact Or.inr rfl) (pe_op op_mulW (pv 12) (pv 5)))
    (pss_one (ps_if (PW.pt (pw_and (pt_cmpR op_le (pv 12) pe_int (nomark _)) (pw_and1 (pt_cmpR op_ne (pe_cmpR op_isNn (pe_cal c__law_met hr (fun σ => passAt0 σ) (pa_cons (pv 8) (pa_cons (pv 12) pa_nil))) pe_non (nomark _)) (pe_cal c_shuffles hr (fun σ => L2N.passAt (L2N.takes_of rfl rfl rfl rfl) σ) (pa_cons (pv 10) pa_nil)) (nomark _))))) (pss_one (ps_ret pe_bl)) pss_nil))))
    (pss_one (ps_ret (pe_or (pe_cmpR op_gt (pv 12) pe_int (nomark _)) (pe_one (pe_cal c__law_same hr (fun σ => passAt0 σ) (pa_cons (pv 10) (pa_cons (pv 5) (pa_cons (pv 8) (pa_cons (pv 13) pa_nil)))))))))))))))))))))))))))

/-! look_list -/
abbrev s_look_listT : Stmt := top 21
def N_look_listT : List Str := ["entries", "low", "high"]
theorem sc_look_listT : FnScope N_look_listT ["entries", "low", "high"] (defScope s_look_listT) := ⟨rfl, rfl, rfl, by decide +kernel, rfl, by decide +kernel, by decide +kernel⟩
def t_look_listT (K : PySem.W.Frag) (E : XK) : TS := (tDrop (tCallS (sp_look_size K) (WE (WD E)) (tCons (tCB (rLenQ K) (tCons (tVar 0) tNil)) (tCons (tVar 1) (tCons (tVar 2) tNil)))))
theorem ps_look_listT {P : Program} {w : World} {K : PySem.W.Frag} {mg : Str → Option Value} {base : Heap} {f : Addr} (bn : Bn mg) (c_look_size : Cal P w K mg base "look_size" 1 ["count", "low", "high"] (sp_look_size K)) :
    ∀ (cdv : Value) (A : Around) (outer : List Env) (s : Shared) (H : Hp) (E : XK), Room 1 (A.deeper (PyProof.Rows.envOfC "look_list" (defScope s_look_listT) s.heap.objs.size f cdv)) → PSs (cxOf (L2N.CX P w) P w K mg base N_look_listT "look_list" (defScope s_look_listT) f cdv A outer s H E) (defBody s_look_listT) (t_look_listT K E) := by
  intro cdv A outer s H E hr
  exact (pss_one (ps_expr (pe_cal c_look_size hr (fun σ => L2N.passAt (L2N.takes_of rfl rfl rfl rfl) σ) (pa_cons (pe_callB call_lenQ (by rfl) bn.len bt_len (pa_cons (pv 0) pa_nil)) (pa_cons (pv 1) (pa_cons (pv 2) pa_nil))))))

/-! look_each -/
abbrev s_look_eachT : Stmt := top 22
def N_look_eachT : List Str := ["entries", "low", "high", "entry"]
theorem sc_look_eachT : FnScope N_look_eachT ["entries", "low", "high"] (defScope s_look_eachT) := ⟨rfl, rfl, rfl, by decide +kernel, rfl, by decide +kernel, by decide +kernel⟩
def t_look_eachT (K : PySem.W.Frag) (E : XK) : TS := (tFor (iTup K (tVar 0)) (gName 3) (tDrop (tCallS (sp_look_range K) (WE (WD E)) (tCons (tVar 3) (tCons (tVar 1) (tCons (tVar 2) tNil))))))
theorem ps_look_eachT {P : Program} {w : World} {K : PySem.W.Frag} {mg : Str → Option Value} {base : Heap} {f : Addr} (bn : Bn mg) (c_look_range : Cal P w K mg base "look_range" 1 ["number", "low", "high"] (sp_look_range K)) :
    ∀ (cdv : Value) (A : Around) (outer : List Env) (s : Shared) (H : Hp) (E : XK), Room 1 (A.deeper (PyProof.Rows.envOfC "look_each" (defScope s_look_eachT) s.heap.objs.size f cdv)) → PSs (cxOf (L2N.CX P w) P w K mg base N_look_eachT "look_each" (defScope s_look_eachT) f cdv A outer s H E) (defBody s_look_eachT) (t_look_eachT K E) := by
  intro cdv A outer s H E hr
  exact (pss_one (ps_for (passes_of rfl) rfl (pi_tup (pv 0)) (pg_name (i := 3) sc_look_eachT.nd rfl (by first | exact Or.inl rfl | exact Or.inr rfl)) (pss_one (ps_expr (pe_cal c_look_range hr (fun σ => L2N.passAt (L2N.takes_of rfl rfl rfl rfl) σ) (pa_cons (pv 3) (pa_cons (pv 1) (pa_cons (pv 2) pa_nil))))))))

/-! Mahler.__init__ -/
abbrev s_Mahler___init__T : Stmt := inClass (top 38) 0
def N_Mahler___init__T : List Str := ["self", "p", "row", "size"]
theorem sc_Mahler___init__T : FnScope N_Mahler___init__T ["self", "p", "row"] (defScope s_Mahler___init__T) := ⟨rfl, rfl, rfl, by decide +kernel, rfl, by decide +kernel, by decide +kernel⟩
def t_Mahler___init__T (K : PySem.W.Frag) (E : XK) : TS := (tSeq (tDrop (tCallS (sp_look_prime K) (WE (WD E)) (tCons (tVar 1) tNil))) (tSeq (tDrop (tCallS (sp_look_listT K) (WE (WD E)) (tCons (tVar 2) (tCons (tC (.int 1)) (tCons (tC (.int 30)) tNil))))) (tSeq (tDrop (tCallS (sp_look_eachT K) (WE (WD E)) (tCons (tVar 2) (tCons (tUn rNegI (tC (.int (10 ^ 30)))) (tCons (tC (.int (10 ^ 30))) tNil))))) (tSeq (tAsg (tCB (rLenQ K) (tCons (tVar 2) tNil)) (gName 3)) (tSeq (tWhile (tAnd (tTest (tOp rGtI (tVar 3) (tC (.int 1)))) (tTest (tOp rEq (tOp (rIx K) (tVar 2) (tOp rSubI (tVar 3) (tC (.int 1)))) (tC (.int 0))))) (tAsg (tOp rSubI (tVar 3) (tC (.int 1))) (gName 3))) (tSeq (sFld K (tVar 0) (tVar 1) "p") (sFld K (tVar 0) (tCB (rTupQ K) (tCons (tSl (rSlA K) (tVar 2) tNoPart (tPart (tVar 3))) tNil)) "row")))))))
theorem ps_Mahler___init__T {P : Program} {w : World} {K : PySem.W.Frag} {mg : Str → Option Value} {base : Heap} {f : Addr} {tk_MOST_ROW : Tok} {tk_MOST_ENTRY : Tok} (bn : Bn mg) (c_look_prime : Cal P w K mg base "look_prime" 1 ["p"] (sp_look_prime K)) (c_look_listT : Cal P w K mg base "look_list" 2 ["entries", "low", "high"] (sp_look_listT K)) (c_look_eachT : Cal P w K mg base "look_each" 2 ["entries", "low", "high"] (sp_look_eachT K)) (m_MOST_ROW : mg "MOST_ROW" = some (.int 30 tk_MOST_ROW)) (m_MOST_ENTRY : mg "MOST_ENTRY" = some (.int (10 ^ 30) tk_MOST_ENTRY)) :
    ∀ (cdv : Value) (A : Around) (outer : List Env) (s : Shared) (H : Hp) (E : XK), Room 2 (A.deeper (PyProof.Rows.envOfC "Mahler.__init__" (defScope s_Mahler___init__T) s.heap.objs.size f cdv)) → PSs (cxOf (L2N.CX P w) P w K mg base N_Mahler___init__T "Mahler.__init__" (defScope s_Mahler___init__T) f cdv A outer s H E) (defBody s_Mahler___init__T) (t_Mahler___init__T K E) := by
  intro cdv A outer s H E hr
  exact (pss_cons (ps_expr (pe_cal c_look_prime hr (fun σ => L2N.passAt (L2N.takes_of rfl rfl rfl rfl) σ) (pa_cons (pv 1) pa_nil)))
    (pss_cons (ps_expr (pe_cal c_look_listT hr (fun σ => L2N.passAt (L2N.takes_of rfl rfl rfl rfl) σ) (pa_cons (pv 2) (pa_cons pe_int (pa_cons (pe_glob (by rfl) m_MOST_ROW ⟨_, rfl⟩) pa_nil)))))
    (pss_cons (ps_expr (pe_cal c_look_eachT hr (fun σ => L2N.passAt (L2N.takes_of rfl rfl rfl rfl) σ) (pa_cons (pv 2) (pa_cons (pe_un un_neg (pe_glob (by rfl) m_MOST_ENTRY ⟨_, rfl⟩)) (pa_cons (pe_glob (by rfl) m_MOST_ENTRY ⟨_, rfl⟩) pa_nil)))))
    (pss_cons (ps_set (i := 3) sc_Mahler___init__T.nd rfl (by first | exact Or.inl rfl | exact Or.inr rfl) (pe_callB call_lenQ (by rfl) bn.len bt_len (pa_cons (pv 2) pa_nil)))
    (pss_cons (ps_while (passes_of rfl) (PW.pt (pw_and (pt_cmpR op_gt (pv 3) pe_int (nomark _)) (pw_and1 (pt_cmpR op_eq (pe_ix ix_seq (pv 2) (pe_op op_sub (pv 3) pe_int) (fun _ _ => rfl)) pe_int (nomark _))))) (pss_one (ps_set (i := 3) sc_Mahler___init__T.nd rfl (by first | exact Or.inl rfl | exact Or.inr rfl) (pe_op op_sub (pv 3) pe_int))))
    (pss_cons (ps_fld (pv 0) (pv 1) rfl)
    (pss_one (ps_fld (pv 0) (pe_callTy call_tupQ (by rfl) bn.tuple bt_tuple (pa_cons (pe_slice sl_tupA (pv 2) po_none (po_some (pv 3))) pa_nil)) rfl))))))))

end Z46
set_option maxHeartbeats 4000000
namespace Z46
open PySem PySem.Spec PyProof.Rows L2 Y
section
variable {K : PySem.W.Frag}
theorem rd__law_power : RdV K (t__law_power K) 2 powOk (fun a => [.int a.1, .int a.2]) (fun a => .ret (.int (a.1 ^ a.2))) := by
  rintro ⟨b, e⟩ ⟨h1, h2, h3⟩ B0 F R E fit
  simp only at h1 h2 h3
  show To _ none [.va (.int b), .va (.int e), .un, .un] _
  refine to_seq (to_set ev_int (to_seq ?_))
  refine to_forN (α := Unit) (fun i _ => [.va (.int b), .va (.int e), .va (.int (b ^ i)), .un]) (fun _ _ => True) (a0 := ()) (ei_rng1 (el_1 (ev_var rfl)) (by omega) (by omega)) trivial (by simp) ?_ ?_
  · intro B1 sb i _ hi _ N hN
    refine to_setS (d := .int (b ^ (i + 1))) ?_ (to_un 3 ?_)
    · refine Ev.is (ev_op (ev_var rfl) (ev_var rfl) (rv_mul (sm_mul (sm_pow (by omega) (by omega) (by omega)) (sm_of (by omega) (by omega))))) ?_
      rw [Int.pow_succ]
    · exact hN () trivial
  · intro _ _
    refine to_ret (ev_var rfl) ?_
    have e : (Int.toNat (e : Int)) = e := by omega
    rw [e]
    exact fit _
/-- the halves of e -/
theorem half_step {b : Int} {e k : Nat} : e / 2 ^ (k + 1) = (e / 2 ^ k) / 2 := by rw [Nat.pow_succ, Nat.div_div_eq_div_mul]
theorem half_mod {e k : Nat} : e % 2 ^ (k + 1) = e % 2 ^ k + 2 ^ k * (e / 2 ^ k % 2) := by
  rw [Nat.pow_succ, Nat.mod_mul]
theorem rd_power : RdV K (t_power K) 3 powOk (fun a => [.int a.1, .int a.2]) (fun a => .ret (.int (a.1 ^ a.2))) := by
  rintro ⟨b, e⟩ ⟨h1, h2, h3⟩ B0 F R E fit
  simp only at h1 h2 h3
  show To _ none [.va (.int b), .va (.int e), .un, .un, .un] _
  refine to_seq (to_set ev_int (to_seq (to_set (ev_var rfl) (to_seq (to_set (ev_var rfl) (to_seq ?_))))))
  -- k: how often it was halved; the square is not made again when nothing is left
  refine to_while (α := Nat × Int) (fun k => [.va (.int b), .va (.int e), .va (.int (b ^ (e % 2 ^ k.1))), .va (.int k.2), .va (.int (e / 2 ^ k.1 : Nat))]) (fun k => 0 < e / 2 ^ k.1 → k.2 = b ^ (2 ^ k.1)) (fun k => e / 2 ^ k.1) (fun k => decide (0 < e / 2 ^ k.1)) (a0 := (0, b)) (fun _ => by show b = b ^ 1; rw [Int.pow_succ, Int.pow_zero, Int.one_mul]) (by simp [Nat.mod_one]) ?_ ?_ ?_
  · rintro ⟨k, s⟩ ho
    refine EvT.is (et_test (ev_op (ev_var rfl) ev_int rv_gt)) ?_
    rw [Bool.eq_iff_iff]
    simp only [decide_eq_true_eq]
    omega
  · rintro ⟨k, s⟩ ho hk N hN
    have hk1 : 0 < e / 2 ^ k := by simpa using hk
    have hs : s = b ^ (2 ^ k) := ho hk1
    have hbig : 2 ^ k ≤ e := by
      have := Nat.div_pos_iff.mp hk1
      exact this.2
    have sm1 : Sm (b ^ (e % 2 ^ k)) := sm_pow (by omega) (by omega) (by have := Nat.mod_le e (2 ^ k); omega)
    have sm2 : Sm s := by
      rw [hs]
      exact sm_pow (by omega) (by omega) (by omega)
    have hlt : e / 2 ^ (k + 1) < e / 2 ^ k := by
      rw [half_step (b := b)]
      omega
    have hd2 : ((e / 2 ^ k : Nat) : Int) / 2 = (e / 2 ^ (k + 1) : Nat) := by
      rw [half_step (b := b)]
      omega
    have last : ∀ r : Int, r = b ^ (e % 2 ^ (k + 1)) → To ⟨K, B0, F⟩ none [.va (.int b), .va (.int e), .va (.int r), .va (.int s), .va (.int (e / 2 ^ k : Nat))] ((tSeq (tAsg (tOp rDivI (tVar 4) (tC (.int 2))) (gName 4)) (tIfS (tTest (tOp rGtI (tVar 4) (tC (.int 0)))) (tAsg (tOp rMulI (tVar 3) (tVar 3)) (gName 3)) tNext)) { nx := N, rt := R, bk := (tRet (tVar 2) { nx := fun _ H' => R .non H', rt := R }), ct := N }) := by
      rintro r rfl
      refine to_seq (to_set (Ev.is (ev_op (ev_var rfl) ev_int (rv_div (cdiv (by omega) (by decide)))) (by rw [hd2])) ?_)
      refine to_if (et_test (ev_op (ev_var rfl) ev_int rv_gt)) (fun hc => ?_) fun hc => ?_
      · refine to_set (Ev.is (ev_op (ev_var rfl) (ev_var rfl) (rv_mul (sm_mul sm2 sm2))) rfl) ?_
        refine hN (k + 1, s * s) (fun _ => ?_) hlt
        rw [hs, Nat.pow_succ, Nat.mul_comm, Int.pow_mul, Int.pow_succ, Int.pow_succ, Int.pow_zero, Int.one_mul, ← Int.mul_pow]
      · refine to_next (hN (k + 1, s) (fun h => ?_) hlt)
        have h' : 0 < e / 2 ^ (k + 1) := h
        have hc' := of_decide_eq_false hc
        omega
    refine to_cut [.va (.int b), .va (.int e), .va (.int (b ^ (e % 2 ^ (k + 1)))), .va (.int s), .va (.int (e / 2 ^ k : Nat))] ?_ (last _ rfl)
    intro M hM
    have hm : ((e / 2 ^ k : Nat) : Int) % 2 = (e / 2 ^ k % 2 : Nat) := by omega
    refine to_if (et_test (ev_op (ev_op (ev_var rfl) ev_int (rv_mod (by decide))) ev_int rv_eq)) (fun hc => ?_) fun hc => ?_
    · simp only [decide_eq_true_eq] at hc
      refine to_set (Ev.is (ev_op (ev_var rfl) (ev_var rfl) (rv_mul (sm_mul sm1 sm2))) ?_) hM
      rw [hs, half_mod, show e / 2 ^ k % 2 = 1 by omega, Nat.mul_one, Int.pow_add]
    · simp only [decide_eq_false_iff_not] at hc
      refine to_next ?_
      have z : e % 2 ^ (k + 1) = e % 2 ^ k := by
        rw [half_mod, show e / 2 ^ k % 2 = 0 by omega, Nat.mul_zero, Nat.add_zero]
      rw [z] at hM
      exact hM
  · rintro ⟨k, s⟩ ho hk
    have hk1 : e / 2 ^ k = 0 := Nat.eq_zero_of_not_pos (of_decide_eq_false hk)
    have z : e % 2 ^ k = e := by
      rcases Nat.div_eq_zero_iff.mp hk1 with h | h
      · exact absurd h (Nat.ne_of_gt (Nat.two_pow_pos k))
      · exact Nat.mod_eq_of_lt h
    refine to_ret (ev_var rfl) ?_
    simp only [z]
    exact fit _
end
end Z46
set_option maxHeartbeats 4000000
namespace Z46
open PySem PySem.Spec PyProof.Rows L2 Y
section
variable {K : PySem.W.Frag}
theorem zs_get {l : List Int} {i : Nat} (h : i < l.length) : (zs l)[i]? = some (.int (gi l i)) := by
  unfold zs gi
  simp [h]
theorem map_gi : ∀ (l : List Int), (List.range l.length).map (fun (i : Nat) => gi l i) = l := fun l => by
  apply List.ext_getElem
  · simp
  · intro i h1 h2
    simp [gi, h2]
theorem zs_range {n : Nat} (f : Nat → Int) : (List.range n).map (fun i => D.int (f i)) = zs ((List.range n).map f) := by
  simp [zs]
theorem cut_take {l : List Int} {k : Int} (h0 : 0 ≤ k) : Y.cutD (zs l) none (some k) = zs (l.take k.toNat) := by
  unfold Y.cutD HT.sIx
  simp only
  rw [if_neg (by omega)]
  simp only [Nat.sub_zero, List.drop_zero, zs, List.length_map, List.map_take]
  by_cases h : k.toNat ≤ l.length
  · rw [Nat.min_eq_left h]
  · rw [Nat.min_eq_right (by omega), List.take_of_length_le (by simp), List.take_of_length_le (by simp; omega)]
theorem rd__law_begin : RdV K (t__law_begin K) 1 (fun l : List Int => l.length ≤ 63) (fun l => [.lsr (zs l)]) (fun l => .own (.lst (zs (begun l)))) := by
  intro l hl B0 F R E fit
  show To _ none [.va (.lsr (zs l)), .un] _
  have e1 : Y.cutD (zs l) none (some 63) = zs (l.take 63) := cut_take (by decide)
  have s0 : EvO K (tSl (rSlL K) (tVar 0) tNoPart (tPart (tC (.int 63)))) [.va (.lsr (zs l)), .un] [.va (.lsr (zs l)), .un] (.lst (zs (l.take 63))) := EvO.is (eo_slR (ev_var rfl) ep_none (ep_some ev_int)) (by rw [e1])
  refine to_retO0 (eo_cat (eo_lsts (el_1 ev_int)).ev (EvO.ev (eo_lc1 (fun i => .int (gi (l.take 63) i).natAbs) (ei_list (it := fun i => .int (gi (l.take 63) i)) s0.ev (fun i hi => zs_get (by simpa using hi))) ?_ fun i hi => ?_)) ?_) ?_
  · simp; omega
  · (repeat' (first | (with_reducible exact ev_int) | (with_reducible exact ev_str) | (with_reducible exact ev_bl) | (with_reducible exact ev_non) | (with_reducible exact ev_ty) | ((with_reducible apply ev_var); exact rfl) | (with_reducible exact el_nil) | (with_reducible apply el_cons) | ((with_reducible apply ev_lenOi); exact rfl) | ((with_reducible apply ev_ixOiS); exact rfl) | (with_reducible apply ev_op) | (with_reducible exact rv_add) | (with_reducible exact rv_sub) | (with_reducible apply rv_mul) | (with_reducible apply rv_div) | (with_reducible apply rv_mod) | (with_reducible apply rv_pow) | (with_reducible exact rv_lt) | (with_reducible exact rv_le) | (with_reducible exact rv_gt) | (with_reducible exact rv_ge) | (with_reducible exact rv_eq) | (with_reducible exact rv_ne) | (with_reducible exact rv_eqS) | (with_reducible exact rv_eqB) | (with_reducible exact rv_neB) | (with_reducible exact rv_isN) | (with_reducible exact rv_notN) | (with_reducible exact rv_isB) | (with_reducible exact rv_notB) | (with_reducible apply rv_ixi) | (with_reducible apply rv_ixTi) | ((with_reducible apply rv_ixLT); exact rfl) | ((with_reducible apply rv_ixLL); exact rfl) | (with_reducible apply ev_cbs) | (with_reducible exact rc_int) | (with_reducible exact rc_intB) | (with_reducible exact rc_leni) | (with_reducible exact rc_lenTi) | (with_reducible exact rc_abs) | (with_reducible exact rc_max2) | (with_reducible exact rc_min2) | (with_reducible exact rc_all) | (with_reducible exact rc_any) | (with_reducible exact rc_sum) | (with_reducible exact rc_lenL) | (with_reducible exact rc_lenT) | (with_reducible apply et_test) | (with_reducible apply et_B) | (with_reducible apply et_not) | (with_reducible apply et_and) | (with_reducible apply et_or) | (with_reducible apply ev_andV) | (with_reducible apply ev_orV) | (with_reducible apply ev_notV) | (with_reducible apply ev_chain) | (with_reducible apply ev_neg) | (with_reducible apply ev_tups) | (with_reducible apply ev_lsts) | (with_reducible apply eo_lsts) | (with_reducible intro hc)))
  · simp; omega
  · have e2 : ([.int 0] : List D) ++ (List.range (zs (l.take 63)).length).map (fun (i : Nat) => D.int (gi (l.take 63) i).natAbs) = zs (begun l) := by
      rw [zs_range (fun i => ((gi (l.take 63) i).natAbs : Int))]
      unfold begun
      have : (List.range (zs (l.take 63)).length).map (fun (i : Nat) => ((gi (l.take 63) i).natAbs : Int)) = (l.take 63).map fun x => (x.natAbs : Int) := by
        have h := congrArg (List.map fun x : Int => (x.natAbs : Int)) (map_gi (l.take 63))
        rw [List.map_map] at h
        rw [show (zs (l.take 63)).length = (l.take 63).length by simp]
        exact h
      rw [this]
      rfl
    rw [e2]
    exact fit _
theorem rd__law_draw : RdP K (t__law_draw K) 2 (fun a : List Int × Int × Int => a.1 ≠ [] ∧ 0 < a.2.1 ∧ a.2.1 < 2 ^ 200) (fun a => .lst (zs a.1)) (fun a => [.int a.2.1, .int a.2.2]) (fun a => .lst (zs (dr a.1 a.2.1 a.2.2).2)) (fun a => .ret (.int (dr a.1 a.2.1 a.2.2).1)) := by
  rintro ⟨l, b, q⟩ ⟨h1, h2, h3⟩ B0 F p R E fit
  simp only at h1 h2 h3
  show To _ (some p) [.ow (.lst (zs l)), .va (.int b), .va (.int q), .un, .un] _
  have hl : 1 ≤ l.length := List.length_pos_iff.mpr h1
  refine sq_if (b := decide ((l.length : Int) = 1)) ?_ (fun hc => ?_) fun hc => ?_
  · (repeat' (first | (with_reducible exact ev_int) | (with_reducible exact ev_str) | (with_reducible exact ev_bl) | (with_reducible exact ev_non) | (with_reducible exact ev_ty) | ((with_reducible apply ev_var); exact rfl) | (with_reducible exact el_nil) | (with_reducible apply el_cons) | ((with_reducible apply ev_lenOi); exact rfl) | ((with_reducible apply ev_ixOiS); exact rfl) | (with_reducible apply ev_op) | (with_reducible exact rv_add) | (with_reducible exact rv_sub) | (with_reducible apply rv_mul) | (with_reducible apply rv_div) | (with_reducible apply rv_mod) | (with_reducible apply rv_pow) | (with_reducible exact rv_lt) | (with_reducible exact rv_le) | (with_reducible exact rv_gt) | (with_reducible exact rv_ge) | (with_reducible exact rv_eq) | (with_reducible exact rv_ne) | (with_reducible exact rv_eqS) | (with_reducible exact rv_eqB) | (with_reducible exact rv_neB) | (with_reducible exact rv_isN) | (with_reducible exact rv_notN) | (with_reducible exact rv_isB) | (with_reducible exact rv_notB) | (with_reducible apply rv_ixi) | (with_reducible apply rv_ixTi) | ((with_reducible apply rv_ixLT); exact rfl) | ((with_reducible apply rv_ixLL); exact rfl) | (with_reducible apply ev_cbs) | (with_reducible exact rc_int) | (with_reducible exact rc_intB) | (with_reducible exact rc_leni) | (with_reducible exact rc_lenTi) | (with_reducible exact rc_abs) | (with_reducible exact rc_max2) | (with_reducible exact rc_min2) | (with_reducible exact rc_all) | (with_reducible exact rc_any) | (with_reducible exact rc_sum) | (with_reducible exact rc_lenL) | (with_reducible exact rc_lenT) | (with_reducible apply et_test) | (with_reducible apply et_B) | (with_reducible apply et_not) | (with_reducible apply et_and) | (with_reducible apply et_or) | (with_reducible apply ev_andV) | (with_reducible apply ev_orV) | (with_reducible apply ev_notV) | (with_reducible apply ev_chain) | (with_reducible apply ev_neg) | (with_reducible apply ev_tups) | (with_reducible apply ev_lsts) | (with_reducible apply eo_lsts) | (with_reducible intro hc)))
  · have hc1 : l.length = 1 := by have := of_decide_eq_true hc; omega
    refine to_retS (d := .int (q % b)) ?_ ?_
    · (repeat' (first | (with_reducible exact ev_int) | (with_reducible exact ev_str) | (with_reducible exact ev_bl) | (with_reducible exact ev_non) | (with_reducible exact ev_ty) | ((with_reducible apply ev_var); exact rfl) | (with_reducible exact el_nil) | (with_reducible apply el_cons) | ((with_reducible apply ev_lenOi); exact rfl) | ((with_reducible apply ev_ixOiS); exact rfl) | (with_reducible apply ev_op) | (with_reducible exact rv_add) | (with_reducible exact rv_sub) | (with_reducible apply rv_mul) | (with_reducible apply rv_div) | (with_reducible apply rv_mod) | (with_reducible apply rv_pow) | (with_reducible exact rv_lt) | (with_reducible exact rv_le) | (with_reducible exact rv_gt) | (with_reducible exact rv_ge) | (with_reducible exact rv_eq) | (with_reducible exact rv_ne) | (with_reducible exact rv_eqS) | (with_reducible exact rv_eqB) | (with_reducible exact rv_neB) | (with_reducible exact rv_isN) | (with_reducible exact rv_notN) | (with_reducible exact rv_isB) | (with_reducible exact rv_notB) | (with_reducible apply rv_ixi) | (with_reducible apply rv_ixTi) | ((with_reducible apply rv_ixLT); exact rfl) | ((with_reducible apply rv_ixLL); exact rfl) | (with_reducible apply ev_cbs) | (with_reducible exact rc_int) | (with_reducible exact rc_intB) | (with_reducible exact rc_leni) | (with_reducible exact rc_lenTi) | (with_reducible exact rc_abs) | (with_reducible exact rc_max2) | (with_reducible exact rc_min2) | (with_reducible exact rc_all) | (with_reducible exact rc_any) | (with_reducible exact rc_sum) | (with_reducible exact rc_lenL) | (with_reducible exact rc_lenT) | (with_reducible apply et_test) | (with_reducible apply et_B) | (with_reducible apply et_not) | (with_reducible apply et_and) | (with_reducible apply et_or) | (with_reducible apply ev_andV) | (with_reducible apply ev_orV) | (with_reducible apply ev_notV) | (with_reducible apply ev_chain) | (with_reducible apply ev_neg) | (with_reducible apply ev_tups) | (with_reducible apply ev_lsts) | (with_reducible apply eo_lsts) | (with_reducible intro hc)))
      exact h2
    · have e : dr l b q = (q % b, l) := if_pos hc1
      simp only [e] at fit
      exact fit _ rfl
  · have hc1 : l.length ≠ 1 := by have := of_decide_eq_false hc; omega
    have hm : (0 : Int) < (l.length : Int) - 1 := by omega
    have i1 := Int.emod_nonneg (gi l 0) (show ((l.length : Int) - 1) ≠ 0 by omega)
    have i2 := Int.emod_lt_of_pos (gi l 0) hm
    have e : dr l b q = ((gi l (1 + gi l 0 % ((l.length : Int) - 1)) + q) % b, (l.set 0 (gi l 0 + 1)).set (1 + gi l 0 % ((l.length : Int) - 1)).toNat (gi l (1 + gi l 0 % ((l.length : Int) - 1)) / b)) := if_neg hc1
    simp only [e] at fit
    clear e
    generalize hmm : gi l 0 % ((l.length : Int) - 1) = m at *
    have a1 : (0 : Int) ≤ 1 + m := by omega
    have a2 : 1 + m < (l.length : Int) := by omega
    have hj : ixN (zs l).length (0 : Int) = some 0 := by
      unfold ixN
      rw [if_pos (by decide), if_pos (by simp; omega)]
      rfl
    refine sq_setS (d := .int (1 + m)) ?_ ?_
    · refine Ev.is (y := .int (1 + m)) (x := .int (1 + gi l 0 % ((l.length : Int) - 1))) ?_ (by rw [hmm])
      (repeat' (first | (with_reducible exact ev_int) | (with_reducible exact ev_str) | (with_reducible exact ev_bl) | (with_reducible exact ev_non) | (with_reducible exact ev_ty) | ((with_reducible apply ev_var); exact rfl) | (with_reducible exact el_nil) | (with_reducible apply el_cons) | ((with_reducible apply ev_lenOi); exact rfl) | ((with_reducible apply ev_ixOiS); exact rfl) | (with_reducible apply ev_op) | (with_reducible exact rv_add) | (with_reducible exact rv_sub) | (with_reducible apply rv_mul) | (with_reducible apply rv_div) | (with_reducible apply rv_mod) | (with_reducible apply rv_pow) | (with_reducible exact rv_lt) | (with_reducible exact rv_le) | (with_reducible exact rv_gt) | (with_reducible exact rv_ge) | (with_reducible exact rv_eq) | (with_reducible exact rv_ne) | (with_reducible exact rv_eqS) | (with_reducible exact rv_eqB) | (with_reducible exact rv_neB) | (with_reducible exact rv_isN) | (with_reducible exact rv_notN) | (with_reducible exact rv_isB) | (with_reducible exact rv_notB) | (with_reducible apply rv_ixi) | (with_reducible apply rv_ixTi) | ((with_reducible apply rv_ixLT); exact rfl) | ((with_reducible apply rv_ixLL); exact rfl) | (with_reducible apply ev_cbs) | (with_reducible exact rc_int) | (with_reducible exact rc_intB) | (with_reducible exact rc_leni) | (with_reducible exact rc_lenTi) | (with_reducible exact rc_abs) | (with_reducible exact rc_max2) | (with_reducible exact rc_min2) | (with_reducible exact rc_all) | (with_reducible exact rc_any) | (with_reducible exact rc_sum) | (with_reducible exact rc_lenL) | (with_reducible exact rc_lenT) | (with_reducible apply et_test) | (with_reducible apply et_B) | (with_reducible apply et_not) | (with_reducible apply et_and) | (with_reducible apply et_or) | (with_reducible apply ev_andV) | (with_reducible apply ev_orV) | (with_reducible apply ev_notV) | (with_reducible apply ev_chain) | (with_reducible apply ev_neg) | (with_reducible apply ev_tups) | (with_reducible apply ev_lsts) | (with_reducible apply eo_lsts) | (with_reducible intro hc)))
      all_goals omega
    refine sq_setS (d := .int (gi l (1 + m))) ?_ ?_
    · (repeat' (first | (with_reducible exact ev_int) | (with_reducible exact ev_str) | (with_reducible exact ev_bl) | (with_reducible exact ev_non) | (with_reducible exact ev_ty) | ((with_reducible apply ev_var); exact rfl) | (with_reducible exact el_nil) | (with_reducible apply el_cons) | ((with_reducible apply ev_lenOi); exact rfl) | ((with_reducible apply ev_ixOiS); exact rfl) | (with_reducible apply ev_op) | (with_reducible exact rv_add) | (with_reducible exact rv_sub) | (with_reducible apply rv_mul) | (with_reducible apply rv_div) | (with_reducible apply rv_mod) | (with_reducible apply rv_pow) | (with_reducible exact rv_lt) | (with_reducible exact rv_le) | (with_reducible exact rv_gt) | (with_reducible exact rv_ge) | (with_reducible exact rv_eq) | (with_reducible exact rv_ne) | (with_reducible exact rv_eqS) | (with_reducible exact rv_eqB) | (with_reducible exact rv_neB) | (with_reducible exact rv_isN) | (with_reducible exact rv_notN) | (with_reducible exact rv_isB) | (with_reducible exact rv_notB) | (with_reducible apply rv_ixi) | (with_reducible apply rv_ixTi) | ((with_reducible apply rv_ixLT); exact rfl) | ((with_reducible apply rv_ixLL); exact rfl) | (with_reducible apply ev_cbs) | (with_reducible exact rc_int) | (with_reducible exact rc_intB) | (with_reducible exact rc_leni) | (with_reducible exact rc_lenTi) | (with_reducible exact rc_abs) | (with_reducible exact rc_max2) | (with_reducible exact rc_min2) | (with_reducible exact rc_all) | (with_reducible exact rc_any) | (with_reducible exact rc_sum) | (with_reducible exact rc_lenL) | (with_reducible exact rc_lenT) | (with_reducible apply et_test) | (with_reducible apply et_B) | (with_reducible apply et_not) | (with_reducible apply et_and) | (with_reducible apply et_or) | (with_reducible apply ev_andV) | (with_reducible apply ev_orV) | (with_reducible apply ev_notV) | (with_reducible apply ev_chain) | (with_reducible apply ev_neg) | (with_reducible apply ev_tups) | (with_reducible apply ev_lsts) | (with_reducible apply eo_lsts) | (with_reducible intro hc)))
      all_goals omega
    refine sq_setI (ds := zs l) (d := .int (gi l 0 + 1)) ?_ rfl ev_int hj ?_
    · (repeat' (first | (with_reducible exact ev_int) | (with_reducible exact ev_str) | (with_reducible exact ev_bl) | (with_reducible exact ev_non) | (with_reducible exact ev_ty) | ((with_reducible apply ev_var); exact rfl) | (with_reducible exact el_nil) | (with_reducible apply el_cons) | ((with_reducible apply ev_lenOi); exact rfl) | ((with_reducible apply ev_ixOiS); exact rfl) | (with_reducible apply ev_op) | (with_reducible exact rv_add) | (with_reducible exact rv_sub) | (with_reducible apply rv_mul) | (with_reducible apply rv_div) | (with_reducible apply rv_mod) | (with_reducible apply rv_pow) | (with_reducible exact rv_lt) | (with_reducible exact rv_le) | (with_reducible exact rv_gt) | (with_reducible exact rv_ge) | (with_reducible exact rv_eq) | (with_reducible exact rv_ne) | (with_reducible exact rv_eqS) | (with_reducible exact rv_eqB) | (with_reducible exact rv_neB) | (with_reducible exact rv_isN) | (with_reducible exact rv_notN) | (with_reducible exact rv_isB) | (with_reducible exact rv_notB) | (with_reducible apply rv_ixi) | (with_reducible apply rv_ixTi) | ((with_reducible apply rv_ixLT); exact rfl) | ((with_reducible apply rv_ixLL); exact rfl) | (with_reducible apply ev_cbs) | (with_reducible exact rc_int) | (with_reducible exact rc_intB) | (with_reducible exact rc_leni) | (with_reducible exact rc_lenTi) | (with_reducible exact rc_abs) | (with_reducible exact rc_max2) | (with_reducible exact rc_min2) | (with_reducible exact rc_all) | (with_reducible exact rc_any) | (with_reducible exact rc_sum) | (with_reducible exact rc_lenL) | (with_reducible exact rc_lenT) | (with_reducible apply et_test) | (with_reducible apply et_B) | (with_reducible apply et_not) | (with_reducible apply et_and) | (with_reducible apply et_or) | (with_reducible apply ev_andV) | (with_reducible apply ev_orV) | (with_reducible apply ev_notV) | (with_reducible apply ev_chain) | (with_reducible apply ev_neg) | (with_reducible apply ev_tups) | (with_reducible apply ev_lsts) | (with_reducible apply eo_lsts) | (with_reducible intro hc)))
      all_goals omega
    refine sq_setI (ds := (zs l).set 0 (.int (gi l 0 + 1))) (j := (1 + m).toNat) (d := .int (gi l (1 + m) / b)) ?_ rfl (ev_var rfl) ?_ ?_
    · (repeat' (first | (with_reducible exact ev_int) | (with_reducible exact ev_str) | (with_reducible exact ev_bl) | (with_reducible exact ev_non) | (with_reducible exact ev_ty) | ((with_reducible apply ev_var); exact rfl) | (with_reducible exact el_nil) | (with_reducible apply el_cons) | ((with_reducible apply ev_lenOi); exact rfl) | ((with_reducible apply ev_ixOiS); exact rfl) | (with_reducible apply ev_op) | (with_reducible exact rv_add) | (with_reducible exact rv_sub) | (with_reducible apply rv_mul) | (with_reducible apply rv_div) | (with_reducible apply rv_mod) | (with_reducible apply rv_pow) | (with_reducible exact rv_lt) | (with_reducible exact rv_le) | (with_reducible exact rv_gt) | (with_reducible exact rv_ge) | (with_reducible exact rv_eq) | (with_reducible exact rv_ne) | (with_reducible exact rv_eqS) | (with_reducible exact rv_eqB) | (with_reducible exact rv_neB) | (with_reducible exact rv_isN) | (with_reducible exact rv_notN) | (with_reducible exact rv_isB) | (with_reducible exact rv_notB) | (with_reducible apply rv_ixi) | (with_reducible apply rv_ixTi) | ((with_reducible apply rv_ixLT); exact rfl) | ((with_reducible apply rv_ixLL); exact rfl) | (with_reducible apply ev_cbs) | (with_reducible exact rc_int) | (with_reducible exact rc_intB) | (with_reducible exact rc_leni) | (with_reducible exact rc_lenTi) | (with_reducible exact rc_abs) | (with_reducible exact rc_max2) | (with_reducible exact rc_min2) | (with_reducible exact rc_all) | (with_reducible exact rc_any) | (with_reducible exact rc_sum) | (with_reducible exact rc_lenL) | (with_reducible exact rc_lenT) | (with_reducible apply et_test) | (with_reducible apply et_B) | (with_reducible apply et_not) | (with_reducible apply et_and) | (with_reducible apply et_or) | (with_reducible apply ev_andV) | (with_reducible apply ev_orV) | (with_reducible apply ev_notV) | (with_reducible apply ev_chain) | (with_reducible apply ev_neg) | (with_reducible apply ev_tups) | (with_reducible apply ev_lsts) | (with_reducible apply eo_lsts) | (with_reducible intro hc)))
      exact cdiv h2 h3
    · unfold ixN
      rw [if_pos a1, if_pos (by simp; omega)]
    refine to_retS (d := .int ((gi l (1 + m) + q) % b)) ?_ ?_
    · (repeat' (first | (with_reducible exact ev_int) | (with_reducible exact ev_str) | (with_reducible exact ev_bl) | (with_reducible exact ev_non) | (with_reducible exact ev_ty) | ((with_reducible apply ev_var); exact rfl) | (with_reducible exact el_nil) | (with_reducible apply el_cons) | ((with_reducible apply ev_lenOi); exact rfl) | ((with_reducible apply ev_ixOiS); exact rfl) | (with_reducible apply ev_op) | (with_reducible exact rv_add) | (with_reducible exact rv_sub) | (with_reducible apply rv_mul) | (with_reducible apply rv_div) | (with_reducible apply rv_mod) | (with_reducible apply rv_pow) | (with_reducible exact rv_lt) | (with_reducible exact rv_le) | (with_reducible exact rv_gt) | (with_reducible exact rv_ge) | (with_reducible exact rv_eq) | (with_reducible exact rv_ne) | (with_reducible exact rv_eqS) | (with_reducible exact rv_eqB) | (with_reducible exact rv_neB) | (with_reducible exact rv_isN) | (with_reducible exact rv_notN) | (with_reducible exact rv_isB) | (with_reducible exact rv_notB) | (with_reducible apply rv_ixi) | (with_reducible apply rv_ixTi) | ((with_reducible apply rv_ixLT); exact rfl) | ((with_reducible apply rv_ixLL); exact rfl) | (with_reducible apply ev_cbs) | (with_reducible exact rc_int) | (with_reducible exact rc_intB) | (with_reducible exact rc_leni) | (with_reducible exact rc_lenTi) | (with_reducible exact rc_abs) | (with_reducible exact rc_max2) | (with_reducible exact rc_min2) | (with_reducible exact rc_all) | (with_reducible exact rc_any) | (with_reducible exact rc_sum) | (with_reducible exact rc_lenL) | (with_reducible exact rc_lenT) | (with_reducible apply et_test) | (with_reducible apply et_B) | (with_reducible apply et_not) | (with_reducible apply et_and) | (with_reducible apply et_or) | (with_reducible apply ev_andV) | (with_reducible apply ev_orV) | (with_reducible apply ev_notV) | (with_reducible apply ev_chain) | (with_reducible apply ev_neg) | (with_reducible apply ev_tups) | (with_reducible apply ev_lsts) | (with_reducible apply eo_lsts) | (with_reducible intro hc)))
      exact h2
    · refine fit _ ?_
      show some (Sl.ow (.lst (((zs l).set 0 (.int (gi l 0 + 1))).set (1 + m).toNat (.int (gi l (1 + m) / b))))) = _
      simp only [zs, List.map_set]
theorem rd__law_is : RdV K (t__law_is K) 0 (fun _ : Int × Int => True) (fun a => [.int a.1, .int a.2]) (fun a => .ret (.bl (decide (a.1 = a.2)))) := by
  rintro ⟨a, b⟩ _ B0 F R E fit
  show To _ none [.va (.int a), .va (.int b)] _
  refine to_ret (Ev.is (ev_andV (ev_isi (b := true) (ev_var rfl) rfl trivial rfl) fun _ => ev_andV (ev_notV (ev_isi (b := false) (ev_var rfl) rfl trivial rfl)) fun _ => ev_op (ev_var rfl) (ev_var rfl) (rv_eqD rfl rfl rfl rfl)) (by show D.bl (true && (!false && PyData.eqv (.int a) (.int b))) = _; rw [eqv_int]; rfl)) (fit _)
theorem rd__law_number : RdV K (t__law_number K) 0 (fun _ : Int => True) (fun a => [.int a]) (fun a => .ret (.int a)) := by
  rintro a _ B0 F R E fit
  show To _ none [.va (.int a)] _
  refine sq_if (et_and (et_B (ev_isi (b := true) (ev_var rfl) rfl trivial rfl)) fun _ => et_not (et_B (ev_isi (b := false) (ev_var rfl) rfl trivial rfl))) (fun _ => ?_) fun hc => ?_
  · exact to_ret (ev_var rfl) (fit _)
  · cases hc
end
end Z46
set_option maxHeartbeats 4000000
namespace Z46
open PySem PySem.Spec PyProof.Rows L2 Y
theorem ipow_le {p : Int} (h : 1 ≤ p) {a : Nat} : ∀ {b : Nat}, a ≤ b → p ^ a ≤ p ^ b := fun {b} hab => by
  obtain ⟨c, rfl⟩ := Nat.exists_eq_add_of_le hab
  clear hab
  induction c with
  | zero => exact Int.le_refl _
  | succ c ih =>
    have h0 : 0 < p ^ (a + c) := Int.pow_pos (by omega)
    rw [← Nat.add_assoc, Int.pow_succ]
    have : p ^ (a + c) * 1 ≤ p ^ (a + c) * p := Int.mul_le_mul_of_nonneg_left h (by omega)
    omega
theorem ipow_mono {a b : Int} (h0 : 0 ≤ a) (h : a ≤ b) : ∀ n : Nat, a ^ n ≤ b ^ n
  | 0 => by simp
  | n + 1 => by
    rw [Int.pow_succ, Int.pow_succ]
    exact Int.mul_le_mul (ipow_mono h0 h n) h h0 (Int.pow_nonneg (by omega))
theorem LevOk.test {p i : Int} {L : Nat} (h : LevOk p i L) (j : Nat) (hj : j ≤ L) : decide (p ^ (j + 1) ≤ i) = decide (j < L) := by
  rw [Bool.eq_iff_iff, decide_eq_true_eq, decide_eq_true_eq]
  constructor
  · intro h1
    by_cases q : j < L
    · exact q
    · have e : j = L := by omega
      subst e
      have := h.hi
      omega
  · intro q
    rcases h.lo with z | z
    · omega
    · exact Int.le_trans (ipow_le (by have := h.p2; omega) (by omega)) z
theorem lvlF_spec {p : Nat} (hp : 2 ≤ p) : ∀ (f i : Nat), i ≤ f → i < p ^ (lvlF p f i + 1) ∧ (lvlF p f i = 0 ∨ p ^ lvlF p f i ≤ i)
  | 0, i, h => by
    have : i = 0 := by omega
    subst this
    exact ⟨Nat.pow_pos (by omega), .inl rfl⟩
  | f + 1, i, h => by
    unfold lvlF
    by_cases q : p ≤ i
    · rw [if_pos q]
      have hlt : i / p < i := Nat.div_lt_self (by omega) (by omega)
      obtain ⟨h1, h2⟩ := lvlF_spec hp f (i / p) (by omega)
      refine ⟨?_, .inr ?_⟩
      · rw [Nat.pow_succ]
        exact (Nat.div_lt_iff_lt_mul (by omega)).mp h1
      · rw [Nat.pow_succ]
        rcases h2 with h2 | h2
        · rw [h2, Nat.pow_zero, Nat.one_mul]
          exact q
        · exact (Nat.le_div_iff_mul_le (by omega)).mp h2
    · rw [if_neg q]
      exact ⟨by rw [Nat.zero_add, Nat.pow_one]; omega, .inl rfl⟩
theorem lvl_small {p i L : Nat} (hp : 2 ≤ p) (h : p ^ L ≤ i) (hi : i < 1024) : L ≤ 9 := by
  by_cases q : L ≤ 9
  · exact q
  · have h1 : 2 ^ 10 ≤ p ^ 10 := Nat.pow_le_pow_left hp 10
    have h2 : p ^ 10 ≤ p ^ L := Nat.pow_le_pow_right (by omega) (by omega)
    omega
theorem lvl_ok {p : Int} {i : Nat} (hp : 2 ≤ p) (hp3 : p < 1000) (hi : i < 1024) : LevOk p i (lvl p.toNat i) := by
  obtain ⟨h1, h2⟩ := lvlF_spec (p := p.toNat) (by omega) i i (Nat.le_refl _)
  have e : ∀ n : Nat, ((p.toNat ^ n : Nat) : Int) = p ^ n := fun n => by
    rw [Int.natCast_pow, Int.toNat_of_nonneg (by omega)]
  refine ⟨hp, hp3, by omega, ?_, ?_, ?_⟩
  · rw [← e]
    exact Int.ofNat_lt.mpr h1
  · rcases h2 with h2 | h2
    · exact .inl h2
    · right
      rw [← e]
      exact Int.ofNat_le.mpr h2
  · rcases h2 with h2 | h2
    · unfold lvl
      omega
    · have := lvl_small (p := p.toNat) (by omega) h2 hi
      unfold lvl
      omega
theorem lev_uniq {p i : Int} {L M : Nat} (h : LevOk p i L) (g : LevOk p i M) : L = M := by
  have a := h.test
  have b := g.test
  by_cases q : L = M
  · exact q
  · rcases Nat.lt_or_gt_of_ne q with z | z
    · have h1 := b L (by omega)
      rw [decide_eq_true z] at h1
      have h2 := of_decide_eq_true h1
      have := h.hi
      omega
    · have h1 := a M (by omega)
      rw [decide_eq_true z] at h1
      have h2 := of_decide_eq_true h1
      have := g.hi
      omega
theorem depF_spec {p : Int} (hp : 2 ≤ p) : ∀ (f : Nat) (n : Int), n ≠ 0 → n.natAbs ≤ f → ∃ u, n = p ^ depF p f n * u ∧ u % p ≠ 0
  | 0, n, h0, h => by omega
  | f + 1, n, h0, h => by
    unfold depF
    by_cases q : n % p = 0
    · rw [if_pos q]
      have e : n = p * (n / p) := by
        have := Int.mul_ediv_add_emod n p
        omega
      have hn : n / p ≠ 0 := fun z => by
        rw [z, Int.mul_zero] at e
        exact h0 e
      have hlt : (n / p).natAbs < n.natAbs := by
        have e2 : n.natAbs = p.natAbs * (n / p).natAbs := by
          rw [← Int.natAbs_mul, ← e]
        have h3 : 0 < (n / p).natAbs := by omega
        have h4 : 2 * (n / p).natAbs ≤ p.natAbs * (n / p).natAbs := Nat.mul_le_mul_right _ (by omega)
        omega
      obtain ⟨u, h1, h2⟩ := depF_spec hp f (n / p) hn (by omega)
      refine ⟨u, ?_, h2⟩
      rw [Int.pow_succ, Int.mul_comm (p ^ _) p, Int.mul_assoc, ← h1]
      exact e
    · rw [if_neg q]
      exact ⟨n, by simp, q⟩
theorem dep_ok {p n : Int} (hp : 2 ≤ p) (h : n ≠ 0) : ∃ u, n = p ^ dep p n * u ∧ u % p ≠ 0 := depF_spec hp _ n h (Nat.le_refl _)
theorem LookOk.test {p : Int} {row : List Int} {s : Nat} (h : LookOk p row s) (j : Nat) (hj : j ≤ s) : decide (p ^ j < (row.length : Int)) = decide (j < s) := by
  rw [Bool.eq_iff_iff, decide_eq_true_eq, decide_eq_true_eq]
  have h2 := h.p2
  constructor
  · intro h1
    by_cases q : j < s
    · exact q
    · have e : j = s := by omega
      subst e
      have := h.hi
      omega
  · intro q
    rcases h.lo with z | z
    · omega
    · exact Int.lt_of_le_of_lt (ipow_le (by omega) (by omega)) z
theorem LookOk.s10 {p : Int} {row : List Int} {s : Nat} (h : LookOk p row s) : s ≤ 11 := by
  rcases h.lo with z | z
  · omega
  · by_cases q : s ≤ 11
    · exact q
    · have h1 : (2 : Int) ^ 11 ≤ p ^ 11 := ipow_mono (by decide) h.p2 11
      have h2 : p ^ 11 ≤ p ^ (s - 1) := ipow_le (by have := h.p2; omega) (by omega)
      have := h.len
      omega
section
variable {K : PySem.W.Frag}
theorem rd__law_level : RdV K (t__law_level K) 3 (fun a : Int × Int × Nat => LevOk a.1 a.2.1 a.2.2 ∧ a.2.2 ≤ 6) (fun a => [.int a.1, .int a.2.1]) (fun a => .ret (.int a.2.2)) := by
  rintro ⟨p, i, L⟩ ⟨h, hL⟩ B0 F R E fit
  simp only at h hL
  have hp2 := h.p2
  have hp3 := h.p3
  show To _ none [.va (.int p), .va (.int i), .un, .un, .un] _
  refine sq_setS ev_int (sq_setS (ev_var rfl) ?_)
  refine sq_for (α := Unit) (fun k _ => [.va (.int p), .va (.int i), .va (.int (min k L : Nat)), .va (.int (p ^ (min k L + 1))), .un]) (fun _ _ => True) (a0 := ()) (ei_rng1 (el_1 ev_int) (by decide) (by decide)) trivial (by simp [Int.pow_succ]) ?_ ?_
  · intro B1 sb k _ hk _ N hN
    have hN' := hN () trivial
    refine to_ifS (b := decide (k < L)) ?_ (fun hc => ?_) fun hc => ?_
    · refine EvT.is (et_test (ev_op (ev_var rfl) (ev_var rfl) rv_le)) ?_
      rw [h.test _ (Nat.min_le_right _ _)]
      congr 1
      simp only [eq_iff_iff]
      omega
    · have hc := of_decide_eq_true hc
      have e1 : min k L = k := by omega
      have e2 : min (k + 1) L = k + 1 := by omega
      simp only [e1, e2] at hN' ⊢
      refine sq_setS (d := .int (p ^ (k + 1 + 1))) ?_ ?_
      · refine Ev.is (ev_op (ev_var rfl) (ev_var rfl) (rv_mul (sm_mul (sm_pow (by omega) (by omega) (by omega)) (sm_of (by omega) (by omega))))) ?_
        rw [Int.pow_succ _ (k + 1)]
      refine to_setS (d := .int (k + 1 : Nat)) ?_ (to_un 4 hN')
      exact Ev.is (ev_op (ev_var rfl) ev_int rv_add) (by simp)
    · have hc := of_decide_eq_false hc
      have e1 : min k L = L := by omega
      have e2 : min (k + 1) L = L := by omega
      simp only [e1, e2] at hN' ⊢
      exact to_next (to_un 4 hN')
  · intro _ _
    have e : min (Int.toNat 6) L = L := by
      have : Int.toNat 6 = 6 := rfl
      omega
    refine to_retS (ev_var rfl) ?_
    simp only [e]
    exact fit _
theorem rd_level_of : RdV K (t_level_of K) 2 (fun a : Int × Int × Nat => LevOk a.1 a.2.1 a.2.2) (fun a => [.int a.1, .int a.2.1]) (fun a => .ret (.int a.2.2)) := by
  rintro ⟨p, i, L⟩ h B0 F R E fit
  simp only at h
  have hp2 := h.p2
  have hp3 := h.p3
  have hl := h.l6
  show To _ none [.va (.int p), .va (.int i), .un, .un] _
  refine sq_setS ev_int (sq_setS (ev_var rfl) ?_)
  refine sq_while (α := Nat) (fun k => [.va (.int p), .va (.int i), .va (.int (k : Nat)), .va (.int (p ^ (k + 1)))]) (fun k => k ≤ L) (fun k => L - k) (fun k => decide (k < L)) (a0 := 0) (by omega) (by simp [Int.pow_succ]) ?_ ?_ ?_
  · intro k hk
    exact EvT.is (et_test (ev_op (ev_var rfl) (ev_var rfl) rv_le)) (h.test k hk)
  · intro k hk hc N hN
    have hc := of_decide_eq_true hc
    refine sq_setS (d := .int (p ^ (k + 1 + 1))) ?_ ?_
    · refine Ev.is (ev_op (ev_var rfl) (ev_var rfl) (rv_mul (sm_mul (sm_pow (by omega) (by omega) (by omega)) (sm_of (by omega) (by omega))))) ?_
      rw [Int.pow_succ _ (k + 1)]
    refine to_setS (d := .int (k + 1 : Nat)) ?_ (hN (k + 1) (by omega) (by omega))
    exact Ev.is (ev_op (ev_var rfl) ev_int rv_add) (by simp)
  · intro k hk hc
    have hc := of_decide_eq_false hc
    have e : k = L := by omega
    subst e
    exact to_retS (ev_var rfl) (fit _)
theorem rd__law_steps : RdV K (t__law_steps K) 3 (fun a : LkA => LookOk a.1 a.2.1 a.2.2 ∧ a.2.2 ≤ 6) (fun a => [.int a.1, .lst (zs a.2.1)]) (fun a => .ret (.int (a.2.2 + 1 : Nat))) := by
  rintro ⟨p, row, s⟩ ⟨h, hs⟩ B0 F R E fit
  simp only at h hs
  have hp2 := h.p2
  have hp3 := h.p3
  show To _ none [.va (.int p), .va (.lst (zs row)), .un, .un, .un] _
  refine sq_setS ev_int (sq_setS ev_int ?_)
  refine sq_for (α := Unit) (fun k _ => [.va (.int p), .va (.lst (zs row)), .va (.int (min k s : Nat)), .va (.int (p ^ (min k s))), .un]) (fun _ _ => True) (a0 := ()) (ei_rng1 (el_1 ev_int) (by decide) (by decide)) trivial (by simp) ?_ ?_
  · intro B1 sb k _ hk _ N hN
    have hN' := hN () trivial
    refine to_ifS (b := decide (k < s)) ?_ (fun hc => ?_) fun hc => ?_
    · refine EvT.is (et_test (ev_op (ev_var rfl) (ev_cbs (el_1 (ev_var rfl)) rc_leni) rv_lt)) ?_
      rw [h.test _ (Nat.min_le_right _ _)]
      congr 1
      simp only [eq_iff_iff]
      omega
    · have hc := of_decide_eq_true hc
      have e1 : min k s = k := by omega
      have e2 : min (k + 1) s = k + 1 := by omega
      simp only [e1, e2] at hN' ⊢
      refine sq_setS (d := .int (p ^ (k + 1))) ?_ ?_
      · refine Ev.is (ev_op (ev_var rfl) (ev_var rfl) (rv_mul (sm_mul (sm_pow (by omega) (by omega) (by omega)) (sm_of (by omega) (by omega))))) ?_
        rw [Int.pow_succ _ k]
      refine to_setS (d := .int (k + 1 : Nat)) ?_ (to_un 4 hN')
      exact Ev.is (ev_op (ev_var rfl) ev_int rv_add) (by simp)
    · have hc := of_decide_eq_false hc
      have e1 : min k s = s := by omega
      have e2 : min (k + 1) s = s := by omega
      simp only [e1, e2] at hN' ⊢
      exact to_next (to_un 4 hN')
  · intro _ _
    have e : min (Int.toNat 6) s = s := by
      have : Int.toNat 6 = 6 := rfl
      omega
    refine to_retS (d := .int (s + 1 : Nat)) ?_ (fit _)
    simp only [e]
    exact Ev.is (ev_op (ev_var rfl) ev_int rv_add) (by simp)
theorem rd_parted : RdV K (t_parted K) 2 (fun a : Int × Nat × Int => ParOk a.1 a.2.2) (fun a => [.int a.1, .int (a.1 ^ a.2.1 * a.2.2)]) (fun a => .ret (.tup [.int a.2.1, .int a.2.2])) := by
  rintro ⟨p, k, u⟩ h B0 F R E fit
  simp only at h
  have hp2 := h.p2
  have hp3 := h.p3
  show To _ none [.va (.int p), .va (.int (p ^ k * u)), .un, .un] _
  refine sq_setS ev_int (sq_setS (ev_var rfl) ?_)
  refine sq_while (α := Nat) (fun j => [.va (.int p), .va (.int (p ^ k * u)), .va (.int (j : Nat)), .va (.int (p ^ (k - j) * u))]) (fun j => j ≤ k) (fun j => k - j) (fun j => decide (j < k)) (a0 := 0) (by omega) (by simp) ?_ ?_ ?_
  · intro j hj
    refine EvT.is (et_test (ev_op (ev_op (ev_var rfl) (ev_var rfl) (rv_mod (by omega))) ev_int rv_eq)) ?_
    rw [Bool.eq_iff_iff, decide_eq_true_eq, decide_eq_true_eq]
    constructor
    · intro z
      by_cases q : j < k
      · exact q
      · have e : k - j = 0 := by omega
        rw [e, Int.pow_zero, Int.one_mul] at z
        exact absurd z h.u0
    · intro q
      obtain ⟨m, hm⟩ : ∃ m, k - j = m + 1 := ⟨k - j - 1, by omega⟩
      rw [hm, Int.pow_succ, Int.mul_comm (p ^ m) p, Int.mul_assoc]
      exact Int.mul_emod_right _ _
  · intro j hj hc N hN
    have hc := of_decide_eq_true hc
    obtain ⟨m, hm⟩ : ∃ m, k - j = m + 1 := ⟨k - j - 1, by omega⟩
    refine sq_setS (d := .int (p ^ (k - (j + 1)) * u)) ?_ ?_
    · refine Ev.is (ev_op (ev_var rfl) (ev_var rfl) (rv_div (cdiv (by omega) (by omega)))) ?_
      rw [hm, show k - (j + 1) = m by omega, Int.pow_succ, Int.mul_comm (p ^ m) p, Int.mul_assoc, Int.mul_ediv_cancel_left _ (by omega)]
    refine to_augAdd (m := (j : Int)) (n := 1) rfl ev_int ?_
    exact hN (j + 1) (by omega) (by omega)
  · intro j hj hc
    have hc := of_decide_eq_false hc
    have e : j = k := by omega
    subst e
    refine to_retS (d := .tup [.int j, .int u]) ?_ (fit _)
    refine Ev.is (ev_tups (el_cons (ev_var rfl) (el_1 (ev_var rfl)))) ?_
    rw [Nat.sub_self, Int.pow_zero, Int.one_mul]
theorem rd_int_depth : RdV K (t_int_depth K) 0 (fun a : Int × Nat × Int => ParOk a.1 a.2.2) (fun a => [.int a.1, .int (a.1 ^ a.2.1 * a.2.2)]) (fun a => .ret (.int a.2.1)) := by
  rintro ⟨p, k, u⟩ h B0 F R E fit
  show To _ none [.va (.int p), .va (.int (p ^ k * u))] _
  exact to_retS (ev_op (ev_cv (a := (p, k, u)) (el_cons (ev_var rfl) (el_1 (ev_var rfl))) rfl h rfl) ev_int (rv_ixLT rfl)) (fit _)
end
end Z46
set_option maxHeartbeats 4000000
namespace Z46
open PySem PySem.Spec PyProof.Rows L2 Y
abbrev primes : List Int := [2, 3, 5, 7, 11, 13, 17, 19, 23, 29, 31, 37, 41, 43, 47, 53, 59, 61, 67, 71, 73, 79, 83, 89, 97]
/-- what the class Mahler must tell -/
structure Fc (K : PySem.W.Frag) : Prop where
  cls : Cls K (He.ga K "Mahler")
  np : NoAttr K (He.ga K "Mahler") "p"
  nr : NoAttr K (He.ga K "Mahler") "row"
  sp : ∀ B : Hp, At K B (.ref (He.ga K "SMALL_PRIMES")) (.tup (zs primes))
section
variable {K : PySem.W.Frag} (fc : Fc K)
theorem ev_fp {Γ Γ1 : List Sl} {te : TE} {p : Int} {r : List Int} (fc : Fc K) (h : Ev K te Γ Γ1 (mah p r)) : Ev K (tFld K te "p") Γ Γ1 (.int p) := ev_fld h fc.cls fc.np rfl
theorem ev_fr {Γ Γ1 : List Sl} {te : TE} {p : Int} {r : List Int} (fc : Fc K) (h : Ev K te Γ Γ1 (mah p r)) : Ev K (tFld K te "row") Γ Γ1 (.tup (zs r)) := ev_fld h fc.cls fc.nr rfl
theorem rd_row_bound : RdV K (t_row_bound K) 2 (fun a : Int × List Int => 2 ≤ a.1 ∧ a.1 < 1000 ∧ a.2.length ≤ 1000) (fun a => [.int a.1, .tup (zs a.2)]) (fun a => .ret (bnd a.1 a.2)) := by
  rintro ⟨p, row⟩ ⟨hp2, hp3, hlen⟩ B0 F R E fit
  simp only at hp2 hp3 hlen
  show To _ none [.va (.int p), .va (.tup (zs row)), .un, .un] _
  refine sq_set (d := .lst (zs (bndL p row))) (EvO.ev (EvO.is (eo_lcF1 (fun i => .int ((lvl p.toNat (1 + i) : Int) - (dep p (gi row (1 + (i : Int))) : Int))) (fun i => !decide (gi row (1 + (i : Int)) = 0)) (ei_rng2 (el_cons ev_int (el_1 (ev_cbs (el_1 (ev_var rfl)) rc_lenTi))) (by omega) (by omega)) (by omega) (fun i hi => ?_) (fun i hi hb => ?_)) ?_)) ?_
  · (repeat' (first | (with_reducible exact ev_int) | (with_reducible exact ev_str) | (with_reducible exact ev_bl) | (with_reducible exact ev_non) | (with_reducible exact ev_ty) | ((with_reducible apply ev_var); exact rfl) | (with_reducible exact el_nil) | (with_reducible apply el_cons) | ((with_reducible apply ev_lenOi); exact rfl) | ((with_reducible apply ev_ixOiS); exact rfl) | (with_reducible apply ev_op) | (with_reducible exact rv_add) | (with_reducible exact rv_sub) | (with_reducible apply rv_mul) | (with_reducible apply rv_div) | (with_reducible apply rv_mod) | (with_reducible apply rv_pow) | (with_reducible exact rv_lt) | (with_reducible exact rv_le) | (with_reducible exact rv_gt) | (with_reducible exact rv_ge) | (with_reducible exact rv_eq) | (with_reducible exact rv_ne) | (with_reducible exact rv_eqS) | (with_reducible exact rv_eqB) | (with_reducible exact rv_neB) | (with_reducible exact rv_isN) | (with_reducible exact rv_notN) | (with_reducible exact rv_isB) | (with_reducible exact rv_notB) | (with_reducible apply rv_ixi) | (with_reducible apply rv_ixTi) | ((with_reducible apply rv_ixLT); exact rfl) | ((with_reducible apply rv_ixLL); exact rfl) | (with_reducible apply ev_cbs) | (with_reducible exact rc_int) | (with_reducible exact rc_intB) | (with_reducible exact rc_leni) | (with_reducible exact rc_lenTi) | (with_reducible exact rc_abs) | (with_reducible exact rc_max2) | (with_reducible exact rc_min2) | (with_reducible exact rc_all) | (with_reducible exact rc_any) | (with_reducible exact rc_sum) | (with_reducible exact rc_lenL) | (with_reducible exact rc_lenT) | (with_reducible apply et_test) | (with_reducible apply et_B) | (with_reducible apply et_not) | (with_reducible apply et_and) | (with_reducible apply et_or) | (with_reducible apply ev_andV) | (with_reducible apply ev_orV) | (with_reducible apply ev_notV) | (with_reducible apply ev_chain) | (with_reducible apply ev_neg) | (with_reducible apply ev_tups) | (with_reducible apply ev_lsts) | (with_reducible apply eo_lsts) | (with_reducible intro hc)))
    all_goals omega
  · have hb := of_decide_eq_false (Bool.not_eq_true' _ ▸ hb)
    obtain ⟨u, h1, h2⟩ := dep_ok hp2 hb
    have hL := lvl_ok hp2 hp3 (show 1 + i < 1024 by omega)
    refine ev_op (ev_cv (a := (p, 1 + (i : Int), lvl p.toNat (1 + i))) (el_cons (ev_var rfl) (el_1 (ev_var rfl))) rfl (by simpa using hL) rfl) (ev_cv (a := (p, dep p (gi row (1 + (i : Int))), u)) (ds := [.int p, .int (gi row (1 + (i : Int)))]) ?_ ?_ ⟨hp2, hp3, h2⟩ rfl) rv_sub
    · (repeat' (first | (with_reducible exact ev_int) | (with_reducible exact ev_str) | (with_reducible exact ev_bl) | (with_reducible exact ev_non) | (with_reducible exact ev_ty) | ((with_reducible apply ev_var); exact rfl) | (with_reducible exact el_nil) | (with_reducible apply el_cons) | ((with_reducible apply ev_lenOi); exact rfl) | ((with_reducible apply ev_ixOiS); exact rfl) | (with_reducible apply ev_op) | (with_reducible exact rv_add) | (with_reducible exact rv_sub) | (with_reducible apply rv_mul) | (with_reducible apply rv_div) | (with_reducible apply rv_mod) | (with_reducible apply rv_pow) | (with_reducible exact rv_lt) | (with_reducible exact rv_le) | (with_reducible exact rv_gt) | (with_reducible exact rv_ge) | (with_reducible exact rv_eq) | (with_reducible exact rv_ne) | (with_reducible exact rv_eqS) | (with_reducible exact rv_eqB) | (with_reducible exact rv_neB) | (with_reducible exact rv_isN) | (with_reducible exact rv_notN) | (with_reducible exact rv_isB) | (with_reducible exact rv_notB) | (with_reducible apply rv_ixi) | (with_reducible apply rv_ixTi) | ((with_reducible apply rv_ixLT); exact rfl) | ((with_reducible apply rv_ixLL); exact rfl) | (with_reducible apply ev_cbs) | (with_reducible exact rc_int) | (with_reducible exact rc_intB) | (with_reducible exact rc_leni) | (with_reducible exact rc_lenTi) | (with_reducible exact rc_abs) | (with_reducible exact rc_max2) | (with_reducible exact rc_min2) | (with_reducible exact rc_all) | (with_reducible exact rc_any) | (with_reducible exact rc_sum) | (with_reducible exact rc_lenL) | (with_reducible exact rc_lenT) | (with_reducible apply et_test) | (with_reducible apply et_B) | (with_reducible apply et_not) | (with_reducible apply et_and) | (with_reducible apply et_or) | (with_reducible apply ev_andV) | (with_reducible apply ev_orV) | (with_reducible apply ev_notV) | (with_reducible apply ev_chain) | (with_reducible apply ev_neg) | (with_reducible apply ev_tups) | (with_reducible apply ev_lsts) | (with_reducible apply eo_lsts) | (with_reducible intro hc)))
      all_goals omega
    · simp only [← h1]
  · unfold bndL zs
    rw [List.map_map]
    rfl
  · refine sq_if (et_not (et_tru (ev_var rfl) rfl)) (fun hc => ?_) fun hc => ?_
    · have e : bndL p row = [] := by
        cases z : bndL p row with
        | nil => rfl
        | cons a r =>
          rw [z] at hc
          cases hc
      refine to_ret ev_non ?_
      unfold bnd at fit
      simp only [e, if_true] at fit
      exact fit _
    · have e : bndL p row ≠ [] := by
        intro z
        rw [z] at hc
        cases hc
      refine to_ret (ev_cbs (el_1 (ev_var rfl)) (rc_max e)) ?_
      unfold bnd at fit
      simp only [e, if_false] at fit
      exact fit _
include fc
theorem rd_Mahler_bound : RdV K (t_Mahler_bound K) 0 (fun a : Int × List Int => 2 ≤ a.1 ∧ a.1 < 1000 ∧ a.2.length ≤ 1000) (fun a => [mah a.1 a.2]) (fun a => .ret (bnd a.1 a.2)) := by
  rintro ⟨p, row⟩ h B0 F R E fit
  show To _ none [.va (mah p row)] _
  exact to_ret (ev_cv (a := (p, row)) (el_cons (ev_fp fc (ev_var rfl)) (el_1 (ev_fr fc (ev_var rfl)))) rfl h rfl) (fit _)
theorem rd_looked_depth : RdV K (t_looked_depth K) 3 (fun a : LkA => LookOk a.1 a.2.1 a.2.2) (fun a => [mah a.1 a.2.1]) (fun a => lookR a.1 a.2.1 a.2.2 (.int (a.2.2 + 1 : Nat))) := by
  rintro ⟨p, row, s⟩ h B0 F R E fit
  simp only at h
  have hp2 := h.p2
  have hp3 := h.p3
  have hs := h.s10
  show To _ none [.va (mah p row), .un, .un, .un] _
  refine sq_setS (d := bnd p row) (ev_prop (a := (p, row)) (ev_var rfl) rfl ⟨hp2, hp3, h.len⟩ rfl rfl) ?_
  have tail : FitV ⟨K, B0, F⟩ R E (looks p s (.int (s + 1 : Nat))) → ∀ x : D, To ⟨K, B0, F⟩ none [.va (mah p row), .va x, .un, .un] ((tSeq (tAsg (tC (.int 1)) (gName 2)) (tSeq (tAsg (tC (.int 1)) (gName 3)) (tSeq (tWhile (tTest (tOp rLtI (tVar 3) (tCB (rLenQ K) (tCons (tFld K (tVar 0) "row") tNil)))) (tSeq (tAsg (tOp rMulI (tVar 3) (tFld K (tVar 0) "p")) (gName 3)) (tAsg (tOp rAddI (tVar 2) (tC (.int 1))) (gName 2)))) (tSeq (tIfS (tTest (tOp rGtI (tOp rMulI (tVar 3) (tFld K (tVar 0) "p")) (tC (.int 2500)))) (tRaiseE (He.ga K "SizeError") ["count"] (WD E) (tCons (tOp rMulI (tVar 3) (tFld K (tVar 0) "p")) tNil)) tNext) (tRet (tVar 2)))))) (Fin R)) := by
    intro fit2 x
    refine sq_setS ev_int (sq_setS ev_int ?_)
    have mul : ∀ (k : Nat) (c : D), k ≤ s → Ev K (tOp rMulI (tVar 3) (tFld K (tVar 0) "p")) [.va (mah p row), .va x, .va c, .va (.int (p ^ k))] [.va (mah p row), .va x, .va c, .va (.int (p ^ k))] (.int (p ^ (k + 1))) := fun k c hk => by
      refine Ev.is (ev_op (ev_var rfl) (ev_fp fc (ev_var rfl)) (rv_mul (sm_mul (sm_pow (by omega) (by omega) (by omega)) (sm_of (by omega) (by omega))))) ?_
      rw [Int.pow_succ]
    refine sq_while (α := Nat) (fun k => [.va (mah p row), .va x, .va (.int (k + 1 : Nat)), .va (.int (p ^ k))]) (fun k => k ≤ s) (fun k => s - k) (fun k => decide (k < s)) (a0 := 0) (by omega) (by simp) ?_ ?_ ?_
    · intro k hk
      exact EvT.is (et_test (ev_op (ev_var rfl) (ev_cbs (el_1 (ev_fr fc (ev_var rfl))) rc_lenTi) rv_lt)) (h.test k hk)
    · intro k hk hc N hN
      have hc := of_decide_eq_true hc
      refine sq_setS (mul k _ hk) ?_
      refine to_setS (d := .int (k + 1 + 1 : Nat)) ?_ (hN (k + 1) (by omega) (by omega))
      exact Ev.is (ev_op (ev_var rfl) ev_int rv_add) (by simp)
    · intro k hk hc
      have hc := of_decide_eq_false hc
      have e : k = s := by omega
      subst e
      refine sq_if (et_test (ev_op (mul k _ hk) ev_int rv_gt)) (fun hc => ?_) fun hc => ?_
      · have hc := of_decide_eq_true hc
        unfold looks at fit2
        rw [if_pos hc] at fit2
        exact to_raise (ds := [.int (p ^ (k + 1))]) (el_1 (mul k _ hk)) rfl (Xt.w (fit2 _))
      · have hc := of_decide_eq_false hc
        unfold looks at fit2
        rw [if_neg hc] at fit2
        exact to_retS (ev_var rfl) (fit2 _)
  by_cases e : bndL p row = []
  · have e1 : bnd p row = .non := if_pos e
    rw [e1]
    have e2 : lookR p row s (.int (s + 1 : Nat)) = looks p s (.int (s + 1 : Nat)) := if_neg fun z => z.1 e
    simp only [e2] at fit
    refine sq_if (b := false) (EvT.is (et_and (b := false) (et_test (ev_op (ev_var rfl) ev_non rv_notN)) fun z => by cases z) rfl) (fun z => by cases z) fun _ => tail fit _
  · have e1 : bnd p row = .int (maxL (bndL p row)) := if_neg e
    rw [e1]
    refine sq_if (et_and (et_test (ev_op (ev_var rfl) ev_non rv_notN)) fun z => et_test (ev_op (ev_var rfl) ev_int rv_gt)) (fun hc => ?_) fun hc => ?_
    · have hc : decide (0 < maxL (bndL p row)) = true := hc
      have hc := of_decide_eq_true hc
      have e2 : lookR p row s (.int (s + 1 : Nat)) = .exc "RangeError" ["number"] [.int (maxL (bndL p row))] := if_pos ⟨e, hc⟩
      simp only [e2] at fit
      exact to_raise (ds := [.int (maxL (bndL p row))]) (el_1 (ev_var rfl)) rfl (Xt.w (fit _))
    · have hc : decide (0 < maxL (bndL p row)) = false := hc
      have hc := of_decide_eq_false hc
      have e2 : lookR p row s (.int (s + 1 : Nat)) = looks p s (.int (s + 1 : Nat)) := if_neg fun z => hc z.2
      simp only [e2] at fit
      exact tail fit _
omit fc
/-- a call that hands the result on -/
theorem look_split (p : Int) (row : List Int) (s : Nat) : (∃ x ns ds, ∀ good, lookR p row s good = .exc x ns ds) ∨ ∀ good, lookR p row s good = .ret good := by
  by_cases q : bndL p row ≠ [] ∧ 0 < maxL (bndL p row)
  · exact .inl ⟨_, _, _, fun good => if_pos q⟩
  · by_cases q2 : 2500 < p ^ (s + 1)
    · exact .inl ⟨_, _, _, fun good => by unfold lookR; rw [if_neg q]; exact if_pos q2⟩
    · exact .inr fun good => by unfold lookR; rw [if_neg q]; exact if_neg q2
theorem rd_shuffle_depth : RdV K (t_shuffle_depth K) 0 (fun a : LkA => LookOk a.1 a.2.1 a.2.2) (fun a => [mah a.1 a.2.1]) (fun a => lookR a.1 a.2.1 a.2.2 (.int (a.2.2 + 1 : Nat))) := by
  rintro ⟨p, row, s⟩ h B0 F R E fit
  show To _ none [.va (mah p row)] _
  rcases look_split p row s with ⟨x, ns, ds, e⟩ | e
  · simp only [e] at fit
    exact to_retX (ex_cv (a := (p, row, s)) (el_1 (ev_var rfl)) rfl h (e _)) (Xt.w (fit _))
  · simp only [e] at fit
    exact to_ret (ev_cv (a := (p, row, s)) (el_1 (ev_var rfl)) rfl h (e _)) (fit _)
theorem rd_shuffles : RdV K (t_shuffles K) 0 (fun a : LkA => LookOk a.1 a.2.1 a.2.2) (fun a => [mah a.1 a.2.1]) (fun a => lookR a.1 a.2.1 a.2.2 (.bl (isN (meetG a)))) := by
  rintro ⟨p, row, s⟩ h B0 F R E fit
  show To _ none [.va (mah p row)] _
  rcases look_split p row s with ⟨x, ns, ds, e⟩ | e
  · simp only [e] at fit
    exact to_retX (ex_op1 (ex_cv (a := (p, row, s)) (el_1 (ev_var rfl)) rfl h (e _))) (Xt.w (fit _))
  · simp only [e] at fit
    exact to_ret (ev_op (ev_cv (a := (p, row, s)) (el_1 (ev_var rfl)) rfl h (e _)) ev_non rv_isN) (fit _)
end
end Z46
set_option maxHeartbeats 4000000
namespace Z46
open PySem PySem.Spec PyProof.Rows L2 Y
/-! ### binomials -/
def ch : Nat → Nat → Int
  | _, 0 => 1
  | 0, _ + 1 => 0
  | x + 1, i + 1 => ch x i + ch x (i + 1)
theorem ch_0 (x : Nat) : ch x 0 = 1 := by cases x <;> rfl
def sbf (f : Nat → Int) : List Int → Nat → Int
  | [], _ => 0
  | a :: r, k => a * f k + sbf f r (k + 1)
theorem sbf_step (x : Nat) : ∀ (r : List Int) (i : Nat), sbf (ch (x + 1)) r (i + 1) = sbf (ch x) r i + sbf (ch x) r (i + 1)
  | [], _ => rfl
  | a :: r, i => by
    show a * ch (x + 1) (i + 1) + sbf (ch (x + 1)) r (i + 1 + 1) = (a * ch x i + sbf (ch x) r (i + 1)) + (a * ch x (i + 1) + sbf (ch x) r (i + 1 + 1))
    rw [sbf_step x r (i + 1), show ch (x + 1) (i + 1) = ch x i + ch x (i + 1) from rfl, Int.mul_add]
    omega
theorem sbf_00 : ∀ (r : List Int) (i : Nat), sbf (ch 0) r (i + 1) = 0
  | [], _ => rfl
  | a :: r, i => by
    show a * 0 + sbf (ch 0) r (i + 1 + 1) = 0
    rw [sbf_00 r (i + 1)]
    omega
theorem ev_nil : ∀ x, ev [] x = 0
  | 0 => rfl
  | x + 1 => by
    show ev [] x + ev [] x = 0
    rw [ev_nil x]
    rfl
theorem ev_sbf : ∀ (x : Nat) (r : List Int), ev r x = sbf (ch x) r 0
  | 0, [] => rfl
  | 0, a :: r => by
    show a = a * 1 + sbf (ch 0) r 1
    rw [sbf_00 r 0]
    omega
  | x + 1, [] => ev_nil _
  | x + 1, a :: r => by
    show ev (a :: r) x + ev r x = a * ch (x + 1) 0 + sbf (ch (x + 1)) r 1
    rw [ev_sbf x (a :: r), ev_sbf x r, sbf_step x r 0, ch_0]
    show (a * ch x 0 + sbf (ch x) r 1) + sbf (ch x) r 0 = _
    rw [ch_0]
    simp only [Nat.zero_add]
    omega
theorem sum_sbf (f : Nat → Int) : ∀ (r : List Int) (k : Nat), ((List.range r.length).map fun (i : Nat) => gi r i * f (k + i)).sum = sbf f r k
  | [], _ => rfl
  | a :: r, k => by
    rw [List.length_cons, List.range_succ_eq_map, List.map_cons, List.sum_cons, List.map_map]
    have e := sum_sbf f r (k + 1)
    show a * f (k + 0) + _ = a * f k + sbf f r (k + 1)
    rw [← e, Nat.add_zero]
    congr 2
    apply List.map_congr_left
    intro i _
    show gi (a :: r) ((i + 1 : Nat) : Int) * f (k + (i + 1)) = gi r i * f (k + 1 + i)
    have h1 : gi (a :: r) ((i + 1 : Nat) : Int) = gi r i := by
      unfold gi
      simp
    rw [h1, show k + (i + 1) = k + 1 + i by omega]
theorem sbf_mod (f : Nat → Int) (m : Int) : ∀ (r : List Int) (k : Nat), sbf (fun i => f i % m) r k % m = sbf f r k % m
  | [], _ => rfl
  | a :: r, k => by
    show (a * (f k % m) + sbf (fun i => f i % m) r (k + 1)) % m = (a * f k + sbf f r (k + 1)) % m
    rw [Int.add_emod, sbf_mod f m r (k + 1), Int.mul_emod, Int.emod_emod_of_dvd _ (Int.dvd_refl m), ← Int.mul_emod, ← Int.add_emod]
theorem total_mod (r : List Int) (x : Nat) (m : Int) : ((List.range r.length).map fun (i : Nat) => gi r i * (ch x i % m)).sum % m = ev r x % m := by
  have e := sum_sbf (fun i => ch x i % m) r 0
  simp only [Nat.zero_add] at e
  rw [e, sbf_mod, ← ev_sbf]
/-! ### rows of differences -/
def difs (row : List Int) (m : Nat) (x : Nat) : List Int := (List.range row.length).map fun j => ev (row.drop j) x % m
theorem difs_len {row : List Int} {m x : Nat} : (difs row m x).length = row.length := by
  unfold difs
  simp
theorem gi_map {n : Nat} (f : Nat → Int) {i : Nat} (h : i < n) : gi ((List.range n).map f) i = f i := by
  unfold gi
  simp [h]
theorem drop_tail {row : List Int} {j : Nat} : (row.drop j).tail = row.drop (j + 1) := by
  rw [List.tail_drop]
theorem cut_drop {l : List Int} : Y.cutD (zs l) (some 1) none = zs (l.drop 1) := by
  unfold Y.cutD HT.sIx
  simp only
  rw [if_neg (by decide)]
  simp only [zs, List.length_map, List.map_drop]
  have e : Int.toNat 1 = 1 := rfl
  rw [e]
  by_cases h : 1 ≤ l.length
  · rw [Nat.min_eq_left h, List.take_of_length_le (by simp)]
  · have : l = [] := List.length_eq_zero_iff.mp (by omega)
    subst this
    rfl
theorem gi_next {row : List Int} {m x j : Nat} (h : j < row.length) : gi ((difs row m x).drop 1 ++ [0]) j = ev (row.drop (j + 1)) x % m := by
  unfold gi
  rw [Int.toNat_natCast, List.getD_eq_getElem?_getD]
  by_cases q : j + 1 < row.length
  · rw [List.getElem?_append_left (by simp [difs_len]; omega)]
    unfold difs
    simp [Nat.add_comm 1 j, q]
  · have e : j = ((difs row m x).drop 1).length := by simp [difs_len]; omega
    rw [List.getElem?_append_right (by omega)]
    rw [show j - ((difs row m x).drop 1).length = 0 by omega, List.drop_eq_nil_of_le (by omega), ev_nil]
    rfl
theorem resid_succ {row : List Int} {m : Nat} {x : Nat} : ((List.range x).map fun y => ev row y % (m : Int)) ++ [ev row x % m] = (List.range (x + 1)).map fun y => ev row y % (m : Int) := by
  rw [List.range_succ, List.map_append]
  rfl
section
variable {K : PySem.W.Frag} (fc : Fc K)
include fc
theorem rd_led_residues : RdV K (t_led_residues K) 6 (fun a : Int × List Int × Nat => a.2.1 ≠ [] ∧ a.2.1.length ≤ 1000 ∧ 1 ≤ a.2.2 ∧ a.2.2 ≤ 100000) (fun a => [mah a.1 a.2.1, .int a.2.2]) (fun a => .own (.lst (zs (resid a.2.1 a.2.2)))) := by
  rintro ⟨p, row, m⟩ ⟨h0, hl, h1, h2⟩ B0 F R E fit
  simp only at h0 hl h1 h2
  have hpos : 0 < row.length := List.length_pos_iff.mpr h0
  show To _ none [.va (mah p row), .va (.int m), .un, .un, .un, .un, .un, .un] _
  refine sq_set (d := .lst (zs (difs row m 0))) (EvO.ev (EvO.is (eo_lc1 (fun i => .int (gi row i % m)) (ei_tup (it := fun i => .int (gi row i)) (ev_fr fc (ev_var rfl)) (fun i hi => zs_get (by simpa using hi))) (by simp; omega) fun i hi => ?_) ?_)) ?_
  · (repeat' (first | (with_reducible exact ev_int) | (with_reducible exact ev_str) | (with_reducible exact ev_bl) | (with_reducible exact ev_non) | (with_reducible exact ev_ty) | ((with_reducible apply ev_var); exact rfl) | (with_reducible exact el_nil) | (with_reducible apply el_cons) | ((with_reducible apply ev_lenOi); exact rfl) | ((with_reducible apply ev_ixOiS); exact rfl) | (with_reducible apply ev_op) | (with_reducible exact rv_add) | (with_reducible exact rv_sub) | (with_reducible apply rv_mul) | (with_reducible apply rv_div) | (with_reducible apply rv_mod) | (with_reducible apply rv_pow) | (with_reducible exact rv_lt) | (with_reducible exact rv_le) | (with_reducible exact rv_gt) | (with_reducible exact rv_ge) | (with_reducible exact rv_eq) | (with_reducible exact rv_ne) | (with_reducible exact rv_eqS) | (with_reducible exact rv_eqB) | (with_reducible exact rv_neB) | (with_reducible exact rv_isN) | (with_reducible exact rv_notN) | (with_reducible exact rv_isB) | (with_reducible exact rv_notB) | (with_reducible apply rv_ixi) | (with_reducible apply rv_ixTi) | ((with_reducible apply rv_ixLT); exact rfl) | ((with_reducible apply rv_ixLL); exact rfl) | (with_reducible apply ev_cbs) | (with_reducible exact rc_int) | (with_reducible exact rc_intB) | (with_reducible exact rc_leni) | (with_reducible exact rc_lenTi) | (with_reducible exact rc_abs) | (with_reducible exact rc_max2) | (with_reducible exact rc_min2) | (with_reducible exact rc_all) | (with_reducible exact rc_any) | (with_reducible exact rc_sum) | (with_reducible exact rc_lenL) | (with_reducible exact rc_lenT) | (with_reducible apply et_test) | (with_reducible apply et_B) | (with_reducible apply et_not) | (with_reducible apply et_and) | (with_reducible apply et_or) | (with_reducible apply ev_andV) | (with_reducible apply ev_orV) | (with_reducible apply ev_notV) | (with_reducible apply ev_chain) | (with_reducible apply ev_neg) | (with_reducible apply ev_tups) | (with_reducible apply ev_lsts) | (with_reducible apply eo_lsts) | (with_reducible intro hc)))
    omega
  · rw [zs_range (fun i => gi row i % m)]
    unfold difs
    congr 2
    rw [show (zs row).length = row.length by simp]
    apply List.map_congr_left
    intro j hj
    have hj := List.mem_range.mp hj
    show gi row j % m = gi (row.drop j) 0 % m
    unfold gi
    simp [List.getD_eq_getElem?_getD]
  refine sq_setO (eo_lsts el_nil) ?_
  refine sq_for (α := Unit) (fun x _ => [.va (mah p row), .va (.int m), .va (.lst (zs (difs row m x))), .ow (.lst (zs ((List.range x).map fun y => ev row y % (m : Int)))), .un, .un, .un, .un]) (fun _ _ => True) (a0 := ()) (ei_rng1 (el_1 (ev_var rfl)) (by omega) (by omega)) trivial rfl ?_ ?_
  · intro B1 sb x _ hx _ N hN
    have hN := hN () trivial
    refine sq_append (i := 3) (d := .int (ev row x % m)) rfl ?_ (by simp; omega) ?_
    · refine Ev.is (ev_op (ev_var rfl) ev_int (rv_ixi (by omega) (by rw [difs_len]; omega))) ?_
      have := gi_map (n := row.length) (fun j => ev (row.drop j) x % m) hpos
      rw [List.drop_zero] at this
      exact congrArg D.int this
    refine sq_set (d := .lst (zs ((difs row m x).drop 1 ++ [0]))) (EvO.ev (EvO.is (eo_cat (EvO.ev (eo_slL (ev_var rfl) (ep_some ev_int) ep_none)) (ev_lsts (el_1 ev_int)) ?_) ?_)) ?_
    · rw [cut_drop]
      simp [difs_len]
      omega
    · rw [cut_drop]
      simp [zs]
    have hlen2 : ((difs row m x).drop 1 ++ [0]).length = row.length := by
      simp [difs_len]
      omega
    refine to_set (d := .lst (zs (difs row m (x + 1)))) (EvO.ev (EvO.is (eo_lcM (fun i => .int ((ev (row.drop i) x % m + ev (row.drop (i + 1)) x % m) % m)) (ei_zip (n := row.length) (it := fun i => .int (gi (difs row m x) i)) (jt := fun i => .int (gi ((difs row m x).drop 1 ++ [0]) i)) (el_cons (ev_var rfl) (el_1 (ev_var rfl))) ?_ ?_ ?_) (by omega) rfl fun i hi => ?_) ?_)) ?_
    · simp only [zs, List.length_map, hlen2, difs_len]
      omega
    · intro i hi
      exact zs_get (by rw [difs_len]; exact hi)
    · intro i hi
      exact zs_get (by rw [hlen2]; exact hi)
    · refine ⟨_, _, tg_tup (tgs_cons (tg_name (i := 6)) (tgs_cons (tg_name (i := 7)) tgs_nil)) rfl, by decide, rfl, ?_⟩
      have e1 : gi (difs row m x) i = ev (row.drop i) x % m := gi_map (n := row.length) (fun j => ev (row.drop j) x % m) hi
      rw [e1, gi_next hi]
      (repeat' (first | (with_reducible exact ev_int) | (with_reducible exact ev_str) | (with_reducible exact ev_bl) | (with_reducible exact ev_non) | (with_reducible exact ev_ty) | ((with_reducible apply ev_var); exact rfl) | (with_reducible exact el_nil) | (with_reducible apply el_cons) | ((with_reducible apply ev_lenOi); exact rfl) | ((with_reducible apply ev_ixOiS); exact rfl) | (with_reducible apply ev_op) | (with_reducible exact rv_add) | (with_reducible exact rv_sub) | (with_reducible apply rv_mul) | (with_reducible apply rv_div) | (with_reducible apply rv_mod) | (with_reducible apply rv_pow) | (with_reducible exact rv_lt) | (with_reducible exact rv_le) | (with_reducible exact rv_gt) | (with_reducible exact rv_ge) | (with_reducible exact rv_eq) | (with_reducible exact rv_ne) | (with_reducible exact rv_eqS) | (with_reducible exact rv_eqB) | (with_reducible exact rv_neB) | (with_reducible exact rv_isN) | (with_reducible exact rv_notN) | (with_reducible exact rv_isB) | (with_reducible exact rv_notB) | (with_reducible apply rv_ixi) | (with_reducible apply rv_ixTi) | ((with_reducible apply rv_ixLT); exact rfl) | ((with_reducible apply rv_ixLL); exact rfl) | (with_reducible apply ev_cbs) | (with_reducible exact rc_int) | (with_reducible exact rc_intB) | (with_reducible exact rc_leni) | (with_reducible exact rc_lenTi) | (with_reducible exact rc_abs) | (with_reducible exact rc_max2) | (with_reducible exact rc_min2) | (with_reducible exact rc_all) | (with_reducible exact rc_any) | (with_reducible exact rc_sum) | (with_reducible exact rc_lenL) | (with_reducible exact rc_lenT) | (with_reducible apply et_test) | (with_reducible apply et_B) | (with_reducible apply et_not) | (with_reducible apply et_and) | (with_reducible apply et_or) | (with_reducible apply ev_andV) | (with_reducible apply ev_orV) | (with_reducible apply ev_notV) | (with_reducible apply ev_chain) | (with_reducible apply ev_neg) | (with_reducible apply ev_tups) | (with_reducible apply ev_lsts) | (with_reducible apply eo_lsts) | (with_reducible intro hc)))
      omega
    · rw [zs_range (fun i => (ev (row.drop i) x % m + ev (row.drop (i + 1)) x % m) % m)]
      unfold difs
      congr 2
      apply List.map_congr_left
      intro j hj
      rw [← Int.add_emod, ← drop_tail]
      rfl
    · refine to_un 4 (to_un 5 ?_)
      have e : (zs ((List.range x).map fun y => ev row y % (m : Int)) ++ [D.int (ev row x % m)]) = zs ((List.range (x + 1)).map fun y => ev row y % (m : Int)) := by
        rw [← resid_succ]
        simp [zs]
      simp only [List.set, wipeG, e]
      exact hN
  · intro _ _
    have e : Int.toNat (m : Int) = m := by omega
    rw [e]
    exact to_retOwn0 (i := 3) rfl (fit _)
end
end Z46
set_option maxHeartbeats 4000000
namespace Z46
open PySem PySem.Spec PyProof.Rows L2 Y
/-! ### the own row of binomials -/
def chs (n m x : Nat) : List Int := (List.range n).map fun i => ch x i % (m : Int)
theorem chs_len {n m x : Nat} : (chs n m x).length = n := by
  unfold chs
  simp
theorem chs_0 {n m : Nat} (h : 2 ≤ m) : chs (n + 1) m 0 = 1 :: (List.range n).map fun _ => (0 : Int) := by
  unfold chs
  rw [List.range_succ_eq_map, List.map_cons, List.map_map]
  congr 1
  exact Int.emod_eq_of_lt (by decide) (show (1 : Int) < m by omega)
theorem chs_step {n m x k : Nat} : (chs (k + 1) m (x + 1)) ++ [(ch x k % (m : Int) + ch x (k + 1) % (m : Int)) % m] = chs (k + 1 + 1) m (x + 1) := by
  unfold chs
  rw [List.range_succ (n := k + 1), List.map_append]
  congr 1
  show [_] = [(ch x k + ch x (k + 1)) % (m : Int)]
  rw [← Int.add_emod]
theorem ch_nonneg : ∀ x i, 0 ≤ ch x i
  | x, 0 => by rw [ch_0]; decide
  | 0, i + 1 => by show (0 : Int) ≤ 0; decide
  | x + 1, i + 1 => by
    have h1 := ch_nonneg x i
    have h2 := ch_nonneg x (i + 1)
    show 0 ≤ ch x i + ch x (i + 1)
    omega
/-! ### the first two that meet -/
def NoMeet (l : List Int) (y : Nat) : Prop := ∀ j, j < y → gi l (j : Int) ∉ l.take j
theorem meet_some {l : List Int} {y : Nat} (hy : y < l.length) (n : NoMeet l y) (h : gi l y ∈ l.take y) : meetD l = .tup [.int (l.idxOf (gi l y)), .int y] := by
  unfold meetD
  have e : (List.range l.length).find? (fun y => decide (gi l (y : Int) ∈ l.take y)) = some y := by
    rw [List.find?_range_eq_some]
    refine ⟨by simpa using h, by simpa using hy, fun j hj => ?_⟩
    simpa using n j hj
  rw [e]
theorem meet_none {l : List Int} (n : NoMeet l l.length) : meetD l = .non := by
  unfold meetD
  have e : (List.range l.length).find? (fun y => decide (gi l (y : Int) ∈ l.take y)) = none := by
    rw [List.find?_eq_none]
    intro j hj
    simpa using n j (List.mem_range.mp hj)
  rw [e]
theorem idx_lt {l : List Int} {y : Nat} {v : Int} (h : v ∈ l.take y) : l.idxOf v < y ∧ l.idxOf v < l.length ∧ l[l.idxOf v]? = some v ∧ ∀ j, j < l.idxOf v → l[j]? ≠ some v := by
  have hm : v ∈ l := List.mem_of_mem_take h
  have h1 : l.idxOf v < l.length := List.idxOf_lt_length_of_mem hm
  refine ⟨?_, h1, ?_, ?_⟩
  · obtain ⟨j, hj, e⟩ := List.mem_iff_getElem.mp h
    have hj2 : j < l.length := by
      rw [List.length_take] at hj
      omega
    have hjy : j < y := by
      rw [List.length_take] at hj
      omega
    by_cases q : l.idxOf v ≤ j
    · omega
    · exfalso
      have e2 : l[j] = v := by
        rw [List.getElem_take] at e
        exact e
      have := List.not_of_lt_findIdx (xs := l) (p := (· == v)) (i := j) (by unfold List.idxOf at q; omega)
      simp [e2] at this
  · rw [List.getElem?_eq_getElem h1, List.getElem_idxOf h1]
  · intro j hj e
    obtain ⟨hl, e2⟩ := List.getElem?_eq_some_iff.mp e
    have := List.not_of_lt_findIdx (xs := l) (p := (· == v)) (i := j) hj
    simp [e2] at this
def keysOf (l : List Int) (y : Nat) : List Key := (l.take y).map .inl
def valsOf (y : Nat) : List D := (List.range y).map fun (i : Nat) => .int i
theorem inK_keys {l : List Int} {y : Nat} {v : Int} : inK (.inl v) (keysOf l y) = decide (v ∈ l.take y) := by
  rw [Bool.eq_iff_iff, inK_iff, decide_eq_true_eq]
  unfold keysOf
  rw [List.mem_map]
  exact ⟨fun ⟨a, h, e⟩ => by cases e; exact h, fun h => ⟨v, h, rfl⟩⟩
theorem keys_succ {l : List Int} {y : Nat} (h : y < l.length) : keysOf l y ++ [.inl (gi l y)] = keysOf l (y + 1) := by
  unfold keysOf gi
  rw [List.take_succ, List.map_append]
  simp [h]
theorem vals_succ {y : Nat} : valsOf y ++ [.int y] = valsOf (y + 1) := by
  unfold valsOf
  rw [List.range_succ, List.map_append]
  rfl
theorem resid_len {row : List Int} {m : Nat} : (resid row m).length = m := by
  unfold resid
  simp
section
variable {K : PySem.W.Frag}
theorem rd__law_led : RdV K (t__law_led K) 7 (fun a : List Int × Nat => a.1 ≠ [] ∧ a.1.length ≤ 1000 ∧ (∀ x ∈ a.1, x.natAbs < 2 ^ 200) ∧ 2 ≤ a.2 ∧ a.2 ≤ 100000) (fun a => [.lst (zs a.1), .int a.2]) (fun a => .own (.lst (zs (resid a.1 a.2)))) := by
  rintro ⟨row, m⟩ ⟨h0, hl, hr, h1, h2⟩ B0 F R E fit
  simp only at h0 hl hr h1 h2
  obtain ⟨n, hn⟩ : ∃ n, row.length = n + 1 := ⟨row.length - 1, by have := List.length_pos_iff.mpr h0; omega⟩
  show To _ none [.va (.lst (zs row)), .va (.int m), .un, .un, .un, .un, .un, .un, .un] _
  have hsub : ∀ Γ, Γ[0]? = some (.va (.lst (zs row))) → Ev K (tOp rSubI (tCB (rLenQ K) (tCons (tVar 0) tNil)) (tC (.int 1))) Γ Γ (.int n) := fun Γ h => Ev.is (ev_op (ev_cbs (el_1 (ev_var h)) rc_leni) ev_int rv_sub) (by rw [hn]; simp)
  refine sq_set (d := .lst (zs (chs (n + 1) m 0))) (EvO.ev (EvO.is (eo_cat (ev_lsts (el_1 ev_int)) (EvO.ev (eo_lc1 (fun _ => .int 0) (ei_rng1 (el_1 (hsub _ rfl)) (by omega) (by omega)) (by omega) fun i hi => ev_int)) ?_) ?_)) ?_
  · simp
    omega
  · rw [chs_0 h1, zs_range (fun _ => 0)]
    rw [show Int.toNat (n : Int) = n by omega]
    rfl
  refine sq_setO (eo_lsts el_nil) ?_
  refine sq_for (α := Unit) (fun x _ => [.va (.lst (zs row)), .va (.int m), .va (.lst (zs (chs (n + 1) m x))), .ow (.lst (zs ((List.range x).map fun y => ev row y % (m : Int)))), .un, .un, .un, .un, .un]) (fun _ _ => True) (a0 := ()) (ei_rng1 (el_1 (ev_var rfl)) (by omega) (by omega)) trivial rfl ?_ ?_
  · intro B1 sb x _ hx _ N hN
    have hN := hN () trivial
    have hch : ∀ i : Nat, i < n + 1 → gi (chs (n + 1) m x) i = ch x i % m := fun i hi => gi_map (fun i => ch x i % (m : Int)) hi
    have hb : ∀ i : Nat, 0 ≤ ch x i % (m : Int) ∧ ch x i % (m : Int) < m := fun i => ⟨Int.emod_nonneg _ (by omega), Int.emod_lt_of_pos _ (by omega)⟩
    refine sq_set (d := .int ((List.range row.length).map fun (i : Nat) => gi row i * (ch x i % m)).sum) (ev_cbs (ds := [.lst (zs ((List.range row.length).map fun (i : Nat) => gi row i * (ch x i % m)))]) (el_1 (EvO.ev (EvO.is (eo_lc1 (fun i => .int (gi row i * (ch x i % m))) (ei_rng1 (el_1 (ev_cbs (el_1 (ev_var rfl)) rc_leni)) (by omega) (by omega)) (by omega) fun i hi => ?_) ?_))) rc_sum) ?_
    · have hi' : i < n + 1 := by omega
      have e := hch i hi'
      have hbi := hb i
      have hri : (gi row i).natAbs < 2 ^ 200 := by
        refine hr _ ?_
        unfold gi
        rw [Int.toNat_natCast, List.getD_eq_getElem?_getD, List.getElem?_eq_getElem (by omega)]
        exact List.getElem_mem _
      rw [← e] at hbi ⊢
      have sm1 : Sm (gi row i) := small_of hri (by decide)
      have sm2 : Sm (gi (chs (n + 1) m x) i) := sm_of (by omega) (by omega)
      clear hri
      (repeat' (first | (with_reducible exact ev_int) | (with_reducible exact ev_str) | (with_reducible exact ev_bl) | (with_reducible exact ev_non) | (with_reducible exact ev_ty) | ((with_reducible apply ev_var); exact rfl) | (with_reducible exact el_nil) | (with_reducible apply el_cons) | ((with_reducible apply ev_lenOi); exact rfl) | ((with_reducible apply ev_ixOiS); exact rfl) | (with_reducible apply ev_op) | (with_reducible exact rv_add) | (with_reducible exact rv_sub) | (with_reducible apply rv_mul) | (with_reducible apply rv_div) | (with_reducible apply rv_mod) | (with_reducible apply rv_pow) | (with_reducible exact rv_lt) | (with_reducible exact rv_le) | (with_reducible exact rv_gt) | (with_reducible exact rv_ge) | (with_reducible exact rv_eq) | (with_reducible exact rv_ne) | (with_reducible exact rv_eqS) | (with_reducible exact rv_eqB) | (with_reducible exact rv_neB) | (with_reducible exact rv_isN) | (with_reducible exact rv_notN) | (with_reducible exact rv_isB) | (with_reducible exact rv_notB) | (with_reducible apply rv_ixi) | (with_reducible apply rv_ixTi) | ((with_reducible apply rv_ixLT); exact rfl) | ((with_reducible apply rv_ixLL); exact rfl) | (with_reducible apply ev_cbs) | (with_reducible exact rc_int) | (with_reducible exact rc_intB) | (with_reducible exact rc_leni) | (with_reducible exact rc_lenTi) | (with_reducible exact rc_abs) | (with_reducible exact rc_max2) | (with_reducible exact rc_min2) | (with_reducible exact rc_all) | (with_reducible exact rc_any) | (with_reducible exact rc_sum) | (with_reducible exact rc_lenL) | (with_reducible exact rc_lenT) | (with_reducible apply et_test) | (with_reducible apply et_B) | (with_reducible apply et_not) | (with_reducible apply et_and) | (with_reducible apply et_or) | (with_reducible apply ev_andV) | (with_reducible apply ev_orV) | (with_reducible apply ev_notV) | (with_reducible apply ev_chain) | (with_reducible apply ev_neg) | (with_reducible apply ev_tups) | (with_reducible apply ev_lsts) | (with_reducible apply eo_lsts) | (with_reducible intro hc)))
      all_goals first | omega | (rw [chs_len]; omega) | exact sm_mul sm1 sm2
    · rw [zs_range (fun i => gi row i * (ch x i % m))]
      rw [show Int.toNat (row.length : Int) = row.length by omega]
    refine sq_append (i := 3) (d := .int (ev row x % m)) rfl ?_ (by simp; omega) ?_
    · refine Ev.is (ev_op (ev_cbs (el_1 (ev_var rfl)) rc_int) (ev_var rfl) (rv_mod (by omega))) ?_
      rw [total_mod]
    refine sq_setO (d := .lst (zs (chs 1 m (x + 1)))) (EvO.is (eo_lsts (el_1 ev_int)) ?_) ?_
    · unfold chs
      rw [show List.range 1 = [0] from rfl]
      show D.lst [.int 1] = .lst [.int (1 % (m : Int))]
      rw [Int.emod_eq_of_lt (by decide) (show (1 : Int) < m by omega)]
    have er : (zs ((List.range x).map fun y => ev row y % (m : Int)) ++ [D.int (ev row x % m)]) = zs ((List.range (x + 1)).map fun y => ev row y % (m : Int)) := by
      rw [← resid_succ]
      simp [zs]
    refine to_un 4 (to_un 5 ?_)
    simp only [List.set, wipeG, er]
    refine sq_for (α := Unit) (fun k _ => [.va (.lst (zs row)), .va (.int m), .va (.lst (zs (chs (n + 1) m x))), .ow (.lst (zs ((List.range (x + 1)).map fun y => ev row y % (m : Int)))), .un, .un, .ow (.lst (zs (chs (k + 1) m (x + 1)))), .un, .un]) (fun _ _ => True) (a0 := ()) (ei_rng1 (el_1 (hsub _ rfl)) (by omega) (by omega)) trivial ?_ ?_ ?_
    · rfl
    · intro B2 sb2 k _ hk _ M hM
      have hk : k < n := by omega
      refine ap_end (i := 6) (d := .int ((ch x k % (m : Int) + ch x (k + 1) % (m : Int)) % m)) rfl ?_ (by simp [zs, chs_len]; omega) (to_un 7 ?_)
      · have e1 := hch k (by omega)
        have e2 := hch (k + 1) (by omega)
        rw [← e1, ← e2]
        refine Ev.is (x := .int ((gi (chs (n + 1) m x) k + gi (chs (n + 1) m x) ((k : Int) + 1)) % m)) ?_ (by simp)
        (repeat' (first | (with_reducible exact ev_int) | (with_reducible exact ev_str) | (with_reducible exact ev_bl) | (with_reducible exact ev_non) | (with_reducible exact ev_ty) | ((with_reducible apply ev_var); exact rfl) | (with_reducible exact el_nil) | (with_reducible apply el_cons) | ((with_reducible apply ev_lenOi); exact rfl) | ((with_reducible apply ev_ixOiS); exact rfl) | (with_reducible apply ev_op) | (with_reducible exact rv_add) | (with_reducible exact rv_sub) | (with_reducible apply rv_mul) | (with_reducible apply rv_div) | (with_reducible apply rv_mod) | (with_reducible apply rv_pow) | (with_reducible exact rv_lt) | (with_reducible exact rv_le) | (with_reducible exact rv_gt) | (with_reducible exact rv_ge) | (with_reducible exact rv_eq) | (with_reducible exact rv_ne) | (with_reducible exact rv_eqS) | (with_reducible exact rv_eqB) | (with_reducible exact rv_neB) | (with_reducible exact rv_isN) | (with_reducible exact rv_notN) | (with_reducible exact rv_isB) | (with_reducible exact rv_notB) | (with_reducible apply rv_ixi) | (with_reducible apply rv_ixTi) | ((with_reducible apply rv_ixLT); exact rfl) | ((with_reducible apply rv_ixLL); exact rfl) | (with_reducible apply ev_cbs) | (with_reducible exact rc_int) | (with_reducible exact rc_intB) | (with_reducible exact rc_leni) | (with_reducible exact rc_lenTi) | (with_reducible exact rc_abs) | (with_reducible exact rc_max2) | (with_reducible exact rc_min2) | (with_reducible exact rc_all) | (with_reducible exact rc_any) | (with_reducible exact rc_sum) | (with_reducible exact rc_lenL) | (with_reducible exact rc_lenT) | (with_reducible apply et_test) | (with_reducible apply et_B) | (with_reducible apply et_not) | (with_reducible apply et_and) | (with_reducible apply et_or) | (with_reducible apply ev_andV) | (with_reducible apply ev_orV) | (with_reducible apply ev_notV) | (with_reducible apply ev_chain) | (with_reducible apply ev_neg) | (with_reducible apply ev_tups) | (with_reducible apply ev_lsts) | (with_reducible apply eo_lsts) | (with_reducible intro hc)))
        all_goals first | omega | (rw [chs_len]; omega)
      · have e : zs (chs (k + 1) m (x + 1)) ++ [.int ((ch x k % (m : Int) + ch x (k + 1) % (m : Int)) % m)] = zs (chs (k + 1 + 1) m (x + 1)) := by
          rw [← chs_step (n := n)]
          simp [zs]
        simp only [List.set, e]
        exact hM () trivial
    · intro _ _
      rw [show Int.toNat (n : Int) = n by omega]
      refine to_freeze (i := 6) rfl (to_setS (ev_var rfl) (to_un 6 ?_))
      exact hN
  · intro _ _
    have e : Int.toNat (m : Int) = m := by omega
    rw [e]
    exact to_retOwn0 (i := 3) rfl (fit _)
theorem rd__law_met : RdV K (t__law_met K) 3 (fun a : List Int × Nat => a.1 ≠ [] ∧ a.1.length ≤ 1000 ∧ (∀ x ∈ a.1, x.natAbs < 2 ^ 200) ∧ 2 ≤ a.2 ∧ a.2 ≤ 100000) (fun a => [.lst (zs a.1), .int a.2]) (fun a => .ret (meetD (resid a.1 a.2))) := by
  rintro ⟨row, m⟩ h B0 F R E fit
  have h2 : 2 ≤ m := h.2.2.2.1
  have h3 : m ≤ 100000 := h.2.2.2.2
  simp only at fit
  show To _ none [.va (.lst (zs row)), .va (.int m), .un, .un, .un] _
  refine sq_set (EvO.ev (eo_cv (a := (row, m)) (el_cons (ev_var rfl) (el_1 (ev_var rfl))) rfl h rfl)) ?_
  have hl : (resid row m).length = m := resid_len
  simp only
  generalize resid row m = l at *
  refine sq_setO eo_dnew ?_
  refine sq_for (α := Unit) (fun y _ => [.va (.lst (zs row)), .va (.int m), .va (.lst (zs l)), .ow (.dic (keysOf l y) (valsOf y)), .un]) (fun y _ => NoMeet l y) (a0 := ()) (ei_rng1 (el_1 (ev_var rfl)) (by omega) (by omega)) (fun j hj => by omega) rfl ?_ ?_
  · intro B1 sb y _ hy nm N hN
    have hy : y < m := by omega
    have key : Ev K (tOp (rIx K) (tVar 2) (tVar 4)) [.va (.lst (zs row)), .va (.int m), .va (.lst (zs l)), .ow (.dic (keysOf l y) (valsOf y)), .va (.int y)] [.va (.lst (zs row)), .va (.int m), .va (.lst (zs l)), .ow (.dic (keysOf l y) (valsOf y)), .va (.int y)] (keyD (.inl (gi l y))) := by
      show Ev _ _ _ _ (.int (gi l y))
      (repeat' (first | (with_reducible exact ev_int) | (with_reducible exact ev_str) | (with_reducible exact ev_bl) | (with_reducible exact ev_non) | (with_reducible exact ev_ty) | ((with_reducible apply ev_var); exact rfl) | (with_reducible exact el_nil) | (with_reducible apply el_cons) | ((with_reducible apply ev_lenOi); exact rfl) | ((with_reducible apply ev_ixOiS); exact rfl) | (with_reducible apply ev_op) | (with_reducible exact rv_add) | (with_reducible exact rv_sub) | (with_reducible apply rv_mul) | (with_reducible apply rv_div) | (with_reducible apply rv_mod) | (with_reducible apply rv_pow) | (with_reducible exact rv_lt) | (with_reducible exact rv_le) | (with_reducible exact rv_gt) | (with_reducible exact rv_ge) | (with_reducible exact rv_eq) | (with_reducible exact rv_ne) | (with_reducible exact rv_eqS) | (with_reducible exact rv_eqB) | (with_reducible exact rv_neB) | (with_reducible exact rv_isN) | (with_reducible exact rv_notN) | (with_reducible exact rv_isB) | (with_reducible exact rv_notB) | (with_reducible apply rv_ixi) | (with_reducible apply rv_ixTi) | ((with_reducible apply rv_ixLT); exact rfl) | ((with_reducible apply rv_ixLL); exact rfl) | (with_reducible apply ev_cbs) | (with_reducible exact rc_int) | (with_reducible exact rc_intB) | (with_reducible exact rc_leni) | (with_reducible exact rc_lenTi) | (with_reducible exact rc_abs) | (with_reducible exact rc_max2) | (with_reducible exact rc_min2) | (with_reducible exact rc_all) | (with_reducible exact rc_any) | (with_reducible exact rc_sum) | (with_reducible exact rc_lenL) | (with_reducible exact rc_lenT) | (with_reducible apply et_test) | (with_reducible apply et_B) | (with_reducible apply et_not) | (with_reducible apply et_and) | (with_reducible apply et_or) | (with_reducible apply ev_andV) | (with_reducible apply ev_orV) | (with_reducible apply ev_notV) | (with_reducible apply ev_chain) | (with_reducible apply ev_neg) | (with_reducible apply ev_tups) | (with_reducible apply ev_lsts) | (with_reducible apply eo_lsts) | (with_reducible intro hc)))
      all_goals omega
    refine sq_if (b := decide (gi l y ∈ l.take y)) (EvT.is (et_B (ev_din (k := .inl (gi l y)) key rfl)) inK_keys) (fun hc => ?_) fun hc => ?_
    · have hc := of_decide_eq_true hc
      obtain ⟨i1, i2, i3, i4⟩ := idx_lt hc
      rw [meet_some (by omega) nm hc] at fit
      refine to_ret (ev_tups (el_cons (ev_dget (d0 := .dic (keysOf l y) (valsOf y)) (i := l.idxOf (gi l y)) (k := .inl (gi l y)) (d := .int (l.idxOf (gi l y))) rfl key rfl ?_ ?_ ?_) (el_1 (ev_var rfl)))) ((fit.up sb) _)
      · unfold keysOf
        rw [List.getElem?_map, List.getElem?_take_of_lt i1, i3]
        rfl
      · unfold valsOf
        simp [i1]
      · intro j hj e
        unfold keysOf at e
        rw [List.getElem?_map, List.getElem?_take_of_lt (by omega)] at e
        have := i4 j hj
        cases q : l[j]? with
        | none => rw [q] at e; cases e
        | some v =>
          rw [q] at e this
          simp at e this
          exact this e
    · have hc := of_decide_eq_false hc
      refine to_dput (k := .inl (gi l y)) (d := .int y) (d1 := .dic (keysOf l y) (valsOf y)) (ev_var rfl) rfl key rfl ?_ ?_ (to_un 4 ?_)
      · intro z
        rw [← inK_iff, inK_keys] at z
        exact hc (of_decide_eq_true z)
      · unfold keysOf
        simp
        omega
      · rw [keys_succ (by omega), vals_succ]
        refine hN () fun j hj => ?_
        by_cases q : j < y
        · exact nm j q
        · have : j = y := by omega
          subst this
          exact hc
  · intro _ nm
    rw [show Int.toNat (m : Int) = m by omega] at nm ⊢
    rw [meet_none (by rw [hl]; exact nm)] at fit
    exact to_ret ev_non (fit _)
end
end Z46
set_option maxHeartbeats 4000000
namespace Z46
open PySem PySem.Spec PyProof.Rows L2 Y
theorem inD_ints {v : Int} {l : List Int} : inD (.int v) (zs l) = decide (v ∈ l) := by
  rw [Bool.eq_iff_iff, decide_eq_true_eq]
  unfold inD
  rw [List.any_eq_true]
  constructor
  · rintro ⟨x, hx, e⟩
    obtain ⟨w, hw, rfl⟩ := List.mem_map.mp hx
    have e : (w == v) = true := e
    rw [← eq_of_beq e]
    exact hw
  · intro h
    exact ⟨.int v, List.mem_map.mpr ⟨v, h, rfl⟩, by show (v == v) = true; simp⟩
section
variable {K : PySem.W.Frag} (fc : Fc K)
include fc
theorem rd_meeting : RdV K (t_meeting K) 4 (fun a : LkA => LookOk a.1 a.2.1 a.2.2) (fun a => [mah a.1 a.2.1]) (fun a => lookR a.1 a.2.1 a.2.2 (meetG a)) := by
  rintro ⟨p, row, s⟩ h B0 F R E fit
  simp only at h
  have hp2 := h.p2
  have hp3 := h.p3
  have hs := h.s10
  show To _ none [.va (mah p row), .un, .un, .un, .un] _
  rcases look_split p row s with ⟨x, ns, ds, e⟩ | e
  · simp only [e] at fit
    exact to_seq (to_asgX (ex_cv (a := (p, row, s)) (el_1 (ev_var rfl)) rfl h (e _)) (Xt.w (fit _)))
  · have hsz : p ^ (s + 1) ≤ 2500 := by
      have z := e .non
      unfold lookR at z
      split at z
      · cases z
      · unfold looks at z
        split at z
        · cases z
        · omega
    simp only [e] at fit
    refine sq_setS (ev_cv (a := (p, row, s)) (el_1 (ev_var rfl)) rfl h (e _)) (sq_setO eo_dnew ?_)
    have hpos : 0 < p ^ (s + 1) := Int.pow_pos (by omega)
    have hm : ((p ^ (s + 1)).toNat : Int) = p ^ (s + 1) := by omega
    have hl : (resid row (p ^ (s + 1)).toNat).length = (p ^ (s + 1)).toNat := resid_len
    have hl2 : (resid row (p ^ (s + 1)).toNat).length ≤ 2500 := by omega
    have fit2 : FitV ⟨K, B0, F⟩ R E (.ret (meetD (resid row (p ^ (s + 1)).toNat))) := fit
    have call : Ev K (tCallS (sp_led_residues K) (fun _ => E0) (tCons (tVar 0) (tCons (tCallS (sp_power K) (fun _ => E0) (tCons (tFld K (tVar 0) "p") (tCons (tVar 1) tNil))) tNil))) [.va (mah p row), .va (.int (s + 1 : Nat)), .ow (.dic [] []), .un, .un] [.va (mah p row), .va (.int (s + 1 : Nat)), .ow (.dic [] []), .un, .un] (.lst (zs (resid row (p ^ (s + 1)).toNat))) := by
      refine EvO.ev (eo_cv (a := (p, row, (p ^ (s + 1)).toNat)) (ds := [mah p row, .int ((p ^ (s + 1)).toNat : Int)]) (el_cons (ev_var rfl) (el_1 (Ev.is (ev_cv (a := (p, s + 1)) (el_cons (ev_fp fc (ev_var rfl)) (el_1 (ev_var rfl))) rfl ⟨by simp only; omega, by simp only; omega, by simp only; omega⟩ rfl) ?_))) rfl ⟨h.n0, h.len, ?_, ?_⟩ rfl)
      · simp only [hm]
      · simp only
        omega
      · simp only
        omega
    clear fit
    generalize resid row (p ^ (s + 1)).toNat = l at *
    refine to_seq (to_for (α := Unit) (fun y _ => [.va (mah p row), .va (.int (s + 1 : Nat)), .ow (.dic (keysOf l y) (valsOf y)), .un, .un]) (fun y _ => NoMeet l y) (a0 := ()) (ei_enum (ds := zs l) (it := fun i => .int (gi l i)) (el_1 call) (fun i hi => zs_get (by simpa using hi))) (fun j hj => by omega) rfl ?_ ?_)
    · intro B1 sb y _ hy nm N hN
      have hy : y < l.length := by simpa using hy
      refine ⟨_, _, tg_tup (tgs_cons (tg_name (i := 3)) (tgs_cons (tg_name (i := 4)) tgs_nil)) rfl, .inl (by decide), ?_⟩
      have key : Ev K (tVar 4) [.va (mah p row), .va (.int (s + 1 : Nat)), .ow (.dic (keysOf l y) (valsOf y)), .va (.int y), .va (.int (gi l y))] [.va (mah p row), .va (.int (s + 1 : Nat)), .ow (.dic (keysOf l y) (valsOf y)), .va (.int y), .va (.int (gi l y))] (keyD (.inl (gi l y))) := ev_var rfl
      refine sq_if (b := decide (gi l y ∈ l.take y)) (EvT.is (et_B (ev_din (k := .inl (gi l y)) key rfl)) inK_keys) (fun hc => ?_) fun hc => ?_
      · have hc := of_decide_eq_true hc
        obtain ⟨i1, i2, i3, i4⟩ := idx_lt hc
        rw [meet_some hy nm hc] at fit2
        refine to_ret (ev_tups (el_cons (ev_dget (d0 := .dic (keysOf l y) (valsOf y)) (i := l.idxOf (gi l y)) (k := .inl (gi l y)) (d := .int (l.idxOf (gi l y))) rfl key rfl ?_ ?_ ?_) (el_1 (ev_var rfl)))) ((fit2.up sb) _)
        · unfold keysOf
          rw [List.getElem?_map, List.getElem?_take_of_lt i1, i3]
          rfl
        · unfold valsOf
          simp [i1]
        · intro j hj e
          unfold keysOf at e
          rw [List.getElem?_map, List.getElem?_take_of_lt (by omega)] at e
          have := i4 j hj
          cases q : l[j]? with
          | none => rw [q] at e; cases e
          | some v =>
            rw [q] at e this
            simp at e this
            exact this e
      · have hc := of_decide_eq_false hc
        refine to_dput (k := .inl (gi l y)) (d := .int y) (d1 := .dic (keysOf l y) (valsOf y)) (ev_var rfl) rfl key rfl ?_ ?_ (to_un 3 (to_un 4 ?_))
        · intro z
          rw [← inK_iff, inK_keys] at z
          exact hc (of_decide_eq_true z)
        · unfold keysOf
          simp
          omega
        · rw [keys_succ hy, vals_succ]
          refine hN () fun j hj => ?_
          by_cases q : j < y
          · exact nm j q
          · have : j = y := by omega
            subst this
            exact hc
    · intro _ nm
      have nm : NoMeet l l.length := by simpa using nm
      rw [meet_none nm] at fit2
      show To _ none _ (tRet (tC .non) (Fin R))
      refine to_ret ev_non ?_
      exact fit2 _
theorem rd_look_prime : RdV K (t_look_prime K) 0 (fun p : Int => inD (.int p) [.int 2, .int 3, .int 5, .int 7, .int 11, .int 13, .int 17, .int 19, .int 23, .int 29, .int 31, .int 37, .int 41, .int 43, .int 47, .int 53, .int 59, .int 61, .int 67, .int 71, .int 73, .int 79, .int 83, .int 89, .int 97] = true) (fun p => [.int p]) (fun _ => .ret .non) := by
  rintro p h B0 F R E fit
  show To _ none [.va (.int p)] _
  refine to_ifS (b := false) (EvT.is (et_test (ev_op (ev_var rfl) (ev_glob fc.sp) (rv_niT rfl rfl))) ?_) (fun z => by cases z) fun _ => to_next ?_
  · show (!inD (.int p) (zs primes)) = false
    rw [show inD (.int p) (zs primes) = true from h]
    rfl
  · exact fun σ B H S hp => fit _ σ B H .non S hp .non
omit fc
theorem rd_look_size : RdV K (t_look_size K) 0 (fun a : Int × Int × Int => a.2.1 ≤ a.1 ∧ a.1 ≤ a.2.2) (fun a => [.int a.1, .int a.2.1, .int a.2.2]) (fun _ => .ret .non) := by
  rintro ⟨n, a, b⟩ ⟨h1, h2⟩ B0 F R E fit
  simp only at h1 h2
  show To _ none [.va (.int n), .va (.int a), .va (.int b)] _
  refine to_ifS (b := false) (EvT.is (et_not (et_test (ev_chain (ev_var rfl) (ev_var rfl) rv_le (fun _ => ev_var rfl) fun _ => rv_le))) ?_) (fun z => by cases z) fun _ => to_next ?_
  · simp [h1, h2]
  · exact fun σ B H S hp => fit _ σ B H .non S hp .non
theorem rd_look_range : RdV K (t_look_range K) 0 (fun a : Int × Int × Int => a.2.1 ≤ a.1 ∧ a.1 ≤ a.2.2) (fun a => [.int a.1, .int a.2.1, .int a.2.2]) (fun _ => .ret .non) := by
  rintro ⟨n, a, b⟩ ⟨h1, h2⟩ B0 F R E fit
  simp only at h1 h2
  show To _ none [.va (.int n), .va (.int a), .va (.int b)] _
  refine to_ifS (b := false) (EvT.is (et_not (et_test (ev_chain (ev_var rfl) (ev_var rfl) rv_le (fun _ => ev_var rfl) fun _ => rv_le))) ?_) (fun z => by cases z) fun _ => to_next ?_
  · simp [h1, h2]
  · exact fun σ B H S hp => fit _ σ B H .non S hp .non
theorem rd_look_list : RdV K (t_look_list K) 0 (fun a : List Int × Int × Int => a.2.1 ≤ a.1.length ∧ a.1.length ≤ a.2.2) (fun a => [.lst (zs a.1), .int a.2.1, .int a.2.2]) (fun _ => .ret .non) := by
  rintro ⟨l, a, b⟩ ⟨h1, h2⟩ B0 F R E fit
  show To _ none [.va (.lst (zs l)), .va (.int a), .va (.int b)] _
  refine to_drop (ev_cv (a := ((l.length : Int), a, b)) (el_cons (ev_cbs (el_1 (ev_var rfl)) rc_leni) (el_cons (ev_var rfl) (el_1 (ev_var rfl)))) rfl ⟨h1, h2⟩ rfl) ?_
  exact fun σ B H S hp => fit _ σ B H .non S hp .non
theorem rd_look_listT : RdV K (t_look_listT K) 0 (fun a : List Int × Int × Int => a.2.1 ≤ a.1.length ∧ a.1.length ≤ a.2.2) (fun a => [.tup (zs a.1), .int a.2.1, .int a.2.2]) (fun _ => .ret .non) := by
  rintro ⟨l, a, b⟩ ⟨h1, h2⟩ B0 F R E fit
  show To _ none [.va (.tup (zs l)), .va (.int a), .va (.int b)] _
  refine to_drop (ev_cv (a := ((l.length : Int), a, b)) (el_cons (ev_cbs (el_1 (ev_var rfl)) rc_lenTi) (el_cons (ev_var rfl) (el_1 (ev_var rfl)))) rfl ⟨h1, h2⟩ rfl) ?_
  exact fun σ B H S hp => fit _ σ B H .non S hp .non
theorem rd_look_each : RdV K (t_look_each K) 1 (fun a : List Int × Int × Int => a.1.length ≤ 1000 ∧ ∀ x ∈ a.1, a.2.1 ≤ x ∧ x ≤ a.2.2) (fun a => [.lst (zs a.1), .int a.2.1, .int a.2.2]) (fun _ => .ret .non) := by
  rintro ⟨l, a, b⟩ ⟨h1, h2⟩ B0 F R E fit
  simp only at h1 h2
  show To _ none [.va (.lst (zs l)), .va (.int a), .va (.int b), .un] _
  refine to_forN (α := Unit) (fun _ _ => [.va (.lst (zs l)), .va (.int a), .va (.int b), .un]) (fun _ _ => True) (a0 := ()) (ei_list (it := fun i => .int (gi l i)) (ev_var rfl) (fun i hi => zs_get (by simpa using hi))) trivial rfl ?_ ?_
  · intro B1 sb i _ hi _ N hN
    have hi : i < l.length := by simpa using hi
    have hm : gi l i ∈ l := by
      unfold gi
      rw [Int.toNat_natCast, List.getD_eq_getElem?_getD, List.getElem?_eq_getElem hi]
      exact List.getElem_mem _
    exact to_drop (ev_cv (a := (gi l i, a, b)) (el_cons (ev_var rfl) (el_cons (ev_var rfl) (el_1 (ev_var rfl)))) rfl (h2 _ hm) rfl) (to_un 3 (hN () trivial))
  · exact fun _ _ σ B H S hp => fit _ σ B H .non S hp .non
theorem rd_look_eachT : RdV K (t_look_eachT K) 1 (fun a : List Int × Int × Int => a.1.length ≤ 1000 ∧ ∀ x ∈ a.1, a.2.1 ≤ x ∧ x ≤ a.2.2) (fun a => [.tup (zs a.1), .int a.2.1, .int a.2.2]) (fun _ => .ret .non) := by
  rintro ⟨l, a, b⟩ ⟨h1, h2⟩ B0 F R E fit
  simp only at h1 h2
  show To _ none [.va (.tup (zs l)), .va (.int a), .va (.int b), .un] _
  refine to_forN (α := Unit) (fun _ _ => [.va (.tup (zs l)), .va (.int a), .va (.int b), .un]) (fun _ _ => True) (a0 := ()) (ei_tup (it := fun i => .int (gi l i)) (ev_var rfl) (fun i hi => zs_get (by simpa using hi))) trivial rfl ?_ ?_
  · intro B1 sb i _ hi _ N hN
    have hi : i < l.length := by simpa using hi
    have hm : gi l i ∈ l := by
      unfold gi
      rw [Int.toNat_natCast, List.getD_eq_getElem?_getD, List.getElem?_eq_getElem hi]
      exact List.getElem_mem _
    exact to_drop (ev_cv (a := (gi l i, a, b)) (el_cons (ev_var rfl) (el_cons (ev_var rfl) (el_1 (ev_var rfl)))) rfl (h2 _ hm) rfl) (to_un 3 (hN () trivial))
  · exact fun _ _ σ B H S hp => fit _ σ B H .non S hp .non
theorem rd__law_alike : RdV K (t__law_alike K) 1 (fun a : List Int × List Int => a.1.length ≤ 100000 ∧ a.2.length ≤ 100000) (fun a => [.tup (zs a.1), .tup (zs a.2)]) (fun a => .ret (.bl (decide (a.1 = a.2)))) := by
  rintro ⟨l, m⟩ ⟨h1, h2⟩ B0 F R E fit
  simp only at h1 h2
  show To _ none [.va (.tup (zs l)), .va (.tup (zs m)), .un] _
  refine sq_if (b := false) (et_test (ev_op (ev_isi (b := false) (ev_var rfl) rfl trivial rfl) (ev_isi (b := false) (ev_var rfl) rfl trivial rfl) rv_neB)) (fun z => by cases z) fun _ => ?_
  refine sq_if (b := false) (et_test (ev_op (ev_isi (b := true) (ev_var rfl) rfl trivial rfl) (ev_isi (b := true) (ev_var rfl) rfl trivial rfl) rv_neB)) (fun z => by cases z) fun _ => ?_
  refine sq_if (et_test (ev_op (ev_cbs (el_1 (ev_var rfl)) rc_lenTi) (ev_cbs (el_1 (ev_var rfl)) rc_lenTi) rv_ne)) (fun hc => ?_) fun hc => ?_
  · have hc : l.length ≠ m.length := by
      intro z
      rw [z] at hc
      simp at hc
    refine to_ret ev_bl ?_
    have e : decide (l = m) = false := decide_eq_false fun z => hc (by rw [z])
    simp only [e] at fit
    exact fit _
  · have hc : l.length = m.length := by
      have := of_decide_eq_true (p := (l.length : Int) = m.length) (by simpa using hc)
      omega
    refine to_ret (ev_cbs (ds := [.lst (((List.range m.length).map fun (i : Nat) => decide (gi l i = gi m i)).map .bl)]) (el_1 (EvO.ev (EvO.is (eo_lc1 (fun i => .bl (decide (gi l i = gi m i))) (ei_rng1 (el_1 (ev_cbs (el_1 (ev_var rfl)) rc_lenTi)) (by omega) (by omega)) (by omega) fun i hi => ?_) ?_))) rc_all) ?_
    · have hi : i < m.length := by omega
      refine ev_cv (a := (gi l i, gi m i)) (ds := [.int (gi l i), .int (gi m i)]) ?_ rfl trivial rfl
      (repeat' (first | (with_reducible exact ev_int) | (with_reducible exact ev_str) | (with_reducible exact ev_bl) | (with_reducible exact ev_non) | (with_reducible exact ev_ty) | ((with_reducible apply ev_var); exact rfl) | (with_reducible exact el_nil) | (with_reducible apply el_cons) | ((with_reducible apply ev_lenOi); exact rfl) | ((with_reducible apply ev_ixOiS); exact rfl) | (with_reducible apply ev_op) | (with_reducible exact rv_add) | (with_reducible exact rv_sub) | (with_reducible apply rv_mul) | (with_reducible apply rv_div) | (with_reducible apply rv_mod) | (with_reducible apply rv_pow) | (with_reducible exact rv_lt) | (with_reducible exact rv_le) | (with_reducible exact rv_gt) | (with_reducible exact rv_ge) | (with_reducible exact rv_eq) | (with_reducible exact rv_ne) | (with_reducible exact rv_eqS) | (with_reducible exact rv_eqB) | (with_reducible exact rv_neB) | (with_reducible exact rv_isN) | (with_reducible exact rv_notN) | (with_reducible exact rv_isB) | (with_reducible exact rv_notB) | (with_reducible apply rv_ixi) | (with_reducible apply rv_ixTi) | ((with_reducible apply rv_ixLT); exact rfl) | ((with_reducible apply rv_ixLL); exact rfl) | (with_reducible apply ev_cbs) | (with_reducible exact rc_int) | (with_reducible exact rc_intB) | (with_reducible exact rc_leni) | (with_reducible exact rc_lenTi) | (with_reducible exact rc_abs) | (with_reducible exact rc_max2) | (with_reducible exact rc_min2) | (with_reducible exact rc_all) | (with_reducible exact rc_any) | (with_reducible exact rc_sum) | (with_reducible exact rc_lenL) | (with_reducible exact rc_lenT) | (with_reducible apply et_test) | (with_reducible apply et_B) | (with_reducible apply et_not) | (with_reducible apply et_and) | (with_reducible apply et_or) | (with_reducible apply ev_andV) | (with_reducible apply ev_orV) | (with_reducible apply ev_notV) | (with_reducible apply ev_chain) | (with_reducible apply ev_neg) | (with_reducible apply ev_tups) | (with_reducible apply ev_lsts) | (with_reducible apply eo_lsts) | (with_reducible intro hc)))
      all_goals omega
    · rw [List.map_map, show Int.toNat (m.length : Int) = m.length by omega]
      rfl
    · have e : ((List.range m.length).map fun (i : Nat) => decide (gi l i = gi m i)).all id = decide (l = m) := by
        rw [Bool.eq_iff_iff, decide_eq_true_eq, List.all_map, List.all_eq_true]
        constructor
        · intro h
          apply List.ext_getElem hc
          intro i g1 g2
          have := h i (List.mem_range.mpr g2)
          simpa [gi, g1, g2] using this
        · rintro rfl
          intro i _
          simp
      simp only [e]
      exact fit _
end
end Z46
set_option maxHeartbeats 4000000
namespace Z46
open PySem PySem.Spec PyProof.Rows L2 Y
/-! ### the zeros at the end -/
theorem trimN_le (r : List Int) : ∀ n, trim.trimN r n ≤ n
  | 0 => Nat.le_refl _
  | 1 => Nat.le_refl _
  | n + 2 => by
    rw [trim.trimN]
    split
    · have := trimN_le r (n + 1)
      omega
    · exact Nat.le_refl _
theorem trimN_pos (r : List Int) : ∀ n, 1 ≤ n → 1 ≤ trim.trimN r n
  | 0, h => h
  | 1, _ => Nat.le_refl _
  | n + 2, _ => by
    rw [trim.trimN]
    split
    · exact trimN_pos r (n + 1) (by omega)
    · omega
/-- a step of the walk down -/
def dn (r : List Int) (n : Nat) : Bool := decide (1 < n) && decide (gi r ((n : Int) - 1) = 0)
theorem trimN_step {r : List Int} {n : Nat} (h : dn r n = true) : trim.trimN r n = trim.trimN r (n - 1) := by
  unfold dn at h
  rw [Bool.and_eq_true, decide_eq_true_eq, decide_eq_true_eq] at h
  obtain ⟨k, rfl⟩ : ∃ k, n = k + 2 := ⟨n - 2, by omega⟩
  have e : (((k + 2 : Nat) : Int) - 1) = ((k + 1 : Nat) : Int) := by omega
  rw [e] at h
  rw [trim.trimN, if_pos (by rw [← h.2]; rfl)]
  rfl
theorem trimN_stop {r : List Int} {n : Nat} (h : dn r n = false) : trim.trimN r n = n := by
  unfold dn at h
  match n, h with
  | 0, _ => rfl
  | 1, _ => rfl
  | k + 2, h =>
    have e : (((k + 2 : Nat) : Int) - 1) = ((k + 1 : Nat) : Int) := by omega
    rw [e] at h
    have h2 : ¬ gi r ((k + 1 : Nat) : Int) = 0 := by
      intro z
      rw [z] at h
      simp at h
    rw [trim.trimN, if_neg (fun z => h2 (by rw [← z]; rfl))]
theorem trim_1 {a : Int} : trim [a] = [a] := rfl
/-- the law's walk down -/
def down (r : List Int) : Nat → Nat → Nat
  | 0, n => n
  | k + 1, n => down r k (if dn r n = true then n - 1 else n)
theorem down_stop {r : List Int} : ∀ (k : Nat) {n : Nat}, dn r n = false → down r k n = n
  | 0, _, _ => rfl
  | k + 1, n, h => by
    unfold down
    rw [if_neg (by rw [h]; exact Bool.false_ne_true)]
    exact down_stop k h
theorem down_trim {r : List Int} : ∀ (k n : Nat), n ≤ k → down r k n = trim.trimN r n
  | 0, n, h => by
    have : n = 0 := by omega
    subst this
    rfl
  | k + 1, n, h => by
    unfold down
    cases q : dn r n with
    | true =>
      rw [if_pos rfl, trimN_step q]
      exact down_trim k (n - 1) (by omega)
    | false =>
      rw [if_neg (by exact Bool.false_ne_true), trimN_stop q]
      exact down_stop k q
theorem down_succ {r : List Int} : ∀ (k n : Nat), down r (k + 1) n = if dn r (down r k n) = true then down r k n - 1 else down r k n
  | 0, n => rfl
  | k + 1, n => by
    rw [down, down_succ k]
    rfl
theorem down_le {r : List Int} : ∀ (k n : Nat), down r k n ≤ n
  | 0, n => Nat.le_refl _
  | k + 1, n => by
    rw [down_succ]
    have := down_le (r := r) k n
    split <;> omega
theorem down_pos {r : List Int} : ∀ (k n : Nat), 1 ≤ n → 1 ≤ down r k n
  | 0, n, h => h
  | k + 1, n, h => by
    rw [down_succ]
    have := down_pos (r := r) k n h
    split
    · rename_i q
      unfold dn at q
      rw [Bool.and_eq_true, decide_eq_true_eq] at q
      omega
    · exact this
theorem dn_ev {r : List Int} {n : Nat} (h : 1 ≤ n) : (decide ((1 : Int) < (n : Int)) && decide (gi r ((n : Int) - 1) = 0)) = dn r n := by
  unfold dn
  congr 1
  rw [Bool.eq_iff_iff]
  simp only [decide_eq_true_eq]
  omega
section
variable {K : PySem.W.Frag} (fc : Fc K)
theorem rd__law_trimmed : RdV K (t__law_trimmed K) 2 (fun r : List Int => r ≠ [] ∧ r.length ≤ 1000) (fun r => [.lst (zs r)]) (fun r => .own (.lst (zs (trim r)))) := by
  rintro r ⟨h0, h1⟩ B0 F R E fit
  have hpos : 1 ≤ r.length := List.length_pos_iff.mpr h0
  show To _ none [.va (.lst (zs r)), .un, .un] _
  refine sq_setS (ev_cbs (el_1 (ev_var rfl)) rc_leni) ?_
  refine sq_for (α := Unit) (fun k _ => [.va (.lst (zs r)), .va (.int (down r k r.length : Nat)), .un]) (fun _ _ => True) (a0 := ()) (ei_rng1 (el_1 (ev_cbs (el_1 (ev_var rfl)) rc_leni)) (by omega) (by omega)) trivial rfl ?_ ?_
  · intro B1 sb k _ hk _ N hN
    have hN := hN () trivial
    have p1 := down_pos (r := r) k r.length hpos
    have p2 := down_le (r := r) k r.length
    rw [down_succ] at hN
    refine to_ifS (b := dn r (down r k r.length)) ?_ (fun hc => ?_) fun hc => ?_
    · refine EvT.is (b := dn r (down r k r.length)) ?_ (dn_ev p1)
      (repeat' (first | (with_reducible exact ev_int) | (with_reducible exact ev_str) | (with_reducible exact ev_bl) | (with_reducible exact ev_non) | (with_reducible exact ev_ty) | ((with_reducible apply ev_var); exact rfl) | (with_reducible exact el_nil) | (with_reducible apply el_cons) | ((with_reducible apply ev_lenOi); exact rfl) | ((with_reducible apply ev_ixOiS); exact rfl) | (with_reducible apply ev_op) | (with_reducible exact rv_add) | (with_reducible exact rv_sub) | (with_reducible apply rv_mul) | (with_reducible apply rv_div) | (with_reducible apply rv_mod) | (with_reducible apply rv_pow) | (with_reducible exact rv_lt) | (with_reducible exact rv_le) | (with_reducible exact rv_gt) | (with_reducible exact rv_ge) | (with_reducible exact rv_eq) | (with_reducible exact rv_ne) | (with_reducible exact rv_eqS) | (with_reducible exact rv_eqB) | (with_reducible exact rv_neB) | (with_reducible exact rv_isN) | (with_reducible exact rv_notN) | (with_reducible exact rv_isB) | (with_reducible exact rv_notB) | (with_reducible apply rv_ixi) | (with_reducible apply rv_ixTi) | ((with_reducible apply rv_ixLT); exact rfl) | ((with_reducible apply rv_ixLL); exact rfl) | (with_reducible apply ev_cbs) | (with_reducible exact rc_int) | (with_reducible exact rc_intB) | (with_reducible exact rc_leni) | (with_reducible exact rc_lenTi) | (with_reducible exact rc_abs) | (with_reducible exact rc_max2) | (with_reducible exact rc_min2) | (with_reducible exact rc_all) | (with_reducible exact rc_any) | (with_reducible exact rc_sum) | (with_reducible exact rc_lenL) | (with_reducible exact rc_lenT) | (with_reducible apply et_test) | (with_reducible apply et_B) | (with_reducible apply et_not) | (with_reducible apply et_and) | (with_reducible apply et_or) | (with_reducible apply ev_andV) | (with_reducible apply ev_orV) | (with_reducible apply ev_notV) | (with_reducible apply ev_chain) | (with_reducible apply ev_neg) | (with_reducible apply ev_tups) | (with_reducible apply ev_lsts) | (with_reducible apply eo_lsts) | (with_reducible intro hc)))
      all_goals omega
    · rw [if_pos hc] at hN
      refine to_setS (d := .int ((down r k r.length - 1 : Nat) : Int)) (Ev.is (ev_op (ev_var rfl) ev_int rv_sub) ?_) (to_un 2 hN)
      congr 1
      omega
    · rw [if_neg (by rw [hc]; exact Bool.false_ne_true)] at hN
      exact to_next (to_un 2 hN)
  · intro _ _
    rw [show Int.toNat (r.length : Int) = r.length by omega, down_trim _ _ (Nat.le_refl _)]
    refine to_retO0 (EvO.is (eo_slL (ev_var rfl) ep_none (ep_some (ev_var rfl))) ?_) (fit _)
    rw [cut_take (by omega)]
    unfold trim
    rw [Int.toNat_natCast]
include fc
theorem rd_Mahler___init__ : RdP K (t_Mahler___init__ K) 1 (fun a : Int × List Int => IniOk a.1 a.2) (fun _ => .obj "Mahler" [] []) (fun a => [.int a.1, .lst (zs a.2)]) (fun a => mah a.1 (trim a.2)) (fun _ => .ret .non) := by
  rintro ⟨p, r⟩ h B0 F q R E fit
  simp only at h
  have hpos : 1 ≤ r.length := List.length_pos_iff.mpr h.n0
  have hlen := h.len
  show To _ (some q) [.ow (.obj "Mahler" [] []), .va (.int p), .va (.lst (zs r)), .un] _
  refine sq_drop (ev_cv (a := p) (el_1 (ev_var rfl)) rfl h.pr rfl) ?_
  refine sq_drop (ev_cv (a := (r, 1, 30)) (el_cons (ev_var rfl) (el_cons ev_int (el_1 ev_int))) rfl ⟨by simp only; omega, by simp only; omega⟩ rfl) ?_
  refine sq_drop (ev_cv (a := (r, -(10 ^ 30), 10 ^ 30)) (el_cons (ev_var rfl) (el_cons (ev_neg ev_int) (el_1 ev_int))) rfl ⟨by simp only; omega, h.e⟩ rfl) ?_
  refine sq_setS (ev_cbs (el_1 (ev_var rfl)) rc_leni) ?_
  refine sq_while (α := Nat) (fun k => [.ow (.obj "Mahler" [] []), .va (.int p), .va (.lst (zs r)), .va (.int (k : Nat))]) (fun k => 1 ≤ k ∧ k ≤ r.length ∧ trim.trimN r k = trim.trimN r r.length) (fun k => k) (fun k => dn r k) (a0 := r.length) ⟨hpos, Nat.le_refl _, rfl⟩ rfl ?_ ?_ ?_
  · intro k ⟨k1, k2, _⟩
    refine EvT.is ?_ (dn_ev k1)
    (repeat' (first | (with_reducible exact ev_int) | (with_reducible exact ev_str) | (with_reducible exact ev_bl) | (with_reducible exact ev_non) | (with_reducible exact ev_ty) | ((with_reducible apply ev_var); exact rfl) | (with_reducible exact el_nil) | (with_reducible apply el_cons) | ((with_reducible apply ev_lenOi); exact rfl) | ((with_reducible apply ev_ixOiS); exact rfl) | (with_reducible apply ev_op) | (with_reducible exact rv_add) | (with_reducible exact rv_sub) | (with_reducible apply rv_mul) | (with_reducible apply rv_div) | (with_reducible apply rv_mod) | (with_reducible apply rv_pow) | (with_reducible exact rv_lt) | (with_reducible exact rv_le) | (with_reducible exact rv_gt) | (with_reducible exact rv_ge) | (with_reducible exact rv_eq) | (with_reducible exact rv_ne) | (with_reducible exact rv_eqS) | (with_reducible exact rv_eqB) | (with_reducible exact rv_neB) | (with_reducible exact rv_isN) | (with_reducible exact rv_notN) | (with_reducible exact rv_isB) | (with_reducible exact rv_notB) | (with_reducible apply rv_ixi) | (with_reducible apply rv_ixTi) | ((with_reducible apply rv_ixLT); exact rfl) | ((with_reducible apply rv_ixLL); exact rfl) | (with_reducible apply ev_cbs) | (with_reducible exact rc_int) | (with_reducible exact rc_intB) | (with_reducible exact rc_leni) | (with_reducible exact rc_lenTi) | (with_reducible exact rc_abs) | (with_reducible exact rc_max2) | (with_reducible exact rc_min2) | (with_reducible exact rc_all) | (with_reducible exact rc_any) | (with_reducible exact rc_sum) | (with_reducible exact rc_lenL) | (with_reducible exact rc_lenT) | (with_reducible apply et_test) | (with_reducible apply et_B) | (with_reducible apply et_not) | (with_reducible apply et_and) | (with_reducible apply et_or) | (with_reducible apply ev_andV) | (with_reducible apply ev_orV) | (with_reducible apply ev_notV) | (with_reducible apply ev_chain) | (with_reducible apply ev_neg) | (with_reducible apply ev_tups) | (with_reducible apply ev_lsts) | (with_reducible apply eo_lsts) | (with_reducible intro hc)))
    all_goals omega
  · intro k ⟨k1, k2, k3⟩ hc N hN
    have hk : 1 < k := by
      unfold dn at hc
      rw [Bool.and_eq_true, decide_eq_true_eq] at hc
      exact hc.1
    refine to_setS (d := .int ((k - 1 : Nat) : Int)) (Ev.is (ev_op (ev_var rfl) ev_int rv_sub) ?_) (hN (k - 1) ⟨by omega, by omega, by rw [← trimN_step hc, k3]⟩ (by omega))
    congr 1
    omega
  · intro k ⟨k1, k2, k3⟩ hc
    rw [trimN_stop hc] at k3
    refine to_seq (to_fld (ev_var rfl) rfl fc.cls fc.np (by simp) (by simp) ?_)
    refine to_fld (d := .tup (zs (trim r))) (Ev.is (ev_tupL (EvO.ev (eo_slL (ev_var rfl) ep_none (ep_some (ev_var rfl))))) ?_) rfl fc.cls fc.nr (by decide) (by simp) ?_
    · rw [cut_take (by omega), Int.toNat_natCast, k3]
      rfl
    · exact fun σ B H S hp => fit _ rfl σ B H .non S hp .non
omit fc
end
end Z46
set_option maxHeartbeats 4000000
namespace Z46
open PySem PySem.Spec PyProof.Rows L2 Y
/-- what an error class must tell -/
structure Fx (K : PySem.W.Frag) (cx f : Str) : Prop where
  ei : ErrI K (He.ga K cx)
  xf : XfC K (He.ga K cx)
  no : PySem.W.findIn K (.ref (He.ga K cx)) f = some none
  ex : PySem.W.exmOne K (.ref (He.ga K cx)) (.ref (He.ga K "PrimedeepError")) = some true
  ve : PySem.W.kitOne K (.ref (He.ga K cx)) (.type "ValueError") = some true
  kit : ∀ C ∈ (["SizeError", "RangeError", "PrimeError", "DepthError", "ZeroError", "MixError", "BarError", "MonicError", "RepeatError", "FieldError", "EditError", "TextError", "HistoryError"] : List Str), PySem.W.kitOne K (.ref (He.ga K cx)) (.ref (He.ga K C)) = some (decide (C = cx))
section
variable {K : PySem.W.Frag}
theorem ev_flag {Γ : List Sl} {a : Addr} {d : Option Addr} {ns : List Str} {ds : List D} {cx f C : Str} {b : Bool} {i : Nat} (fx : Fx K cx f) (h : Γ[i]? = some (.va (.exc a d ns ds))) (hC : C ∈ (["SizeError", "RangeError", "PrimeError", "DepthError", "ZeroError", "MixError", "BarError", "MonicError", "RepeatError", "FieldError", "EditError", "TextError", "HistoryError"] : List Str)) (hb : decide (C = cx) = b) : Ev K (tCB (rIsX K (.ref (He.ga K cx)) d a) (tCons (tVar i) (tCons (tC (.ref (He.ga K C))) tNil))) Γ Γ (.bl b) :=
  ev_isX (ev_var h) exc_ref fx.ei (.inr ⟨_, rfl, rfl⟩) (by rw [fx.kit C hC, hb])
theorem ev_flagV {Γ : List Sl} {a : Addr} {d : Option Addr} {ns : List Str} {ds : List D} {cx f : Str} {i : Nat} (fx : Fx K cx f) (h : Γ[i]? = some (.va (.exc a d ns ds))) : Ev K (tCB (rIsX K (.ref (He.ga K cx)) d a) (tCons (tVar i) (tCons (tC (.ty "ValueError")) tNil))) Γ Γ (.bl true) :=
  ev_isX (ev_var h) exc_ref fx.ei (.inl ⟨rfl, rfl⟩) fx.ve
theorem look_bad {p : Int} {row : List Int} {s : Nat} {good : D} (h : (bndL p row ≠ [] ∧ 0 < maxL (bndL p row)) ∨ 2500 < p ^ (s + 1)) :
    (lookR p row s good = .exc "RangeError" ["number"] [.int (maxL (bndL p row))] ∧ refd p row s = .tup [.str "range", .int (maxL (bndL p row))]) ∨ (lookR p row s good = .exc "SizeError" ["count"] [.int (p ^ (s + 1))] ∧ refd p row s = .tup [.str "size", .int (p ^ (s + 1))]) := by
  unfold lookR refd
  by_cases q : bndL p row ≠ [] ∧ 0 < maxL (bndL p row)
  · rw [if_pos q, if_pos q]
    exact .inl ⟨rfl, rfl⟩
  · rw [if_neg q, if_neg q]
    have h := h.resolve_left q
    unfold looks
    rw [if_pos h]
    exact .inr ⟨rfl, rfl⟩
theorem look_bad2 {p : Int} {row : List Int} {s : Nat} (h : (bndL p row ≠ [] ∧ 0 < maxL (bndL p row)) ∨ 2500 < p ^ (s + 1)) :
    ((∀ good, lookR p row s good = .exc "RangeError" ["number"] [.int (maxL (bndL p row))]) ∧ refd p row s = .tup [.str "range", .int (maxL (bndL p row))]) ∨ ((∀ good, lookR p row s good = .exc "SizeError" ["count"] [.int (p ^ (s + 1))]) ∧ refd p row s = .tup [.str "size", .int (p ^ (s + 1))]) := by
  by_cases q : bndL p row ≠ [] ∧ 0 < maxL (bndL p row)
  · refine .inl ⟨fun good => if_pos q, if_pos q⟩
  · have h := h.resolve_left q
    refine .inr ⟨fun good => ?_, if_neg q⟩
    unfold lookR
    rw [if_neg q]
    exact if_pos h
section
variable (fs : Fx K "SizeError" "count") (fr : Fx K "RangeError" "number")
include fs fr
theorem rd__law_call : RdV K (t__law_call K) 2 (fun a : Str × LkA => (a.1 = "depth" ∨ a.1 = "meeting" ∨ a.1 = "shuffles") ∧ LookOk a.2.1 a.2.2.1 a.2.2.2 ∧ ((bndL a.2.1 a.2.2.1 ≠ [] ∧ 0 < maxL (bndL a.2.1 a.2.2.1)) ∨ 2500 < a.2.1 ^ (a.2.2.2 + 1))) (fun a => [.str a.1, mah a.2.1 a.2.2.1]) (fun a => .ret (refd a.2.1 a.2.2.1 a.2.2.2)) := by
  rintro ⟨w, p, row, s⟩ ⟨hw, h, hbad⟩ B0 F R E fit
  simp only at hw h hbad
  show To _ none [.va (.str w), .va (mah p row), .un, .un] _
  have body : ∀ {x : Str} {ns : List Str} {ds : List D}, (∀ good, lookR p row s good = .exc x ns ds) → ∀ (W : WX), Xw ⟨K, B0, F⟩ none [.va (.str w), .va (mah p row), .un, .un] x ns ds W → To ⟨K, B0, F⟩ none [.va (.str w), .va (mah p row), .un, .un] ((tSeq (tIfS (tTest (tOp rEq (tVar 0) (tC (.str "depth")))) (tRet (tTup (tCons (tC (.str "told")) (tCons (tCallS (sp_shuffle_depth K) (WE W) (tCons (tVar 1) tNil)) tNil)))) tNext) (tSeq (tIfS (tTest (tOp rEq (tVar 0) (tC (.str "meeting")))) (tRet (tTup (tCons (tC (.str "told")) (tCons (tCallS (sp_meeting K) (WE W) (tCons (tVar 1) tNil)) tNil)))) tNext) (tRet (tTup (tCons (tC (.str "told")) (tCons (tCallS (sp_shuffles K) (WE W) (tCons (tVar 1) tNil)) tNil)))))) (Fin R)) := by
    intro x ns ds e W xw
    refine sq_if (et_test (ev_op (ev_var rfl) ev_str rv_eqS)) (fun _ => ?_) fun _ => ?_
    · exact to_retX (ex_tup (ex_cons2 ev_str (ex_cons1 (ex_cv (a := (p, row, s)) (el_1 (ev_var rfl)) rfl h (e _))))) xw
    refine sq_if (et_test (ev_op (ev_var rfl) ev_str rv_eqS)) (fun _ => ?_) fun _ => ?_
    · exact to_retX (ex_tup (ex_cons2 ev_str (ex_cons1 (ex_cv (a := (p, row, s)) (el_1 (ev_var rfl)) rfl h (e _))))) xw
    · exact to_retX (ex_tup (ex_cons2 ev_str (ex_cons1 (ex_cv (a := (p, row, s)) (el_1 (ev_var rfl)) rfl h (e _))))) xw
  rcases look_bad2 hbad with ⟨e, er⟩ | ⟨e, er⟩
  · simp only [er] at fit
    refine to_tryX (body e) (xw_as fr.ex (.inl (by decide)) (fun _ _ => []) fun a dx => ?_)
    simp only [List.set]
    refine sq_setS (ev_lsts (el_cons (ev_flag fr rfl (by decide) rfl) (el_cons (ev_flag fr rfl (by decide) rfl) (el_1 (ev_flag fr rfl (by decide) rfl))))) ?_
    refine sq_setS (eo_cat (ev_var rfl) (ev_lsts (el_cons (ev_flag fr rfl (by decide) rfl) (el_cons (ev_flag fr rfl (by decide) rfl) (el_1 (ev_flag fr rfl (by decide) rfl))))) (by decide)).ev ?_
    refine sq_setS (eo_cat (ev_var rfl) (ev_lsts (el_cons (ev_flag fr rfl (by decide) rfl) (el_cons (ev_flag fr rfl (by decide) rfl) (el_1 (ev_flag fr rfl (by decide) rfl))))) (by decide)).ev ?_
    refine sq_setS (eo_cat (ev_var rfl) (ev_lsts (el_cons (ev_flag fr rfl (by decide) rfl) (el_cons (ev_flag fr rfl (by decide) rfl) (el_1 (ev_flag fr rfl (by decide) rfl))))) (by decide)).ev ?_
    refine sq_setS (eo_cat (ev_var rfl) (ev_lsts (el_1 (ev_flag fr rfl (by decide) rfl))) (by decide)).ev ?_
    refine sq_if (b := false) (et_or (b := false) (et_test (ev_op (ev_cntB (l := [false, true, false, false, false, false, false, false, false, false, false, false, false]) (ev_var rfl)) ev_int rv_ne)) fun _ => et_not (et_B (ev_flagV fr rfl))) (fun z => by cases z) fun _ => ?_
    refine sq_if (b := false) (et_B (ev_op (ev_var rfl) ev_int (rv_ixLL rfl))) (fun z => by cases z) fun _ => ?_
    refine sq_if (b := true) (et_B (ev_op (ev_var rfl) ev_int (rv_ixLL rfl))) (fun _ => ?_) fun z => by cases z
    refine to_ret (ev_tups (el_cons ev_str (el_1 (ev_cv (a := maxL (bndL p row)) (el_1 (ev_xfA fr.xf fr.no (ev_var rfl) rfl)) rfl trivial rfl)))) ?_
    exact fit _
  · simp only [er] at fit
    refine to_tryX (body e) (xw_as fs.ex (.inl (by decide)) (fun _ _ => []) fun a dx => ?_)
    simp only [List.set]
    refine sq_setS (ev_lsts (el_cons (ev_flag fs rfl (by decide) rfl) (el_cons (ev_flag fs rfl (by decide) rfl) (el_1 (ev_flag fs rfl (by decide) rfl))))) ?_
    refine sq_setS (eo_cat (ev_var rfl) (ev_lsts (el_cons (ev_flag fs rfl (by decide) rfl) (el_cons (ev_flag fs rfl (by decide) rfl) (el_1 (ev_flag fs rfl (by decide) rfl))))) (by decide)).ev ?_
    refine sq_setS (eo_cat (ev_var rfl) (ev_lsts (el_cons (ev_flag fs rfl (by decide) rfl) (el_cons (ev_flag fs rfl (by decide) rfl) (el_1 (ev_flag fs rfl (by decide) rfl))))) (by decide)).ev ?_
    refine sq_setS (eo_cat (ev_var rfl) (ev_lsts (el_cons (ev_flag fs rfl (by decide) rfl) (el_cons (ev_flag fs rfl (by decide) rfl) (el_1 (ev_flag fs rfl (by decide) rfl))))) (by decide)).ev ?_
    refine sq_setS (eo_cat (ev_var rfl) (ev_lsts (el_1 (ev_flag fs rfl (by decide) rfl))) (by decide)).ev ?_
    refine sq_if (b := false) (et_or (b := false) (et_test (ev_op (ev_cntB (l := [true, false, false, false, false, false, false, false, false, false, false, false, false]) (ev_var rfl)) ev_int rv_ne)) fun _ => et_not (et_B (ev_flagV fs rfl))) (fun z => by cases z) fun _ => ?_
    refine sq_if (b := true) (et_B (ev_op (ev_var rfl) ev_int (rv_ixLL rfl))) (fun _ => ?_) fun z => by cases z
    refine to_ret (ev_tups (el_cons ev_str (el_1 (ev_cv (a := p ^ (s + 1)) (el_1 (ev_xfA fs.xf fs.no (ev_var rfl) rfl)) rfl trivial rfl)))) ?_
    exact fit _
end
end
end Z46
set_option maxHeartbeats 4000000
namespace Z46
open PySem PySem.Spec PyProof.Rows L2 Y
theorem meetD_cases (l : List Int) : meetD l = .non ∨ ∃ m : List Int, m.length = 2 ∧ meetD l = .tup (zs m) := by
  unfold meetD
  split
  · exact .inl rfl
  · exact .inr ⟨[_, _], rfl, rfl⟩
theorem look_ret {p : Int} {row : List Int} {s : Nat} {good : D} (h1 : p ^ (s + 1) ≤ 2500) (h2 : bndL p row = [] ∨ maxL (bndL p row) ≤ 0) : lookR p row s good = .ret good := by
  unfold lookR
  rw [if_neg (fun z => by rcases h2 with h2 | h2; exact z.1 h2; omega)]
  exact if_neg (by omega)
section
variable {K : PySem.W.Frag} (fc : Fc K)
include fc
theorem rd_MahlerT : RdP K (t_Mahler___init__T K) 1 (fun a : Int × Int => IniOk a.1 [a.2]) (fun _ => .obj "Mahler" [] []) (fun a => [.int a.1, .tup (zs [a.2])]) (fun a => mah a.1 [a.2]) (fun _ => .ret .non) := by
  rintro ⟨p, r⟩ h B0 F q R E fit
  simp only at h
  show To _ (some q) [.ow (.obj "Mahler" [] []), .va (.int p), .va (.tup (zs [r])), .un] _
  refine sq_drop (ev_cv (a := p) (el_1 (ev_var rfl)) rfl h.pr rfl) ?_
  refine sq_drop (ev_cv (a := ([r], 1, 30)) (el_cons (ev_var rfl) (el_cons ev_int (el_1 ev_int))) rfl ⟨by simp, by simp⟩ rfl) ?_
  refine sq_drop (ev_cv (a := ([r], -(10 ^ 30), 10 ^ 30)) (el_cons (ev_var rfl) (el_cons (ev_neg ev_int) (el_1 ev_int))) rfl ⟨by simp, h.e⟩ rfl) ?_
  refine sq_setS (ev_cbs (el_1 (ev_var rfl)) rc_lenTi) ?_
  refine sq_while (α := Unit) (fun _ => [.ow (.obj "Mahler" [] []), .va (.int p), .va (.tup (zs [r])), .va (.int 1)]) (fun _ => True) (fun _ => 0) (fun _ => false) (a0 := ()) trivial rfl ?_ ?_ ?_
  · intro _ _
    refine EvT.is (b := false) (et_and (b := false) (et_test (ev_op (ev_var rfl) ev_int rv_gt)) (fun z => by cases z)) rfl
  · intro _ _ z
    cases z
  · intro _ _ _
    refine to_seq (to_fld (ev_var rfl) rfl fc.cls fc.np (by simp) (by simp) ?_)
    refine to_fld (d := .tup (zs [r])) (Ev.is (ev_tupT (ev_slT (ev_var rfl) ep_none (ep_some (ev_var rfl)))) ?_) rfl fc.cls fc.nr (by decide) (by simp) ?_
    · rw [cut_take (by decide)]
      rfl
    · exact fun σ B H S hp => fit _ rfl σ B H .non S hp .non
omit fc
theorem trimN_last {r : List Int} {n : Nat} (h : gi r ((n : Int) - 1) ≠ 0) : trim.trimN r n = n := trimN_stop (by unfold dn; simp [h])
theorem wide_len {a b : Int} {n : Nat} : (wide a b n).length = n + 2 := by
  unfold wide
  simp
theorem trim_wide {a b : Int} {n : Nat} (h : a ≠ 0) : trim (wide a b n) = wide a b n := by
  unfold trim
  rw [trimN_last, List.take_length]
  rw [wide_len]
  have e : ((n + 2 : Nat) : Int) - 1 = ((n + 1 : Nat) : Int) := by omega
  rw [e]
  unfold gi wide
  rw [Int.toNat_natCast, List.getD_eq_getElem?_getD, List.getElem?_append_right (by simp)]
  simp [h]
theorem rd__law_wide_first : RdV K (t__law_wide_first K) 2 (fun a : Int × Nat × Int × Int => IniOk a.1 (wide a.2.2.1 a.2.2.2 (a.2.1 - 1)) ∧ 1 ≤ a.2.1 ∧ a.2.2.1 ≠ 0) (fun a => [.int a.1, .int a.2.1, .int a.2.2.1, .int a.2.2.2]) (fun a => .own (mah a.1 (wide a.2.2.1 a.2.2.2 (a.2.1 - 1)))) := by
  rintro ⟨p, at_, part, rest⟩ ⟨h, h1, h2⟩ B0 F R E fit
  simp only at h h1 h2
  show To _ none [.va (.int p), .va (.int at_), .va (.int part), .va (.int rest), .un, .un] _
  have hlen := h.len
  rw [wide_len] at hlen
  refine sq_set (d := .lst (zs (wide part rest (at_ - 1)))) (EvO.ev (EvO.is (eo_cat (EvO.ev (eo_cat (ev_lsts (el_1 (ev_var rfl))) (EvO.ev (eo_lc1 (fun _ => .int 0) (ei_rng1 (el_1 (ev_op (ev_var rfl) ev_int rv_sub)) (by omega) (by omega)) (by omega) fun i hi => ev_int)) (by simp; omega))) (ev_lsts (el_1 (ev_var rfl))) (by simp; omega)) ?_)) ?_
  · unfold wide
    rw [show Int.toNat ((at_ : Int) - 1) = at_ - 1 by omega]
    simp [zs, List.map_const']
  · refine to_retO0 (d := mah p (wide part rest (at_ - 1))) (EvO.is (eo_make (cx := "Mahler") (a := (p, wide part rest (at_ - 1))) (el_cons (ev_var rfl) (el_1 (ev_var rfl))) h rfl rfl rfl) ?_) (fit _)
    rw [trim_wide h2]
include fc
theorem rd__law_same : RdV K (t__law_same K) 1 (fun a : LkA × D => LookOk a.1.1 a.1.2.1 a.1.2.2 ∧ a.1.2.2 ≤ 6 ∧ a.1.1 ^ (a.1.2.2 + 1) ≤ 2500 ∧ (bndL a.1.1 a.1.2.1 = [] ∨ maxL (bndL a.1.1 a.1.2.1) ≤ 0) ∧ a.2 = meetG a.1) (fun a => [mah a.1.1 a.1.2.1, .int a.1.1, .lst (zs a.1.2.1), a.2]) (fun _ => .ret (.bl true)) := by
  rintro ⟨⟨p, row, s⟩, due⟩ ⟨h, hs, hp, hb, hd⟩ B0 F R E fit
  simp only at h hs hp hb hd
  subst hd
  have L : ∀ good, lookR p row s good = .ret good := fun good => look_ret hp hb
  show To _ none [.va (mah p row), .va (.int p), .va (.lst (zs row)), .va (meetG (p, row, s)), .un] _
  refine sq_setS (ev_cv (a := (p, row, s)) (el_1 (ev_var rfl)) rfl h (L _)) ?_
  have hlen := h.len
  have last : ∀ x, To ⟨K, B0, F⟩ none [.va (mah p row), .va (.int p), .va (.lst (zs row)), .va x, .va x] ((tRet (tAndV (tCallS (sp__law_is K) (fun _ => E0) (tCons (tCallS (sp_shuffle_depth K) (WE (WD E)) (tCons (tVar 0) tNil)) (tCons (tCallS (sp__law_steps K) (fun _ => E0) (tCons (tVar 1) (tCons (tVar 2) tNil))) tNil))) (tCallS (sp__law_alike K) (fun _ => E0) (tCons (tFld K (tVar 0) "row") (tCons (tCB (rTupQ K) (tCons (tVar 2) tNil)) tNil))))) (Fin R)) := by
    intro x
    refine to_ret (Ev.is (ev_andV (ev_cv (a := ((s + 1 : Nat), (s + 1 : Nat))) (el_cons (ev_cv (a := (p, row, s)) (el_1 (ev_var rfl)) rfl h (L _)) (el_1 (ev_cv (a := (p, row, s)) (el_cons (ev_var rfl) (el_1 (ev_var rfl))) rfl ⟨h, hs⟩ rfl))) rfl trivial rfl) fun _ => ev_cv (a := (row, row)) (el_cons (ev_fr fc (ev_var rfl)) (el_1 (ev_tupL (ev_var rfl)))) rfl ⟨by simp only; omega, by simp only; omega⟩ rfl) ?_) (fit _)
    simp
  rcases meetD_cases (resid row (p ^ (s + 1)).toNat) with e | ⟨m, hm, e⟩
  · have e : meetG (p, row, s) = .non := e
    have L2 : lookR p row s (.bl (isN (meetG (p, row, s)))) = .ret (.bl true) := by rw [L, e]; rfl
    rw [e]
    simp only [List.set]
    refine sq_if (b := false) (et_and (a := true) (b := false) (EvT.is (et_test (ev_op (ev_var rfl) ev_non rv_isN)) rfl) fun _ => et_or (a := false) (b := false) (EvT.is (et_test (ev_op (ev_var rfl) ev_non rv_notN)) rfl) fun _ => et_test (ev_op (ev_cv (a := (p, row, s)) (el_1 (ev_var rfl)) rfl h L2) ev_bl rv_notB)) (fun z => by cases z) fun _ => ?_
    refine sq_if (b := false) (et_and (a := false) (b := false) (EvT.is (et_test (ev_op (ev_var rfl) ev_non rv_notN)) rfl) fun z => by cases z) (fun z => by cases z) fun _ => ?_
    exact last _
  · have e : meetG (p, row, s) = .tup (zs m) := e
    have L2 : lookR p row s (.bl (isN (meetG (p, row, s)))) = .ret (.bl false) := by rw [L, e]; rfl
    rw [e]
    simp only [List.set]
    refine sq_if (b := false) (et_and (a := false) (b := false) (EvT.is (et_test (ev_op (ev_var rfl) ev_non rv_isN)) rfl) fun z => by cases z) (fun z => by cases z) fun _ => ?_
    refine sq_if (b := false) (EvT.is (et_and (a := true) (b := false) (EvT.is (et_test (ev_op (ev_var rfl) ev_non rv_notN)) rfl) fun _ => EvT.is (et_or (b := false) (et_not (et_B (ev_cv (a := (m, m)) (el_cons (ev_var rfl) (el_1 (ev_var rfl))) rfl ⟨by simp only; omega, by simp only; omega⟩ rfl))) fun _ => et_test (ev_op (ev_cv (a := (p, row, s)) (el_1 (ev_var rfl)) rfl h L2) ev_bl rv_notB)) (by simp)) (by simp)) (fun z => by cases z) fun _ => ?_
    exact last _
end
end Z46
set_option maxHeartbeats 4000000
namespace Z46
open PySem PySem.Spec PyProof.Rows L2 Y
theorem dr_ne {l : List Int} {b q : Int} (h : l ≠ []) : (dr l b q).2 ≠ [] := fun z => by
  have := dr_len (l := l) (b := b) (q := q)
  rw [z] at this
  exact h (List.length_eq_zero_iff.mp this.symm)
theorem mul_to {a b A B : Int} (h0 : 0 ≤ a) (h1 : a ≤ A) (h2 : 0 ≤ b) (h3 : b ≤ B) : 0 ≤ a * b ∧ a * b ≤ A * B := ⟨Int.mul_nonneg h0 h2, Int.mul_le_mul h1 h3 h2 (by omega)⟩
theorem gi_append {l : List Int} {x : Int} {i : Nat} : gi (l ++ [x]) i = if i < l.length then gi l i else if i = l.length then x else 0 := by
  unfold gi
  rw [Int.toNat_natCast, List.getD_eq_getElem?_getD]
  by_cases h : i < l.length
  · rw [if_pos h, List.getElem?_append_left h, List.getD_eq_getElem?_getD]
  · rw [if_neg h, List.getElem?_append_right (by omega)]
    by_cases h2 : i = l.length
    · rw [if_pos h2, h2, Nat.sub_self]
      rfl
    · rw [if_neg h2, List.getElem?_eq_none (by simp; omega)]
      rfl
section
variable {K : PySem.W.Frag}
theorem ev_draw {Γ : List Sl} {tr : TA} {W : L2.St → XK} {l : List Int} {b q : Int} {i : Nat} (h0 : Γ[i]? = some (.ow (.lst (zs l)))) (h : EvL K tr Γ Γ [.int b, .int q]) (hl : l ≠ []) (hb : 0 < b) (hb2 : b < 2 ^ 200) : Ev K (tCallS (sp__law_draw K) W (tCons (tVar i) tr)) Γ (Γ.set i (.ow (.lst (zs (dr l b q).2)))) (.int (dr l b q).1) :=
  ev_cp (a := (l, b, q)) h0 h h0 rfl ⟨hl, hb, hb2⟩ rfl
theorem rd__law_entries : RdPR K (t__law_entries K) 7 (fun a : List Int × Int × Nat × Bool => a.1 ≠ [] ∧ 2 ≤ a.2.1 ∧ a.2.1 ≤ 47 ∧ 1 ≤ a.2.2.1 ∧ a.2.2.1 ≤ 30) (fun a => .lst (zs a.1)) (fun a => [.int a.2.1, .int a.2.2.1, .bl a.2.2.2]) (fun a (r : List Int × List Int) => r.1 ≠ [] ∧ EntOk a.2.1 a.2.2.1 r.2) (fun _ r => .lst (zs r.1)) (fun _ r => .own (.lst (zs r.2))) := by
  rintro ⟨l, p, n, great⟩ ⟨h0, p2, p3, n1, n2⟩ B0 F q R E fit
  simp only at h0 p2 p3 n1 n2
  show To _ (some q) [.ow (.lst (zs l)), .va (.int p), .va (.int n), .va (.bl great), .un, .un, .un, .un, .un, .un, .un] _
  refine sq_set (ev_draw (i := 0) rfl (el_cons ev_int (el_1 ev_int)) h0 (by decide) (by decide)) ?_
  have h1 := dr_ne (b := 4) (q := 0) h0
  generalize dr l 4 0 = z0 at *
  obtain ⟨kind, l1⟩ := z0
  simp only [List.set] at h1 ⊢
  refine sq_setS ev_int ?_
  refine sq_cut [.ow (.lst (zs l1)), .va (.int p), .va (.int n), .va (.bl great), .va (.int kind), .va (.int (if great then 10 ^ 20 else 3)), .un, .un, .un, .un, .un] ?_ ?_
  · intro N hN
    refine to_ifS (et_B (ev_var rfl)) (fun hc => ?_) fun hc => ?_
    · rw [hc, if_pos rfl] at hN
      refine to_setS (Ev.is (ev_op ev_int ev_int (rv_pow ⟨by decide, by decide, by decide⟩)) rfl) ?_
      rw [hc]
      exact hN
    · rw [hc, if_neg (by decide)] at hN
      refine to_next ?_
      rw [hc]
      exact hN
  have t1 : (3 : Int) ≤ (if great = true then 10 ^ 20 else 3) := by split <;> decide
  have t2 : (if great = true then (10 : Int) ^ 20 else 3) ≤ 10 ^ 20 := by split <;> decide
  generalize (if great = true then (10 : Int) ^ 20 else 3) = top at *
  refine sq_setO (EvO.is (eo_lsts (el_1 (ev_op (ev_draw (i := 0) rfl (el_cons ev_int (el_1 ev_int)) h1 (by decide) (by decide)) ev_int rv_sub))) (y := .lst (zs [(dr l1 19 4).1 - 9])) rfl) ?_
  have h2 := dr_ne (b := 19) (q := 4) h1
  have d1 := dr_lo (l := l1) (b := 19) (q := 4) (by decide)
  have d2 := dr_hi (l := l1) (b := 19) (q := 4) (by decide)
  generalize dr l1 19 4 = z0 at *
  obtain ⟨v, l2⟩ := z0
  simp only [List.set] at h2 d1 d2 ⊢
  refine sq_for (α := List Int × List Int) (fun k a => [.ow (.lst (zs a.1)), .va (.int p), .va (.int n), .va (.bl great), .va (.int kind), .va (.int top), .ow (.lst (zs a.2)), .un, .un, .un, .un]) (fun k a => a.1 ≠ [] ∧ EntOk p (k + 1) a.2) (a0 := (l2, [v - 9])) (ei_rng2 (el_cons ev_int (el_1 (ev_var rfl))) (by omega) (by omega)) ⟨h2, rfl, ?_, ?_⟩ rfl ?_ ?_
  · intro x hx
    rw [List.mem_singleton] at hx
    omega
  · intro i i1 i2
    omega
  · intro B1 sb k ⟨lk, row⟩ hk ⟨hl, he⟩ N hN
    simp only at hl he
    have hk : 1 + k < n := by omega
    have hlen := he.len
    have lev := lvl_ok (p := p) (i := 1 + k) p2 (by omega) (by omega)
    have hlo : p ^ lvl p.toNat (1 + k) ≤ 30 := by
      rcases lev.lo with z | z
      · rw [z, Int.pow_zero]
        decide
      · omega
    have hpos : 0 < p ^ lvl p.toNat (1 + k) := Int.pow_pos (by omega)
    have l12 := lev.l6
    have l9 : lvl p.toNat (1 + k) ≤ 6 := by
      rcases lev.lo with z | z
      · omega
      · by_cases q : lvl p.toNat (1 + k) ≤ 6
        · exact q
        · have h1 : (2 : Int) ^ 7 ≤ p ^ 7 := ipow_mono (by decide) p2 7
          have h2 : p ^ 7 ≤ p ^ lvl p.toNat (1 + k) := ipow_le (by omega) (by omega)
          omega
    refine sq_setS (d := .int (p ^ lvl p.toNat (1 + k))) (ev_cv (a := (p, lvl p.toNat (1 + k))) (el_cons (ev_var rfl) (el_1 (ev_cv (a := (p, 1 + (k : Int), lvl p.toNat (1 + k))) (el_cons (ev_var rfl) (el_1 (ev_var rfl))) rfl ⟨by simpa using lev, l9⟩ rfl))) rfl ⟨by simp only; omega, by simp only; omega, by simp only; omega⟩ rfl) ?_
    generalize hS : p ^ lvl p.toNat (1 + k) = S at *
    have c1 : CMulW 2 (dr lk 2 (1 + (k : Int))).1 := sm_mul (sm_of (by decide) (by decide)) (sm_of (by have := dr_lo (l := lk) (b := 2) (q := 1 + (k : Int)) (by decide); omega) (by have := dr_hi (l := lk) (b := 2) (q := 1 + (k : Int)) (by decide); omega))
    refine sq_set (ev_op ev_int (ev_op ev_int (ev_draw (i := 0) rfl (el_cons ev_int (el_1 (ev_var rfl))) hl (by decide) (by decide)) (rv_mul c1)) rv_sub) ?_
    have s1 := dr_lo (l := lk) (b := 2) (q := 1 + (k : Int)) (by decide)
    have s2 := dr_hi (l := lk) (b := 2) (q := 1 + (k : Int)) (by decide)
    have hl1 := dr_ne (b := 2) (q := 1 + (k : Int)) hl
    clear c1
    generalize dr lk 2 (1 + (k : Int)) = z0 at *
    obtain ⟨sg, lk1⟩ := z0
    simp only [List.set] at s1 s2 hl1 ⊢
    refine sq_set (ev_draw (i := 0) rfl (el_cons (ev_var rfl) (el_1 (ev_op ev_int (ev_var rfl) (rv_mul (sm_mul (sm_of (by decide) (by decide)) (sm_of (by omega) (by omega))))))) hl1 (by omega) (by omega)) ?_
    have q1 := dr_lo (l := lk1) (b := p) (q := 2 * (1 + (k : Int))) (by omega)
    have q2 := dr_hi (l := lk1) (b := p) (q := 2 * (1 + (k : Int))) (by omega)
    have hl2 := dr_ne (b := p) (q := 2 * (1 + (k : Int))) hl1
    generalize dr lk1 p (2 * (1 + (k : Int))) = z0 at *
    obtain ⟨pa, lk2⟩ := z0
    simp only [List.set] at q1 q2 hl2 ⊢
    -- the first part, not 0 by choice
    suffices hh : ∀ pa : Int, 0 ≤ pa → pa < p → To (Amb.at ⟨K, B0, F⟩ B1) (some q) [.ow (.lst (zs lk2)), .va (.int p), .va (.int n), .va (.bl great), .va (.int kind), .va (.int top), .ow (.lst (zs row)), .va (.int (1 + (k : Int))), .va (.int S), .va (.int (1 - 2 * sg)), .va (.int pa)] ((tSeq (tAsg (tOp rAddI (tVar 10) (tOp rMulI (tVar 1) (tCallS (sp__law_draw K) (fun _ => E0) (tCons (tVar 0) (tCons (tVar 5) (tCons (tVar 7) tNil)))))) (gName 10)) (tSeq (tIfS (tAnd (tTest (tOp rEq (tVar 4) (tC (.int 0)))) (tTest (tOp rGtI (tVar 7) (tC (.int 1))))) (tAsg (tOp rMulI (tVar 1) (tVar 10)) (gName 10)) tNext) (tDrop (tBM K "list" rAppend (tVar 6) (tCons (tOp rMulI (tOp rMulI (tVar 9) (tVar 8)) (tVar 10)) tNil))))) { nx := N, rt := R, bk := tRet (tVar 6) (Fin R), ct := N }) by
      refine to_seq (to_if (et_and (et_test (ev_op (ev_var rfl) ev_int rv_eq)) fun _ => et_test (ev_op (ev_var rfl) ev_int rv_eq)) (fun _ => ?_) fun _ => to_next (hh pa q1 q2))
      have m1 := Int.emod_nonneg pa (show p - 1 ≠ 0 by omega)
      have m2 := Int.emod_lt_of_pos pa (show 0 < p - 1 by omega)
      exact to_setS (ev_op ev_int (ev_op (ev_cbs (el_1 (ev_var rfl)) rc_int) (ev_op (ev_var rfl) ev_int rv_sub) (rv_mod (by omega))) rv_add) (hh (1 + pa % (p - 1)) (by omega) (by omega))
    clear q1 q2 pa
    intro pa q1 q2
    have e1 := dr_lo (l := lk2) (b := top) (q := 1 + (k : Int)) (by omega)
    have e2 := dr_hi (l := lk2) (b := top) (q := 1 + (k : Int)) (by omega)
    have hl3 := dr_ne (b := top) (q := 1 + (k : Int)) hl2
    have pm := mul_to (a := p) (A := 47) (b := (dr lk2 top (1 + (k : Int))).1) (B := 10 ^ 20) (by omega) (by omega) e1 (by omega)
    refine sq_set (ev_op (ev_var rfl) (ev_op (ev_var rfl) (ev_draw (i := 0) rfl (el_cons (ev_var rfl) (el_1 (ev_var rfl))) hl2 (by omega) (by omega)) (rv_mul (sm_mul (sm_of (by omega) (by omega)) (sm_of (by omega) (by omega))))) rv_add) ?_
    generalize dr lk2 top (1 + (k : Int)) = z0 at *
    obtain ⟨dd, lk3⟩ := z0
    simp only [List.set] at e1 e2 hl3 pm ⊢
    generalize hP : pa + p * dd = P0 at *
    have P1 : 0 ≤ P0 := by omega
    have P2 : P0 ≤ 48 * 10 ^ 20 := by omega
    suffices hh : ∀ P : Int, 0 ≤ P → P ≤ 10 ^ 25 → To (Amb.at ⟨K, B0, F⟩ B1) (some q) [.ow (.lst (zs lk3)), .va (.int p), .va (.int n), .va (.bl great), .va (.int kind), .va (.int top), .ow (.lst (zs row)), .va (.int (1 + (k : Int))), .va (.int S), .va (.int (1 - 2 * sg)), .va (.int P)] (tDrop (tBM K "list" rAppend (tVar 6) (tCons (tOp rMulI (tOp rMulI (tVar 9) (tVar 8)) (tVar 10)) tNil)) { nx := N, rt := R, bk := tRet (tVar 6) (Fin R), ct := N }) by
      have pm2 := mul_to (a := p) (A := 47) (b := P0) (B := 48 * 10 ^ 20) (by omega) (by omega) P1 P2
      refine to_seq (to_if (et_and (et_test (ev_op (ev_var rfl) ev_int rv_eq)) fun _ => et_test (ev_op (ev_var rfl) ev_int rv_gt)) (fun _ => ?_) fun _ => to_next (hh P0 P1 (by omega)))
      exact to_setS (ev_op (ev_var rfl) (ev_var rfl) (rv_mul (sm_mul (sm_of (by omega) (by omega)) (sm_of (by omega) (by omega))))) (hh (p * P0) pm2.1 (by omega))
    intro P u1 u2
    have sgn : sg = 0 ∨ sg = 1 := by omega
    have m1 : (1 - 2 * sg) * S ≤ 30 ∧ -30 ≤ (1 - 2 * sg) * S := by
      rcases sgn with rfl | rfl <;> omega
    have pm3 := mul_to (a := S) (A := 30) (b := P) (B := 10 ^ 25) (by omega) (by omega) u1 u2
    have m2 : (1 - 2 * sg) * S * P ≤ 10 ^ 30 ∧ -(10 ^ 30) ≤ (1 - 2 * sg) * S * P := by
      rcases sgn with rfl | rfl
      · rw [show (1 - 2 * 0 : Int) * S = S by omega]
        omega
      · rw [show (1 - 2 * 1 : Int) * S = -S by omega, Int.neg_mul]
        omega
    refine ap_end (i := 6) rfl (ev_op (ev_op (ev_var rfl) (ev_var rfl) (rv_mul (sm_mul (sm_of (by omega) (by omega)) (sm_of (by omega) (by omega))))) (ev_var rfl) (rv_mul (sm_mul (sm_of (by omega) (by omega)) (sm_of (by omega) (by omega))))) (by simp; omega) ?_
    refine to_un 7 (to_un 8 (to_un 9 (to_un 10 ?_)))
    have fin := hN (lk3, row ++ [(1 - 2 * sg) * S * P]) ⟨hl3, ?_, ?_, ?_⟩
    · simp only [zs, List.map_append, List.map_cons, List.map_nil] at fin
      exact fin
    · simp only [List.length_append, hlen]
      rfl
    · intro x hx
      rcases List.mem_append.mp hx with hx | hx
      · exact he.e x hx
      · rw [List.mem_singleton] at hx
        subst hx
        omega
    · intro i i1 i2
      rw [gi_append]
      by_cases qi : i < k + 1
      · rw [if_pos (by omega)]
        exact he.d i i1 qi
      · rw [if_neg (by omega), if_pos (by omega)]
        have ei : i = 1 + k := by omega
        subst ei
        rw [hS, Int.mul_assoc, Int.mul_left_comm]
        exact Int.dvd_mul_right _ _
  · intro ⟨lk, row⟩ ⟨hl, he⟩
    simp only at hl he
    rw [show ((n : Int) - 1).toNat + 1 = n by omega] at he
    exact to_retOwn (i := 6) rfl (fit (lk, row) ⟨hl, he⟩ _ rfl) (fun _ _ => ⟨by decide, _, rfl⟩)
end
end Z46
set_option maxHeartbeats 4000000
namespace Z46
open PySem PySem.Spec PyProof.Rows L2 Y
/-! ### rows of two entries and zeros -/
theorem gi_wide_0 {a b : Int} {n i : Nat} (h : i < n) : gi (wide a b n) (1 + (i : Int)) = 0 := by
  unfold gi wide
  rw [show (1 + (i : Int)).toNat = i + 1 by omega, List.getD_eq_getElem?_getD, List.getElem?_append_left (by simp; omega)]
  simp [List.getElem?_replicate, h]
theorem gi_wide_n {a b : Int} {n : Nat} : gi (wide a b n) (1 + (n : Int)) = a := by
  unfold gi wide
  rw [show (1 + (n : Int)).toNat = n + 1 by omega, List.getD_eq_getElem?_getD, List.getElem?_append_right (by simp)]
  simp
theorem bndL_wide {p a b : Int} {n : Nat} (h : a ≠ 0) : bndL p (wide a b n) = [(lvl p.toNat (1 + n) : Int) - (dep p a : Int)] := by
  unfold bndL
  rw [wide_len, show (((n + 2 : Nat) : Int) - 1).toNat = n + 1 by omega, List.range_succ, List.filter_append]
  have e : (List.range n).filter (fun (i : Nat) => !decide (gi (wide a b n) (1 + (i : Int)) = 0)) = [] := by
    rw [List.filter_eq_nil_iff]
    intro i hi
    rw [gi_wide_0 (List.mem_range.mp hi)]
    simp
  rw [e]
  simp [gi_wide_n, h]
theorem dep_unit {p a : Int} (h : a % p ≠ 0) : dep p a = 0 := by
  unfold dep
  cases a.natAbs with
  | zero => rfl
  | succ k =>
    unfold depF
    rw [if_neg h]
theorem dep_self {p : Int} (h : 2 ≤ p) : dep p p = 1 := by
  unfold dep
  obtain ⟨k, hk⟩ : ∃ k, p.natAbs = k + 2 := ⟨p.natAbs - 2, by omega⟩
  rw [hk]
  unfold depF
  rw [if_pos (Int.emod_self), Int.ediv_self (by omega)]
  unfold depF
  rw [if_neg (by rw [Int.emod_eq_of_lt (by decide) (by omega)]; decide)]
theorem look_of {p : Int} {row : List Int} {n : Nat} (hp : 2 ≤ p) (hp3 : p < 1000) (hlen : row.length = n + 2) (hn : n < 900) : LookOk p row (lvl p.toNat (1 + n) + 1) := by
  have h := lvl_ok (p := p) (i := 1 + n) hp hp3 (by omega)
  refine ⟨hp, hp3, by omega, (fun z => by rw [z] at hlen; cases hlen), ?_, .inr ?_⟩
  · have := h.hi
    omega
  · rw [Nat.add_sub_cancel]
    rcases h.lo with z | z
    · rw [z, Int.pow_zero]
      omega
    · omega
theorem look_of1 {p a : Int} (hp : 2 ≤ p) (hp3 : p < 1000) : LookOk p [a] 0 := ⟨hp, hp3, by simp, by simp, by simp, .inl rfl⟩
theorem ini_wide {p a b : Int} {n : Nat} (hp : p ∈ primes) (hn : n ≤ 28) (ha : -(10 ^ 30) ≤ a ∧ a ≤ 10 ^ 30) (hb : -(10 ^ 30) ≤ b ∧ b ≤ 10 ^ 30) : IniOk p (wide a b n) := by
  refine ⟨?_, fun z => ?_, ?_, fun x hx => ?_⟩
  · have e : inD (.int p) (zs primes) = decide (p ∈ primes) := inD_ints
    rw [decide_eq_true hp] at e
    exact e
  · have := wide_len (a := a) (b := b) (n := n)
    rw [z] at this
    cases this
  · rw [wide_len]
    omega
  · unfold wide at hx
    simp at hx
    rcases hx with rfl | ⟨_, rfl⟩ | rfl
    · exact hb
    · exact ⟨by decide, by decide⟩
    · exact ha
theorem ev_const {a : Int} : ∀ x, ev [a] x = a
  | 0 => rfl
  | x + 1 => by
    show ev [a] x + ev [] x = a
    rw [ev_const x, ev_nil]
    omega
theorem meet_const {q a : Int} (h : 2 ≤ q) : meetG (q, [a], 0) = .tup [.int 0, .int 1] := by
  show meetD (resid [a] (q ^ (0 + 1)).toNat) = _
  rw [Nat.zero_add, Int.pow_succ, Int.pow_zero, Int.one_mul]
  have e : resid [a] q.toNat = List.replicate q.toNat (a % (q.toNat : Int)) := by
    unfold resid
    simp only [ev_const]
    simp [List.map_const']
  rw [e]
  obtain ⟨k, hk⟩ : ∃ k, q.toNat = k + 2 := ⟨q.toNat - 2, by omega⟩
  rw [hk]
  generalize a % ((k + 2 : Nat) : Int) = v
  have g : ∀ j : Nat, j < k + 2 → gi (List.replicate (k + 2) v) j = v := fun j hj => by
    unfold gi
    simp [hj]
  have hm := meet_some (l := List.replicate (k + 2) v) (y := 1) (by simp) (fun j hj => by
    have : j = 0 := by omega
    subst this
    simp) (by
    rw [g 1 (by omega)]
    simp [List.replicate_succ])
  rw [hm, g 1 (by omega)]
  simp [List.replicate_succ]
theorem eqv_tag {s : Str} {n : Int} : PyData.eqv (pd (.tup [.str s, .int n])) (pd (.tup [.str s, .int n])) = true := by
  simp [pd, pds, PyData.eqv, PyData.eqvAll]
theorem shape_tag {s : Str} {n : Int} (h : PyData.canLay0 (.str s) = true) : SeqAt.shaped (pd (.tup [.str s, .int n])) = true := by
  have e : pd (.tup [.str s, .int n]) = .tuple [.str s, .int n] := by simp [pd, pds]
  rw [e]
  unfold SeqAt.shaped
  simp only [PyData.canLay0, PyData.canLayAll0, PyData.depth, PyData.depthAll] at h ⊢
  rw [h]
  rfl
abbrev words : List Str := ["depth", "meeting", "shuffles"]
abbrev yes (n : Nat) : List D := (List.replicate n true).map .bl
theorem yes_succ {n : Nat} : yes n ++ [.bl true] = yes (n + 1) := by
  unfold yes
  rw [List.replicate_succ', List.map_append]
  rfl
section
variable {K : PySem.W.Frag}
theorem ev_asked {Γ : List Sl} {ts : TE} {w : Str} {p n : Int} {row : List Int} {s : Nat} {W : L2.St → XK} {tw tg : TE} {tag : Str} (hw : w ∈ words) (ew : Ev K tw Γ Γ (.str w)) (eg : Ev K tg Γ Γ (mah p row)) (en : Ev K ts Γ Γ (.int n)) (h : LookOk p row s) (hb : (bndL p row ≠ [] ∧ 0 < maxL (bndL p row)) ∨ 2500 < p ^ (s + 1)) (hr : refd p row s = .tup [.str tag, .int n]) (hs : SeqAt.shaped (pd (.tup [.str tag, .int n])) = true) :
    Ev K (tOp (rEqD K) (tCallS (sp__law_call K) W (tCons tw (tCons tg tNil))) (tTup (tCons (tC (.str tag)) (tCons ts tNil)))) Γ Γ (.bl true) := by
  refine Ev.is (ev_op (ev_cv (d := .tup [.str tag, .int n]) (a := (w, p, row, s)) (el_cons ew (el_1 eg)) rfl ⟨?_, h, hb⟩ (congrArg Res.ret hr)) (ev_tups (el_cons ev_str (el_1 en))) (rv_eqD rfl rfl hs hs)) ?_
  · simpa [words] using hw
  · rw [eqv_tag]
theorem ev_pick {Γ Γ1 : List Sl} {ta tb : TE} (l : List Int) {i : Int} (ha : Ev K ta Γ Γ (.lst (zs l))) (hb : Ev K tb Γ Γ1 (.int i)) (h0 : 0 ≤ i) (h1 : i < l.length) : Ev K (tOp (rIx K) ta tb) Γ Γ1 (.int (gi l i)) := ev_op ha hb (rv_ixi h0 h1)
theorem gi_mem {l : List Int} {i : Int} (h0 : 0 ≤ i) (h1 : i < l.length) : gi l i ∈ l := by
  unfold gi
  rw [List.getD_eq_getElem?_getD, List.getElem?_eq_getElem (by omega)]
  exact List.getElem_mem _
variable (fc : Fc K)
include fc
theorem rd__law_refused : RdPR K (t__law_refused K) 14 (fun a : List Int => a ≠ []) (fun a => .lst (zs a)) (fun _ => []) (fun _ (r : List Int) => True) (fun _ r => .lst (zs r)) (fun _ _ => .ret (.bl true)) := by
  rintro l h0 B0 F q0 R E fit
  show To _ (some q0) [.ow (.lst (zs l)), .un, .un, .un, .un, .un, .un, .un, .un, .un, .un, .un, .un, .un, .un] _
  -- rest
  refine sq_set (ev_draw (i := 0) (b := 1000000) (q := 5) rfl (el_cons (Ev.is (ev_op ev_int ev_int (rv_pow ⟨by decide, by decide, by decide⟩)) rfl) (el_1 ev_int)) h0 (by decide) (by decide)) ?_
  have r1 := dr_lo (l := l) (b := 1000000) (q := 5) (by decide)
  have r2 := dr_hi (l := l) (b := 1000000) (q := 5) (by decide)
  have h1 := dr_ne (b := 1000000) (q := 5) h0
  generalize dr l 1000000 5 = z0 at *
  obtain ⟨rest, l1⟩ := z0
  simp only [List.set] at r1 r2 h1 ⊢
  -- p
  have a1 := dr_lo (l := l1) (b := 4) (q := 1) (by decide)
  have a2 := dr_hi (l := l1) (b := 4) (q := 1) (by decide)
  have h2 := dr_ne (b := 4) (q := 1) h1
  refine sq_set (ev_pick [2, 3, 5, 7] (ev_lsts (el_cons ev_int (el_cons ev_int (el_cons ev_int (el_1 ev_int))))) (ev_draw (i := 0) rfl (el_cons ev_int (el_1 ev_int)) h1 (by decide) (by decide)) a1 a2) ?_
  generalize dr l1 4 1 = z0 at *
  obtain ⟨v, l2⟩ := z0
  simp only [List.set] at a1 a2 h2 ⊢
  have hp := gi_mem (l := [2, 3, 5, 7]) a1 a2
  generalize gi [2, 3, 5, 7] v = p at *
  have pp : p ∈ primes := by
    simp at hp
    rcases hp with rfl | rfl | rfl | rfl <;> decide
  have p2 : 2 ≤ p ∧ p ≤ 7 := by
    simp at hp
    omega
  clear a1 a2 hp
  -- at
  refine sq_set (ev_op (ev_var rfl) (ev_draw (i := 0) rfl (el_cons (ev_op ev_int (ev_var rfl) rv_sub) (el_1 ev_int)) h2 (by omega) (by omega)) rv_add) ?_
  have b1 := dr_lo (l := l2) (b := 30 - p) (q := 4) (by omega)
  have b2 := dr_hi (l := l2) (b := 30 - p) (q := 4) (by omega)
  have h3 := dr_ne (b := 30 - p) (q := 4) h2
  generalize dr l2 (30 - p) 4 = z0 at *
  obtain ⟨w, l3⟩ := z0
  simp only [List.set] at b1 b2 h3 ⊢
  obtain ⟨n, hn⟩ : ∃ n : Nat, p + w = ((n + 1 : Nat) : Int) := ⟨(p + w - 1).toNat, by omega⟩
  rw [hn]
  have hn2 : p ≤ ((n + 1 : Nat) : Int) := by omega
  have hn3 : n ≤ 28 := by omega
  clear b1 b2 hn
  -- part
  have hmul := mul_to (a := p) (A := 7) (b := rest) (B := 1000000) (by omega) (by omega) r1 (by omega)
  refine sq_set (ev_op (ev_op ev_int (ev_draw (i := 0) rfl (el_cons (ev_op (ev_var rfl) ev_int rv_sub) (el_1 ev_int)) h3 (by omega) (by omega)) rv_add) (ev_op (ev_var rfl) (ev_var rfl) (rv_mul (sm_mul (sm_of (by omega) (by omega)) (sm_of (by omega) (by omega))))) rv_add) ?_
  have c1 := dr_lo (l := l3) (b := p - 1) (q := 0) (by omega)
  have c2 := dr_hi (l := l3) (b := p - 1) (q := 0) (by omega)
  have h4 := dr_ne (b := p - 1) (q := 0) h3
  generalize dr l3 (p - 1) 0 = z0 at *
  obtain ⟨u, l4⟩ := z0
  simp only [List.set] at c1 c2 h4 ⊢
  have upart : (1 + u + p * rest) % p ≠ 0 := by
    rw [Int.add_mul_emod_self_left, Int.emod_eq_of_lt (by omega) (by omega)]
    omega
  have bpart : 0 < 1 + u + p * rest ∧ 1 + u + p * rest ≤ 10 ^ 8 := by omega
  generalize 1 + u + p * rest = part at *
  clear c1 c2 hmul
  refine sq_set (EvO.ev (eo_cv (a := (p, n + 1, part, rest)) (el_cons (ev_var rfl) (el_cons (ev_var rfl) (el_cons (ev_var rfl) (el_1 (ev_var rfl))))) rfl ⟨ini_wide pp (by simp only; omega) (by simp only; omega) (by simp only; omega), by simp only; omega, by simp only; omega⟩ rfl)) ?_
  simp only [List.set, Nat.add_sub_cancel]
  -- q
  have a1 := dr_lo (l := l4) (b := 10) (q := 0) (by decide)
  have a2 := dr_hi (l := l4) (b := 10) (q := 0) (by decide)
  have h5 := dr_ne (b := 10) (q := 0) h4
  refine sq_set (ev_pick [53, 59, 61, 67, 71, 73, 79, 83, 89, 97] (ev_lsts (el_cons ev_int (el_cons ev_int (el_cons ev_int (el_cons ev_int (el_cons ev_int (el_cons ev_int (el_cons ev_int (el_cons ev_int (el_cons ev_int (el_1 ev_int))))))))))) (ev_draw (i := 0) rfl (el_cons ev_int (el_1 ev_int)) h4 (by decide) (by decide)) a1 a2) ?_
  generalize dr l4 10 0 = z0 at *
  obtain ⟨v, l5⟩ := z0
  simp only [List.set] at a1 a2 h5 ⊢
  have hq := gi_mem (l := [53, 59, 61, 67, 71, 73, 79, 83, 89, 97]) a1 a2
  generalize gi [53, 59, 61, 67, 71, 73, 79, 83, 89, 97] v = q at *
  have qq : q ∈ primes := by
    simp at hq
    rcases hq with rfl | rfl | rfl | rfl | rfl | rfl | rfl | rfl | rfl | rfl <;> decide
  have q2 : 53 ≤ q ∧ q ≤ 97 := by
    simp at hq
    omega
  clear a1 a2 hq
  -- many
  have d1 := dr_lo (l := l5) (b := 9) (q := 0) (by decide)
  have d2 := dr_hi (l := l5) (b := 9) (q := 0) (by decide)
  have h6 := dr_ne (b := 9) (q := 0) h5
  have iniM : IniOk q [rest, 1 + (dr l5 9 0).1] := ini_wide (n := 0) qq (by omega) (by omega) (by omega)
  have trM : trim [rest, 1 + (dr l5 9 0).1] = wide (1 + (dr l5 9 0).1) rest 0 := trim_wide (n := 0) (by omega)
  refine sq_set (EvO.ev (eo_make (cx := "Mahler") (a := (q, [rest, 1 + (dr l5 9 0).1])) (ds := [.int q, .lst (zs [rest, 1 + (dr l5 9 0).1])]) (el_cons (ev_var rfl) (el_1 (ev_lsts (el_cons (ev_var rfl) (el_1 (ev_op ev_int (ev_draw (i := 0) rfl (el_cons ev_int (el_1 ev_int)) h5 (by decide) (by decide)) rv_add)))))) iniM rfl rfl rfl)) ?_
  simp only [trM]
  clear iniM trM
  generalize dr l5 9 0 = z0 at *
  obtain ⟨c, l6⟩ := z0
  simp only [List.set] at d1 d2 h6 ⊢
  -- r
  have a1 := dr_lo (l := l6) (b := 4) (q := 0) (by decide)
  have a2 := dr_hi (l := l6) (b := 4) (q := 0) (by decide)
  have h7 := dr_ne (b := 4) (q := 0) h6
  refine sq_set (ev_pick [17, 19, 23, 29] (ev_lsts (el_cons ev_int (el_cons ev_int (el_cons ev_int (el_1 ev_int))))) (ev_draw (i := 0) rfl (el_cons ev_int (el_1 ev_int)) h6 (by decide) (by decide)) a1 a2) ?_
  generalize dr l6 4 0 = z0 at *
  obtain ⟨v, l7⟩ := z0
  simp only [List.set] at a1 a2 h7 ⊢
  have hr := gi_mem (l := [17, 19, 23, 29]) a1 a2
  generalize gi [17, 19, 23, 29] v = r at *
  have rr : r ∈ primes := by
    simp at hr
    rcases hr with rfl | rfl | rfl | rfl <;> decide
  have r2' : 17 ≤ r ∧ r ≤ 29 := by
    simp at hr
    omega
  clear a1 a2 hr
  -- spot
  refine sq_set (ev_op (ev_var rfl) (ev_draw (i := 0) rfl (el_cons (ev_op ev_int (ev_var rfl) rv_sub) (el_1 ev_int)) h7 (by omega) (by omega)) rv_add) ?_
  have b1 := dr_lo (l := l7) (b := 30 - r) (q := 0) (by omega)
  have b2 := dr_hi (l := l7) (b := 30 - r) (q := 0) (by omega)
  have h8 := dr_ne (b := 30 - r) (q := 0) h7
  generalize dr l7 (30 - r) 0 = z0 at *
  obtain ⟨w', l8⟩ := z0
  simp only [List.set] at b1 b2 h8 ⊢
  obtain ⟨m, hm⟩ : ∃ m : Nat, r + w' = ((m + 1 : Nat) : Int) := ⟨(r + w' - 1).toNat, by omega⟩
  rw [hm]
  have hm2 : r ≤ ((m + 1 : Nat) : Int) := by omega
  have hm3 : m ≤ 28 := by omega
  clear b1 b2 hm
  -- both, deep
  have e1 := dr_lo (l := l8) (b := r - 1) (q := 0) (by omega)
  have e2 := dr_hi (l := l8) (b := r - 1) (q := 0) (by omega)
  have h9 := dr_ne (b := r - 1) (q := 0) h8
  refine sq_set (EvO.ev (eo_cv (a := (r, m + 1, 1 + (dr l8 (r - 1) 0).1, rest)) (el_cons (ev_var rfl) (el_cons (ev_var rfl) (el_cons (ev_op ev_int (ev_draw (i := 0) rfl (el_cons (ev_op (ev_var rfl) ev_int rv_sub) (el_1 ev_int)) h8 (by omega) (by omega)) rv_add) (el_1 (ev_var rfl))))) rfl ⟨ini_wide rr (by simp only; omega) (by simp only; omega) (by simp only; omega), by simp only; omega, by simp only; omega⟩ rfl)) ?_
  simp only [Nat.add_sub_cancel]
  generalize dr l8 (r - 1) 0 = z0 at *
  obtain ⟨e, l9⟩ := z0
  simp only [List.set] at e1 e2 h9 ⊢
  refine sq_set (EvO.ev (eo_cv (a := (r, m + 1, r, rest)) (el_cons (ev_var rfl) (el_cons (ev_var rfl) (el_cons (ev_var rfl) (el_1 (ev_var rfl))))) rfl ⟨ini_wide rr (by simp only; omega) (by simp only; omega) (by simp only; omega), by simp only; omega, by simp only; omega⟩ rfl)) ?_
  simp only [List.set, Nat.add_sub_cancel]
  refine sq_setO (eo_lsts el_nil) ?_
  simp only [List.set]
  -- what the refusals are
  have lo1 := look_of (p := p) (row := wide part rest n) (n := n) (by omega) (by omega) wide_len (by omega)
  have lv1 := lvl_ok (p := p) (i := 1 + n) (by omega) (by omega) (by omega)
  have bn1 : bndL p (wide part rest n) = [(lvl p.toNat (1 + n) : Int)] := by rw [bndL_wide (by omega), dep_unit upart]; simp
  have L1 : 1 ≤ lvl p.toNat (1 + n) := by
    by_cases z : lvl p.toNat (1 + n) = 0
    · have := lv1.hi
      rw [z, Nat.zero_add, Int.pow_succ, Int.pow_zero, Int.one_mul] at this
      omega
    · omega
  have L6 : lvl p.toNat (1 + n) ≤ 6 := by
    rcases lv1.lo with z | z
    · omega
    · by_cases q : lvl p.toNat (1 + n) ≤ 6
      · exact q
      · have h1 : (2 : Int) ^ 7 ≤ p ^ 7 := ipow_mono (by decide) p2.1 7
        have h2 : p ^ 7 ≤ p ^ lvl p.toNat (1 + n) := ipow_le (by omega) (by omega)
        omega
  have bad1 : bndL p (wide part rest n) ≠ [] ∧ 0 < maxL (bndL p (wide part rest n)) := by
    rw [bn1]
    exact ⟨by simp, by show (0 : Int) < ((lvl p.toNat (1 + n) : Nat) : Int); omega⟩
  have ref1 : refd p (wide part rest n) (lvl p.toNat (1 + n) + 1) = .tup [.str "range", .int (lvl p.toNat (1 + n))] := by
    unfold refd
    rw [if_pos bad1, bn1]
    rfl
  have lq : lvl q.toNat (1 + 0) = 0 := lev_uniq (lvl_ok (p := q) (i := 1 + 0) (by omega) (by omega) (by omega)) ⟨by omega, by omega, by omega, by rw [Nat.zero_add, Int.pow_succ, Int.pow_zero, Int.one_mul]; omega, .inl rfl, by omega⟩
  have lo2 := look_of (p := q) (row := wide (1 + c) rest 0) (n := 0) (by omega) (by omega) wide_len (by omega)
  rw [lq] at lo2
  have bn2 : bndL q (wide (1 + c) rest 0) = [0] := by
    rw [bndL_wide (by omega), lq, dep_unit (by rw [Int.emod_eq_of_lt (by omega) (by omega)]; omega)]
    rfl
  have qp : q ^ (0 + 1 + 1) = q * q := by rw [Int.pow_succ, Int.pow_succ, Int.pow_zero, Int.one_mul]
  have q53 : 53 * 53 ≤ q * q := Int.mul_le_mul q2.1 q2.1 (by decide) (by omega)
  have bad2 : 2500 < q ^ (0 + 1 + 1) := by
    rw [qp]
    omega
  have ref2 : refd q (wide (1 + c) rest 0) (0 + 1) = .tup [.str "size", .int (q * q)] := by
    unfold refd
    rw [bn2, if_neg (fun z => absurd z.2 (by decide)), qp]
  have rsq : ((m + 1 : Nat) : Int) < r ^ (1 + 1) := by
    have : 17 * 17 ≤ r * r := Int.mul_le_mul r2'.1 r2'.1 (by decide) (by omega)
    rw [Int.pow_succ, Int.pow_succ, Int.pow_zero, Int.one_mul]
    omega
  have lr : lvl r.toNat (1 + m) = 1 := lev_uniq (lvl_ok (p := r) (i := 1 + m) (by omega) (by omega) (by omega)) ⟨by omega, by omega, by omega, by rw [show ((1 + m : Nat) : Int) = ((m + 1 : Nat) : Int) by omega]; exact rsq, .inr (by rw [Int.pow_succ, Int.pow_zero, Int.one_mul]; omega), by omega⟩
  have lo3 := look_of (p := r) (row := wide (1 + e) rest m) (n := m) (by omega) (by omega) wide_len (by omega)
  have lo4 := look_of (p := r) (row := wide r rest m) (n := m) (by omega) (by omega) wide_len (by omega)
  rw [lr] at lo3 lo4
  have bn3 : bndL r (wide (1 + e) rest m) = [1] := by
    rw [bndL_wide (by omega), lr, dep_unit (by rw [Int.emod_eq_of_lt (by omega) (by omega)]; omega)]
    rfl
  have bn4 : bndL r (wide r rest m) = [0] := by
    rw [bndL_wide (by omega), lr, dep_self (by omega)]
    rfl
  have bad3 : bndL r (wide (1 + e) rest m) ≠ [] ∧ 0 < maxL (bndL r (wide (1 + e) rest m)) := by
    rw [bn3]
    exact ⟨by simp, by decide⟩
  have ref3 : refd r (wide (1 + e) rest m) (1 + 1) = .tup [.str "range", .int 1] := by
    unfold refd
    rw [if_pos bad3, bn3]
    rfl
  have rp : r ^ (1 + 1 + 1) = r * r * r := by rw [Int.pow_succ, Int.pow_succ, Int.pow_succ, Int.pow_zero, Int.one_mul]
  have r17a : 17 * 17 ≤ r * r := Int.mul_le_mul r2'.1 r2'.1 (by decide) (by omega)
  have r17 : 17 * 17 * 17 ≤ r * r * r := Int.mul_le_mul r17a r2'.1 (by decide) (by omega)
  have rbig : r * r ≤ 29 * 29 := Int.mul_le_mul r2'.2 r2'.2 (by omega) (by decide)
  have bad4 : 2500 < r ^ (1 + 1 + 1) := by
    rw [rp]
    omega
  have ref4 : refd r (wide r rest m) (1 + 1) = .tup [.str "size", .int (r * r * r)] := by
    unfold refd
    rw [bn4, if_neg (fun z => absurd z.2 (by decide)), rp]
  have bq : q * q ≤ 97 * 97 := Int.mul_le_mul q2.2 q2.2 (by omega) (by decide)
  refine sq_for (α := Unit) (fun k _ => [.ow (.lst (zs l9)), .va (.int rest), .va (.int p), .va (.int ((n + 1 : Nat) : Int)), .va (.int part), .va (mah p (wide part rest n)), .va (.int q), .va (mah q (wide (1 + c) rest 0)), .va (.int r), .va (.int ((m + 1 : Nat) : Int)), .va (mah r (wide (1 + e) rest m)), .va (mah r (wide r rest m)), .ow (.lst (yes (4 * k))), .un, .un]) (fun _ _ => True) (a0 := ()) (ei_list (ds := words.map .str) (it := fun i => .str (words.getD i "")) (ev_lsts (el_cons ev_str (el_cons ev_str (el_1 ev_str)))) (fun i hi => by simp [words] at hi ⊢; rcases (show i = 0 ∨ i = 1 ∨ i = 2 by omega) with rfl | rfl | rfl <;> rfl)) trivial rfl ?_ ?_
  · intro B1 sb k _ hk _ N hN
    have hk : k < 3 := hk
    have hw : words.getD k "" ∈ words := by rcases (show k = 0 ∨ k = 1 ∨ k = 2 by omega) with rfl | rfl | rfl <;> decide
    generalize words.getD k "" = w at *
    have fin := hN () trivial
    refine sq_append (i := 12) rfl (ev_asked hw (ev_var rfl) (ev_var rfl) (ev_cv (a := (p, ((n + 1 : Nat) : Int), lvl p.toNat (1 + n))) (el_cons (ev_var rfl) (el_1 (ev_var rfl))) rfl ⟨by rw [show ((n + 1 : Nat) : Int) = ((1 + n : Nat) : Int) by omega]; exact lv1, L6⟩ rfl) lo1 (.inl bad1) ref1 (shape_tag (by rw [PyData.canLay0]; decide +kernel))) (by simp; omega) ?_
    refine sq_append (i := 12) rfl (ev_asked hw (ev_var rfl) (ev_var rfl) (ev_op (ev_var rfl) (ev_var rfl) (rv_mul (sm_mul (sm_of (by omega) (by omega)) (sm_of (by omega) (by omega))))) lo2 (.inr bad2) ref2 (shape_tag (by rw [PyData.canLay0]; decide +kernel))) (by simp; omega) ?_
    refine sq_append (i := 12) rfl (ev_asked hw (ev_var rfl) (ev_var rfl) ev_int lo3 (.inl bad3) ref3 (shape_tag (by rw [PyData.canLay0]; decide +kernel))) (by simp; omega) ?_
    refine ap_end (i := 12) rfl (ev_asked hw (ev_var rfl) (ev_var rfl) (ev_op (ev_op (ev_var rfl) (ev_var rfl) (rv_mul (sm_mul (sm_of (by omega) (by omega)) (sm_of (by omega) (by omega))))) (ev_var rfl) (rv_mul (sm_mul (sm_of (by omega) (by omega)) (sm_of (by omega) (by omega))))) lo4 (.inr bad4) ref4 (shape_tag (by rw [PyData.canLay0]; decide +kernel))) (by simp; omega) ?_
    refine to_un 13 ?_
    have ey : yes (4 * k) ++ [.bl true] ++ [.bl true] ++ [.bl true] ++ [.bl true] = yes (4 * (k + 1)) := by
      rw [yes_succ, yes_succ, yes_succ, yes_succ]; rfl
    simp only [List.set, ey]
    exact fin
  · intro _ _
    have iniC : IniOk q [rest] := by
      have z := ini_wide (n := 0) (a := 1) (b := rest) qq (by omega) (by omega) (by omega)
      refine ⟨z.pr, by simp, by simp, fun x hx => ?_⟩
      rw [List.mem_singleton] at hx
      omega
    refine sq_set (EvO.ev (eo_make (cx := "Mahler") (a := (q, rest)) (ds := [.int q, .tup (zs [rest])]) (el_cons (ev_var rfl) (el_1 (ev_tups (el_1 (ev_var rfl))))) iniC rfl rfl rfl)) ?_
    refine sq_append (i := 12) (d := .bl true) rfl (ev_cv (a := ((q, [rest], 0), .tup [.int 0, .int 1])) (el_cons (ev_var rfl) (el_cons (ev_var rfl) (el_cons (ev_lsts (el_1 (ev_var rfl))) (el_1 (ev_tups (el_cons ev_int (el_1 ev_int))))))) rfl ⟨look_of1 (by simp only; omega) (by simp only; omega), by simp, by simp only [Nat.zero_add, Int.pow_succ, Int.pow_zero, Int.one_mul]; omega, .inl rfl, (meet_const (by omega)).symm⟩ rfl) (by simp [words]) ?_
    rw [yes_succ]
    refine to_ret (ev_cbOwn (i := 12) (ds := yes (4 * (words.map D.str).length + 1)) rfl rc_all at_bl) ?_
    have e : (List.replicate (4 * (words.map D.str).length + 1) true).all id = true := by simp
    rw [e]
    exact fit l9 trivial _ rfl
end
end Z46
set_option maxHeartbeats 4000000
namespace Z46
open PySem PySem.Spec PyProof.Rows L2 Y
/-! ### the check by reckoning -/
def scan : Nat → List Nat → List Nat
  | _, [] => []
  | acc, c :: r => acc :: scan (acc + c) r
def all4 (f : Nat → Nat → Nat → Nat → Bool) : Nat → List Nat → List Nat → List Nat → List Nat → Bool
  | 0, _, _, _, _ => true
  | n + 1, a :: l1, b :: l2, c :: l3, d :: l4 => f a b c d && all4 f n l1 l2 l3 l4
  | _ + 1, _, _, _, _ => false
def chkA (p q : Nat) (l : List Nat) : Bool := all4 (fun a b _ _ => a % q == b % q) q l (l.drop q) l l
def chkB (p q h : Nat) (l : List Nat) : Bool := all4 (fun a b c _ => (c + h * a) % (q * p) == (a + h * b) % (q * p)) q l (l.drop q) (l.drop (q * h)) l
def chkC (p q h : Nat) (l : List Nat) : Bool := all4 (fun a b u v => (v + p * a) % (q * p * p) == (u + p * b) % (q * p * p)) q l (l.drop q) (l.drop (q * h)) (l.drop (q * h + q * p))
def chkI (p t : Nat) (i : Nat) (l : List Nat) : Bool := chkA p (p ^ t) l && (List.range p).all (fun h => chkB p (p ^ t) h l) && (decide (p ^ (t - 1) ≤ i) || (List.range p).all (fun h => chkC p (p ^ (t - 1)) h l))
def chkR (p t : Nat) : Nat → Nat → List Nat → Bool
  | 0, _, _ => true
  | n + 1, i, l => chkI p t i (l.map (p ^ lvl p i * ·)) && chkR p t n (i + 1) (scan 0 l)
def chk (p t : Nat) : Bool := chkR p t (min 30 (p ^ t)) 0 (List.replicate (p ^ (t + 1)) 1)
theorem all4_ok {f : Nat → Nat → Nat → Nat → Bool} : ∀ {n : Nat} {l1 l2 l3 l4 : List Nat}, all4 f n l1 l2 l3 l4 = true → ∀ x, x < n → ∃ a b c d, l1[x]? = some a ∧ l2[x]? = some b ∧ l3[x]? = some c ∧ l4[x]? = some d ∧ f a b c d = true
  | 0, _, _, _, _, _, x, hx => by omega
  | n + 1, [], _, _, _, h, _, _ => by simp [all4] at h
  | n + 1, _ :: _, [], _, _, h, _, _ => by simp [all4] at h
  | n + 1, _ :: _, _ :: _, [], _, h, _, _ => by simp [all4] at h
  | n + 1, _ :: _, _ :: _, _ :: _, [], h, _, _ => by simp [all4] at h
  | n + 1, a :: l1, b :: l2, c :: l3, d :: l4, h, x, hx => by
    rw [all4, Bool.and_eq_true] at h
    cases x with
    | zero => exact ⟨a, b, c, d, rfl, rfl, rfl, rfl, h.1⟩
    | succ x =>
      obtain ⟨a', b', c', d', e⟩ := all4_ok h.2 x (by omega)
      exact ⟨a', b', c', d', by simpa using e⟩
/-! ### the columns -/
def cn : Nat → Nat → Nat
  | _, 0 => 1
  | 0, _ + 1 => 0
  | x + 1, i + 1 => cn x i + cn x (i + 1)
theorem cn_0 (x : Nat) : cn x 0 = 1 := by cases x <;> rfl
theorem ch_cn : ∀ x i, ch x i = (cn x i : Int)
  | x, 0 => by rw [ch_0, cn_0]; rfl
  | 0, i + 1 => rfl
  | x + 1, i + 1 => by
    show ch x i + ch x (i + 1) = ((cn x i + cn x (i + 1) : Nat) : Int)
    rw [ch_cn x i, ch_cn x (i + 1)]
    omega
def colF (i : Nat) : Nat → Nat → List Nat
  | _, 0 => []
  | x, n + 1 => cn x i :: colF i (x + 1) n
theorem scan_col (i : Nat) : ∀ (n x : Nat), scan (cn x (i + 1)) (colF i x n) = colF (i + 1) x n
  | 0, _ => rfl
  | n + 1, x => by
    show cn x (i + 1) :: scan (cn x (i + 1) + cn x i) (colF i (x + 1) n) = cn x (i + 1) :: colF (i + 1) (x + 1) n
    rw [show cn x (i + 1) + cn x i = cn (x + 1) (i + 1) by show _ = cn x i + cn x (i + 1); omega, scan_col i n (x + 1)]
theorem col_0 : ∀ (n x : Nat), List.replicate n 1 = colF 0 x n
  | 0, _ => rfl
  | n + 1, x => by
    show 1 :: List.replicate n 1 = cn x 0 :: colF 0 (x + 1) n
    rw [cn_0, col_0 n (x + 1)]
theorem col_get {i : Nat} : ∀ {n x k : Nat} {v : Nat}, (colF i x n)[k]? = some v → v = cn (x + k) i
  | 0, _, _, _, h => by simp [colF] at h
  | n + 1, x, 0, v, h => by
    simp [colF] at h
    rw [← h]
    rfl
  | n + 1, x, k + 1, v, h => by
    have e := col_get (n := n) (x := x + 1) (k := k) (i := i) (v := v) (by simpa [colF] using h)
    rw [e]
    congr 1
    omega
/-- the basis -/
def be (p i x : Nat) : Int := ((p ^ lvl p i * cn x i : Nat) : Int)
theorem be_get {p i n k j : Nat} {v : Nat} (h : (((colF i 0 n).map (p ^ lvl p i * ·)).drop j)[k]? = some v) : (v : Int) = be p i (k + j) := by
  rw [List.getElem?_drop, List.getElem?_map] at h
  cases q : (colF i 0 n)[j + k]? with
  | none =>
    rw [q] at h
    cases h
  | some w =>
    rw [q] at h
    have := col_get q
    rw [Nat.zero_add] at this
    cases h
    unfold be
    rw [this, Nat.add_comm j k]
theorem be_get0 {p i n k : Nat} {v : Nat} (h : ((colF i 0 n).map (p ^ lvl p i * ·))[k]? = some v) : (v : Int) = be p i k := be_get (j := 0) (by simpa using h)
theorem nat_dvd {a b m : Nat} (h : a % m = b % m) : (m : Int) ∣ (a : Int) - b := by
  have h2 : (a : Int) % m = (b : Int) % m := by rw [← Int.natCast_emod, ← Int.natCast_emod, h]
  exact Int.dvd_of_emod_eq_zero (Int.emod_eq_emod_iff_emod_sub_eq_zero.mp h2)
/-! ### what the check says -/
def PA (q : Int) (n : Nat) (f : Nat → Int) : Prop := ∀ x, x < n → q ∣ f (x + n) - f x
def PB (p n : Nat) (f : Nat → Int) : Prop := ∀ x h, x < n → h < p → ((n * p : Nat) : Int) ∣ (f (x + n * h) + h * f x) - (f x + h * f (x + n))
def PC (p n : Nat) (f : Nat → Int) : Prop := ∀ x h, x < n → h < p → ((n * p * p : Nat) : Int) ∣ (f (x + (n * h + n * p)) + p * f x) - (f (x + n * h) + p * f (x + n))
theorem chkA_ok {p i q n : Nat} (h : chkA p q ((colF i 0 n).map (p ^ lvl p i * ·)) = true) : PA q q (be p i) := fun x hx => by
  obtain ⟨a, b, c, d, h1, h2, _, _, e⟩ := all4_ok h x hx
  rw [← be_get0 h1, ← be_get h2]
  exact nat_dvd (eq_of_beq e).symm
theorem chkB_ok {p i q n : Nat} (h : ∀ k, k < p → chkB p q k ((colF i 0 n).map (p ^ lvl p i * ·)) = true) : PB p q (be p i) := fun x k hx hk => by
  obtain ⟨a, b, c, d, h1, h2, h3, _, e⟩ := all4_ok (h k hk) x hx
  have := nat_dvd (eq_of_beq e)
  rw [← be_get0 h1, ← be_get h2, ← be_get h3]
  simpa using this
theorem chkC_ok {p i q n : Nat} (h : ∀ k, k < p → chkC p q k ((colF i 0 n).map (p ^ lvl p i * ·)) = true) : PC p q (be p i) := fun x k hx hk => by
  obtain ⟨a, b, c, d, h1, h2, h3, h4, e⟩ := all4_ok (h k hk) x hx
  have := nat_dvd (eq_of_beq e)
  rw [← be_get0 h1, ← be_get h2, ← be_get h3, ← be_get h4]
  simpa using this
structure Bas (p t i : Nat) : Prop where
  a : PA (p ^ t : Nat) (p ^ t) (be p i)
  b : PB p (p ^ t) (be p i)
  c : i < p ^ (t - 1) → PC p (p ^ (t - 1)) (be p i)
theorem chkR_ok {p t N : Nat} : ∀ {n i : Nat}, chkR p t n i (colF i 0 N) = true → ∀ j, i ≤ j → j < i + n → Bas p t j
  | 0, i, _, j, h1, h2 => by omega
  | n + 1, i, h, j, h1, h2 => by
    rw [chkR, Bool.and_eq_true] at h
    obtain ⟨hi, hr⟩ := h
    by_cases e : j = i
    · subst e
      unfold chkI at hi
      rw [Bool.and_eq_true, Bool.and_eq_true] at hi
      obtain ⟨⟨ha, hb⟩, hc⟩ := hi
      refine ⟨chkA_ok ha, chkB_ok fun k hk => List.all_eq_true.mp hb k (List.mem_range.mpr hk), fun hlt => ?_⟩
      rw [Bool.or_eq_true] at hc
      rcases hc with hc | hc
      · have := of_decide_eq_true hc
        omega
      · exact chkC_ok fun k hk => List.all_eq_true.mp hc k (List.mem_range.mpr hk)
    · rw [show (scan 0 (colF i 0 N)) = colF (i + 1) 0 N from scan_col i N 0] at hr
      exact chkR_ok hr j (by omega) (by omega)
theorem chk_ok {p t : Nat} (h : chk p t = true) {i : Nat} (h1 : i < 30) (h2 : i < p ^ t) : Bas p t i := by
  unfold chk at h
  rw [col_0] at h
  exact chkR_ok h i (by omega) (by omega)
/-! ### sums -/
theorem lin_all {P : (Nat → Int) → Prop} {p : Nat} (p0 : P fun _ => 0) (ps : ∀ (c : Int) f g, P f → P g → P fun x => c * f x + g x) {n : Nat} (pb : ∀ i, i < n → P (be p i)) : ∀ (r : List Int) (k : Nat), k + r.length ≤ n → (∀ i : Nat, i < r.length → (p : Int) ^ lvl p (k + i) ∣ gi r i) → P fun x => sbf (ch x) r k
  | [], _, _, _ => p0
  | a :: r, k, hl, hd => by
    obtain ⟨c, hc⟩ := hd 0 (by simp)
    have hc : a = (p : Int) ^ lvl p k * c := hc
    have ih := lin_all p0 ps pb r (k + 1) (by simp at hl; omega) fun i hi => by
      have := hd (i + 1) (by simp; omega)
      rw [show k + 1 + i = k + (i + 1) by omega]
      have e : gi (a :: r) ((i + 1 : Nat) : Int) = gi r i := by
        unfold gi
        simp
      rw [e] at this
      exact this
    have e : (fun x => sbf (ch x) (a :: r) k) = fun x => c * be p k x + sbf (ch x) r (k + 1) := by
      funext x
      show a * ch x k + sbf (ch x) r (k + 1) = _
      rw [hc, ch_cn]
      unfold be
      rw [Int.natCast_mul, Int.natCast_pow]
      congr 1
      rw [Int.mul_comm _ c, Int.mul_assoc]
    rw [e]
    exact ps c _ _ (pb k (by simp at hl; omega)) ih
theorem ps_A {q : Int} {n : Nat} : ∀ (c : Int) f g, PA q n f → PA q n g → PA q n fun x => c * f x + g x := fun c f g hf hg x hx => by
  have := Int.dvd_add (Int.dvd_trans (hf x hx) (Int.dvd_mul_left c _)) (hg x hx)
  have e : c * (f (x + n) - f x) + (g (x + n) - g x) = (c * f (x + n) + g (x + n)) - (c * f x + g x) := by grind
  rw [e] at this
  exact this
theorem ps_B {p n : Nat} : ∀ (c : Int) f g, PB p n f → PB p n g → PB p n fun x => c * f x + g x := fun c f g hf hg x h hx hh => by
  have := Int.dvd_add (Int.dvd_trans (hf x h hx hh) (Int.dvd_mul_left c _)) (hg x h hx hh)
  have e : c * ((f (x + n * h) + h * f x) - (f x + h * f (x + n))) + ((g (x + n * h) + h * g x) - (g x + h * g (x + n))) = ((c * f (x + n * h) + g (x + n * h)) + h * (c * f x + g x)) - ((c * f x + g x) + h * (c * f (x + n) + g (x + n))) := by grind
  rw [e] at this
  exact this
theorem ps_C {p n : Nat} : ∀ (c : Int) f g, PC p n f → PC p n g → PC p n fun x => c * f x + g x := fun c f g hf hg x h hx hh => by
  have := Int.dvd_add (Int.dvd_trans (hf x h hx hh) (Int.dvd_mul_left c _)) (hg x h hx hh)
  have e : c * ((f (x + (n * h + n * p)) + p * f x) - (f (x + n * h) + p * f (x + n))) + ((g (x + (n * h + n * p)) + p * g x) - (g (x + n * h) + p * g (x + n))) = ((c * f (x + (n * h + n * p)) + g (x + (n * h + n * p))) + p * (c * f x + g x)) - ((c * f (x + n * h) + g (x + n * h)) + p * (c * f (x + n) + g (x + n))) := by grind
  rw [e] at this
  exact this
theorem z_A {q : Int} {n : Nat} : PA q n fun _ => 0 := fun _ _ => by simp
theorem z_B {p n : Nat} : PB p n fun _ => 0 := fun _ _ _ _ => by simp
theorem z_C {p n : Nat} : PC p n fun _ => 0 := fun _ _ _ _ => by simp
/-! ### the step from a depth to the next -/
def Inj (f : Nat → Int) (m : Nat) : Prop := ∀ i j, i < j → j < m → ¬ (m : Int) ∣ f j - f i
/-- inverses -/
def Prim (p : Nat) : Prop := ∀ d c : Int, ¬ (p : Int) ∣ d → ∃ h : Nat, h < p ∧ (p : Int) ∣ h * d - c
section
variable {p n q : Nat} {f : Nat → Int}
theorem form (ha : PA n n f) (hb : PB p n f) {x h : Nat} (hx : x < n) (hh : h < p) : ∃ d w, f (x + n) - f x = n * d ∧ f (x + n * h) = f x + h * (n * d) + n * p * w := by
  obtain ⟨d, hd⟩ := ha x hx
  obtain ⟨w, hw⟩ := hb x h hx hh
  refine ⟨d, w, hd, ?_⟩
  rw [Int.natCast_mul] at hw
  grind
theorem inj_up (p2 : 2 ≤ p) (q1 : 0 < q) (hp : Prim p) (hn : n = q * p) (ha : PA n n f) (hb : PB p n f) (hc : PC p q f) (hi : Inj f n) : Inj f (n * p) := by
  have n1 : 0 < n := by rw [hn]; exact Nat.mul_pos q1 (by omega)
  have E : ∀ x, x < n → ∀ d : Int, f (x + n) - f x = n * d → ¬ (p : Int) ∣ d := by
    intro x hx d hd ⟨e, he⟩
    have hx1 : x % q < q := Nat.mod_lt _ q1
    have hh : x / q < p := (Nat.div_lt_iff_lt_mul q1).mpr (by rw [Nat.mul_comm, ← hn]; exact hx)
    obtain ⟨w, hw⟩ := hc (x % q) (x / q) hx1 hh
    have ex : x % q + q * (x / q) = x := Nat.mod_add_div x q
    rw [← Nat.add_assoc, ex, ← hn, Int.natCast_mul] at hw
    have big : x % q + q < n := by
      rw [hn]
      have : q * 2 ≤ q * p := Nat.mul_le_mul_left q p2
      omega
    refine hi (x % q) (x % q + q) (by omega) big ⟨e - w, ?_⟩
    have hp0 : (p : Int) ≠ 0 := by omega
    apply Int.eq_of_mul_eq_mul_left hp0
    subst he
    grind
  intro u v huv hv ⟨z, hz⟩
  have hu1 : u % n < n := Nat.mod_lt _ n1
  have hv1 : v % n < n := Nat.mod_lt _ n1
  have hu2 : u / n < p := (Nat.div_lt_iff_lt_mul n1).mpr (by rw [Nat.mul_comm]; omega)
  have hv2 : v / n < p := (Nat.div_lt_iff_lt_mul n1).mpr (by rw [Nat.mul_comm]; exact hv)
  have eu : u % n + n * (u / n) = u := Nat.mod_add_div u n
  have ev' : v % n + n * (v / n) = v := Nat.mod_add_div v n
  obtain ⟨d, w, hd, hw⟩ := form ha hb hu1 hu2
  obtain ⟨d', w', hd', hw'⟩ := form ha hb hv1 hv2
  rw [eu] at hw
  rw [ev'] at hw'
  rw [Int.natCast_mul] at hz
  by_cases e : u % n = v % n
  · rw [← e] at hd' hw'
    have hn0 : (n : Int) ≠ 0 := by omega
    have ed : d' = d := by
      apply Int.eq_of_mul_eq_mul_left hn0
      rw [← hd, ← hd']
    subst ed
    have key : ((v / n : Nat) - (u / n : Nat) : Int) * d' = p * (z + w - w') := by
      apply Int.eq_of_mul_eq_mul_left hn0
      grind
    obtain ⟨g, hg, y, hy⟩ := hp d' 1 (E _ hu1 _ hd)
    have hlt : u / n < v / n := by
      rcases Nat.lt_or_ge (u / n) (v / n) with h | h
      · exact h
      · have := Nat.mul_le_mul_left n h
        omega
    have dv : (p : Int) ∣ ((v / n : Nat) - (u / n : Nat) : Int) := ⟨g * (z + w - w') - ((v / n : Nat) - (u / n : Nat) : Int) * y, by grind⟩
    generalize u / n = U at *
    generalize v / n = V at *
    have := Int.le_of_dvd (by omega) dv
    omega
  · rcases Nat.lt_or_gt_of_ne e with h | h
    · exact hi _ _ h hv1 ⟨p * z + (u / n : Nat) * d + p * w - (v / n : Nat) * d' - p * w', by grind⟩
    · exact hi _ _ h hu1 ⟨-(p * z + (u / n : Nat) * d + p * w - (v / n : Nat) * d' - p * w'), by grind⟩
theorem inj_down (p2 : 2 ≤ p) (n1 : 0 < n) (hp : Prim p) (ha : PA n n f) (hb : PB p n f) (hi : Inj f (n * p)) : Inj f n := by
  intro i j hij hj ⟨c, hc⟩
  have np : n * 2 ≤ n * p := Nat.mul_le_mul_left n p2
  obtain ⟨d, hd⟩ := ha i (by omega)
  have E : ¬ (p : Int) ∣ d := fun ⟨e, he⟩ => hi i (i + n) (by omega) (by omega) ⟨e, by rw [Int.natCast_mul]; subst he; grind⟩
  obtain ⟨h, hh, y, hy⟩ := hp d c E
  obtain ⟨w, hw⟩ := hb i h (by omega) hh
  rw [Int.natCast_mul] at hw
  have hu : i + n * h < n * p := by
    have : n * (h + 1) ≤ n * p := Nat.mul_le_mul_left n hh
    rw [Nat.mul_succ] at this
    omega
  have key : f (i + n * h) - f j = n * p * (y + w) := by grind
  by_cases e : h = 0
  · subst e
    rw [Nat.mul_zero, Nat.add_zero] at key
    exact hi i j hij (by omega) ⟨-(y + w), by rw [Int.natCast_mul]; grind⟩
  · have hlt : j < i + n * h := by
      have : n * 1 ≤ n * h := Nat.mul_le_mul_left n (by omega)
      omega
    exact hi j _ hlt hu ⟨y + w, by rw [Int.natCast_mul]; exact key⟩
end
end Z46
set_option maxHeartbeats 4000000
namespace Z46
open PySem PySem.Spec PyProof.Rows L2 Y
abbrev smallP : List Nat := [2, 3, 5, 7, 11, 13]
theorem prim_small {p : Nat} (h : p ∈ smallP) : Prim p := by
  have fin : ∀ p ∈ smallP, ∀ d < p, d ≠ 0 → ∀ c < p, ∃ h < p, (h * d) % p = c := by decide +kernel
  have pos : ∀ p ∈ smallP, 0 < p := by decide
  intro d c hd
  have hp := pos p h
  have d1 := Int.emod_nonneg d (show (p : Int) ≠ 0 by omega)
  have d2 := Int.emod_lt_of_pos d (show (0 : Int) < p by omega)
  have c1 := Int.emod_nonneg c (show (p : Int) ≠ 0 by omega)
  have c2 := Int.emod_lt_of_pos c (show (0 : Int) < p by omega)
  obtain ⟨g, hg, e⟩ := fin p h (d % p).toNat (by omega) (fun z => hd (Int.dvd_of_emod_eq_zero (by omega))) (c % p).toNat (by omega)
  refine ⟨g, hg, Int.dvd_of_emod_eq_zero (Int.emod_eq_emod_iff_emod_sub_eq_zero.mp ?_)⟩
  have e4 : ((g : Int) * d) % p = ((g : Int) * (d % p)) % p := by
    rw [Int.mul_emod, Int.mul_emod (g : Int) (d % p), Int.emod_emod_of_dvd d (Int.dvd_refl _)]
  have e2 : (((g * (d % (p : Int)).toNat) % p : Nat) : Int) = c % p := by rw [e]; omega
  rw [Int.natCast_emod, Int.natCast_mul, show (((d % (p : Int)).toNat : Nat) : Int) = d % p by omega] at e2
  rw [e4, e2]
abbrev pts : List (Nat × Nat) := [(2, 1), (2, 2), (2, 3), (2, 4), (2, 5), (2, 6), (2, 7), (3, 1), (3, 2), (3, 3), (3, 4), (5, 1), (5, 2), (7, 1), (7, 2), (11, 1), (13, 1)]
theorem k21 : chk 2 1 = true := by decide +kernel
theorem k22 : chk 2 2 = true := by decide +kernel
theorem k23 : chk 2 3 = true := by decide +kernel
theorem k24 : chk 2 4 = true := by decide +kernel
theorem k25 : chk 2 5 = true := by decide +kernel
theorem k26 : chk 2 6 = true := by decide +kernel
theorem k27 : chk 2 7 = true := by decide +kernel
theorem k31 : chk 3 1 = true := by decide +kernel
theorem k32 : chk 3 2 = true := by decide +kernel
theorem k33 : chk 3 3 = true := by decide +kernel
theorem k34 : chk 3 4 = true := by decide +kernel
theorem k51 : chk 5 1 = true := by decide +kernel
theorem k52 : chk 5 2 = true := by decide +kernel
theorem k71 : chk 7 1 = true := by decide +kernel
theorem k72 : chk 7 2 = true := by decide +kernel
theorem k111 : chk 11 1 = true := by decide +kernel
theorem k131 : chk 13 1 = true := by decide +kernel
theorem chk_pts : ∀ z ∈ pts, chk z.1 z.2 = true := by
  intro z hz
  simp only [pts, List.mem_cons, List.not_mem_nil, or_false] at hz
  rcases hz with rfl | rfl | rfl | rfl | rfl | rfl | rfl | rfl | rfl | rfl | rfl | rfl | rfl | rfl | rfl | rfl | rfl
  · exact k21
  · exact k22
  · exact k23
  · exact k24
  · exact k25
  · exact k26
  · exact k27
  · exact k31
  · exact k32
  · exact k33
  · exact k34
  · exact k51
  · exact k52
  · exact k71
  · exact k72
  · exact k111
  · exact k131
theorem chk_all {p t : Nat} (h : p ∈ smallP) (h1 : 1 ≤ t) (h2 : p ^ (t + 1) ≤ 400) : chk p t = true := by
  have p2 : 2 ≤ p := by
    have : ∀ p ∈ smallP, 2 ≤ p := by decide
    exact this p h
  have ht : t < 9 := by
    by_cases q : t < 9
    · exact q
    · have h3 : 2 ^ 10 ≤ p ^ 10 := Nat.pow_le_pow_left p2 10
      have h4 : p ^ 10 ≤ p ^ (t + 1) := Nat.pow_le_pow_right (by omega) (by omega)
      omega
  have fin : (smallP.all fun p => (List.range 9).all fun t => !(decide (1 ≤ t) && decide (p ^ (t + 1) ≤ 400)) || pts.contains (p, t)) = true := by decide +kernel
  have f2 := List.all_eq_true.mp (List.all_eq_true.mp fin p h) t (List.mem_range.mpr ht)
  rw [decide_eq_true h1, decide_eq_true h2] at f2
  have f3 : pts.contains (p, t) = true := f2
  exact chk_pts (p, t) (List.contains_iff_mem.mp f3)
/-! ### meeting and injectivity -/
theorem gi_resid {row : List Int} {m j : Nat} (h : j < m) : gi (resid row m) j = ev row j % m := gi_map (fun x => ev row x % (m : Int)) h
theorem nomeet_iff {row : List Int} {m : Nat} : NoMeet (resid row m) m ↔ Inj (ev row) m := by
  have tk : ∀ j, j < m → ∀ v, v ∈ (resid row m).take j ↔ ∃ i, i < j ∧ ev row i % m = v := by
    intro j hj v
    unfold resid
    rw [← List.map_take, List.take_range, Nat.min_eq_left (by omega), List.mem_map]
    constructor
    · rintro ⟨i, hi, e⟩
      exact ⟨i, List.mem_range.mp hi, e⟩
    · rintro ⟨i, hi, e⟩
      exact ⟨i, List.mem_range.mpr hi, e⟩
  constructor
  · intro h i j hij hj hd
    refine h j hj ?_
    rw [gi_resid hj, tk j hj]
    exact ⟨i, hij, (Int.emod_eq_emod_iff_emod_sub_eq_zero.mpr (Int.emod_eq_zero_of_dvd hd)).symm⟩
  · intro h j hj hm
    rw [gi_resid hj, tk j hj] at hm
    obtain ⟨i, hij, e⟩ := hm
    exact h i j hij hj (Int.dvd_of_emod_eq_zero (Int.emod_eq_emod_iff_emod_sub_eq_zero.mp e.symm))
theorem isN_meet {l : List Int} : isN (meetD l) = true ↔ NoMeet l l.length := by
  constructor
  · intro h j hj hm
    unfold meetD at h
    split at h
    · rename_i e
      rw [List.find?_eq_none] at e
      have := e j (List.mem_range.mpr hj)
      simp [hm] at this
    · cases h
  · intro h
    rw [meet_none h]
    rfl
theorem isN_inj {row : List Int} {m : Nat} : isN (meetD (resid row m)) = true ↔ Inj (ev row) m := by
  rw [isN_meet, resid_len, nomeet_iff]
theorem inj_step {p s t : Nat} {row : List Int} (h : p ∈ smallP) (hst : s + 1 ≤ t) (h4 : p ^ (t + 1) ≤ 400) (hl : row.length ≤ 30) (hs : row.length ≤ p ^ s) (hd : ∀ i : Nat, i < row.length → (p : Int) ^ lvl p i ∣ gi row i) : Inj (ev row) (p ^ (t + 1)) ↔ Inj (ev row) (p ^ t) := by
  have p2 : 2 ≤ p := by
    have : ∀ p ∈ smallP, 2 ≤ p := by decide
    exact this p h
  have ck := chk_all h (by omega) h4
  have s1 : p ^ s ≤ p ^ (t - 1) := Nat.pow_le_pow_right (by omega) (by omega)
  have s2 : p ^ (t - 1) ≤ p ^ t := Nat.pow_le_pow_right (by omega) (by omega)
  have en : p ^ t = p ^ (t - 1) * p := by
    rw [← Nat.pow_succ]
    congr 1
    omega
  have bas : ∀ i, i < row.length → Bas p t i := fun i hi => chk_ok ck (by omega) (by omega)
  have ef : ev row = fun x => sbf (ch x) row 0 := funext fun x => ev_sbf x row
  have hd' : ∀ i : Nat, i < row.length → (p : Int) ^ lvl p (0 + i) ∣ gi row i := fun i hi => by rw [Nat.zero_add]; exact hd i hi
  have ga : PA (p ^ t : Nat) (p ^ t) (ev row) := by
    rw [ef]
    exact lin_all (n := row.length) z_A ps_A (fun i hi => (bas i hi).a) row 0 (by omega) hd'
  have gb : PB p (p ^ t) (ev row) := by
    rw [ef]
    exact lin_all (n := row.length) z_B ps_B (fun i hi => (bas i hi).b) row 0 (by omega) hd'
  have gc : PC p (p ^ (t - 1)) (ev row) := by
    rw [ef]
    exact lin_all (n := row.length) z_C ps_C (fun i hi => (bas i hi).c (by omega)) row 0 (by omega) hd'
  rw [Nat.pow_succ]
  exact ⟨inj_down p2 (Nat.pow_pos (by omega)) (prim_small h) ga gb, inj_up p2 (Nat.pow_pos (by omega)) (prim_small h) en ga gb gc⟩
theorem small_of_400 {p : Int} {s j : Nat} (hp : p ∈ primes) (hj : 1 ≤ j) (h : p ^ (s + 1 + j) ≤ 400) : p.toNat ∈ smallP ∨ p = 17 ∨ p = 19 := by
  have p2 : 2 ≤ p := by
    have : ∀ p ∈ primes, 2 ≤ p := by decide
    exact this p hp
  have h1 : p ^ 2 ≤ p ^ (s + 1 + j) := ipow_le (by omega) (by omega)
  have fin : ∀ p ∈ primes, p ^ 2 ≤ 400 → p.toNat ∈ smallP ∨ p = 17 ∨ p = 19 := by decide
  exact fin p hp (by omega)
/-- the shuffle theorem, as the law asks it -/
theorem shuf {p : Int} {row : List Int} {s : Nat} (h : LookOk p row s) (hp : p.toNat ∈ smallP) (hl : row.length ≤ 30) (hd : ∀ i : Nat, i < row.length → p ^ lvl p.toNat i ∣ gi row i) {j : Nat} (hj : j ≤ 2) (h4 : p ^ (s + 1 + j) ≤ 400) :
    isN (meetD (resid row (p ^ (s + 1 + j)).toNat)) = isN (meetD (resid row (p ^ (s + 1)).toNat)) := by
  have p2 := h.p2
  obtain ⟨P, rfl⟩ : ∃ P : Nat, p = P := ⟨p.toNat, by omega⟩
  rw [Int.toNat_natCast] at hp hd
  have cast : ∀ n : Nat, ((P : Int) ^ n).toNat = P ^ n := fun n => by rw [← Int.natCast_pow, Int.toNat_natCast]
  have hs : row.length ≤ P ^ s := by
    have := h.hi
    rw [← Int.natCast_pow] at this
    omega
  rw [← Int.natCast_pow] at h4
  have h4 : P ^ (s + 1 + j) ≤ 400 := by omega
  rw [cast, cast, Bool.eq_iff_iff, isN_inj, isN_inj]
  match j, hj, h4 with
  | 0, _, _ => rfl
  | 1, _, h4 => exact inj_step (s := s) hp (by omega) h4 hl hs hd
  | 2, _, h4 =>
    have h5 : P ^ (s + 1 + 1) ≤ P ^ (s + 1 + 2) := Nat.pow_le_pow_right (by omega) (by omega)
    exact (inj_step (s := s) (t := s + 1 + 1) hp (by omega) h4 hl hs hd).trans (inj_step (s := s) hp (by omega) (by omega) hl hs hd)
end Z46
set_option maxHeartbeats 4000000
namespace Z46
open PySem PySem.Spec PyProof.Rows L2 Y
abbrev szA : List (Int × Int) := [(2, 30), (3, 9), (5, 5), (7, 7), (2, 9), (3, 27), (11, 6), (5, 25)]
abbrev szB : List (Int × Int) := [(3, 30), (5, 30), (7, 30), (11, 20), (13, 16), (47, 4), (43, 5), (2, 30)]
def tD (z : Int × Int) : D := .tup [.int z.1, .int z.2]
structure SzOk (z : Int × Int) : Prop where
  pr : z.1 ∈ primes
  p2 : 2 ≤ z.1
  p47 : z.1 ≤ 47
  n4 : 4 ≤ z.2
  n30 : z.2 ≤ 30
  d : ∀ s, s < 12 → (s = 0 ∨ z.1 ^ (s - 1) < z.2) → z.1 ^ (s + 1) ≤ 2500 ∧ s ≤ 6
  ne : z.1 ≠ 17 ∧ z.1 ≠ 19
theorem sz_ok {z : Int × Int} (h : z ∈ szA ∨ z ∈ szB) : SzOk z := by
  have h : z ∈ szA ++ szB := List.mem_append.mpr h
  have f1 : ∀ z ∈ szA ++ szB, z.1 ∈ primes := by decide
  have f2 : ∀ z ∈ szA ++ szB, 2 ≤ z.1 ∧ z.1 ≤ 47 ∧ 4 ≤ z.2 ∧ z.2 ≤ 30 ∧ z.1 ≠ 17 ∧ z.1 ≠ 19 := by decide
  have f3 : ((szA ++ szB).all fun z => (List.range 12).all fun s => !(decide (s = 0) || decide (z.1 ^ (s - 1) < z.2)) || (decide (z.1 ^ (s + 1) ≤ 2500) && decide (s ≤ 6))) = true := by decide +kernel
  obtain ⟨a, b, c, d, e, f⟩ := f2 z h
  refine ⟨f1 z h, a, b, c, d, fun s hs hc => ?_, e, f⟩
  have g := List.all_eq_true.mp (List.all_eq_true.mp f3 z h) s (List.mem_range.mpr hs)
  have e1 : (decide (s = 0) || decide (z.1 ^ (s - 1) < z.2)) = true := by
    rw [Bool.or_eq_true, decide_eq_true_eq, decide_eq_true_eq]
    exact hc
  rw [e1] at g
  have g2 : (decide (z.1 ^ (s + 1) ≤ 2500) && decide (s ≤ 6)) = true := g
  rw [Bool.and_eq_true, decide_eq_true_eq, decide_eq_true_eq] at g2
  exact g2
theorem trim_facts {r : List Int} (h : r ≠ []) : (trim r).length ≤ r.length ∧ trim r ≠ [] ∧ (∀ i : Nat, i < (trim r).length → gi (trim r) i = gi r i) ∧ ∀ x ∈ trim r, x ∈ r := by
  have h1 := trimN_le r r.length
  have h2 := trimN_pos r r.length (List.length_pos_iff.mpr h)
  have hl : (trim r).length = trim.trimN r r.length := by
    unfold trim
    rw [List.length_take]
    omega
  refine ⟨by omega, fun z => by rw [z] at hl; simp at hl; omega, fun i hi => ?_, fun x hx => List.mem_of_mem_take hx⟩
  unfold gi trim
  rw [Int.toNat_natCast, List.getD_eq_getElem?_getD, List.getD_eq_getElem?_getD, List.getElem?_take_of_lt (by omega)]
theorem look_any {p : Int} {row : List Int} (hp : 2 ≤ p) (hp3 : p < 1000) (h0 : row ≠ []) (hl : row.length ≤ 30) : ∃ s, LookOk p row s := by
  match row, h0, hl with
  | [a], _, _ => exact ⟨0, look_of1 hp hp3⟩
  | a :: b :: r, _, hl => exact ⟨_, look_of (n := r.length) hp hp3 (by simp) (by simp at hl; omega)⟩
theorem lvl_0 (p : Nat) : lvl p 0 = 0 := rfl
theorem dvd_lvl {p n : Int} {k : Nat} (hp : 2 ≤ p) (h : n ≠ 0) (hd : p ^ k ∣ n) : k ≤ dep p n := by
  obtain ⟨u, h1, h2⟩ := dep_ok hp h
  by_cases q : k ≤ dep p n
  · exact q
  · exfalso
    obtain ⟨c, hc⟩ := hd
    obtain ⟨j, hj⟩ : ∃ j, k = dep p n + (j + 1) := ⟨k - dep p n - 1, by omega⟩
    have hp0 : p ^ dep p n ≠ 0 := Int.pow_ne_zero (by omega)
    have e : u = p ^ (j + 1) * c := by
      apply Int.eq_of_mul_eq_mul_left hp0
      rw [← h1, ← Int.mul_assoc, ← Int.pow_add, ← hj]
      exact hc
    rw [e, Int.pow_succ, Int.mul_comm _ p, Int.mul_assoc] at h2
    exact h2 (Int.mul_emod_right _ _)
theorem bnd_neg {p : Int} {row : List Int} (hp : 2 ≤ p) (hd : ∀ i : Nat, i < row.length → p ^ lvl p.toNat i ∣ gi row i) : bndL p row = [] ∨ maxL (bndL p row) ≤ 0 := by
  by_cases e : bndL p row = []
  · exact .inl e
  · right
    have hm := maxL_mem e
    unfold bndL at hm
    obtain ⟨i, hi, ei⟩ := List.mem_map.mp hm
    obtain ⟨h1, h2⟩ := List.mem_filter.mp hi
    have h1 := List.mem_range.mp h1
    have h3 : gi row (1 + (i : Int)) ≠ 0 := by simpa using h2
    have hc : (1 + (i : Int)) = ((1 + i : Nat) : Int) := by omega
    have := dvd_lvl hp h3 (by rw [hc]; exact hd (1 + i) (by omega))
    unfold bndL
    rw [← ei]
    omega
section
variable {K : PySem.W.Frag}
theorem ev_pickD {Γ Γ1 : List Sl} {ta tb : TE} (l : List (Int × Int)) {i : Int} (ha : Ev K ta Γ Γ (.lst (l.map tD))) (hb : Ev K tb Γ Γ1 (.int i)) (h0 : 0 ≤ i) (h1 : i < l.length) : Ev K (tOp (rIx K) ta tb) Γ Γ1 (tD (l.getD i.toNat (0, 0))) := by
  refine ev_op ha hb (rv_ixLL ?_)
  have e : ixN (l.map tD).length i = some i.toNat := by
    unfold ixN
    rw [List.length_map, if_pos h0, if_pos h1]
  unfold atI
  rw [e]
  have hl : i.toNat < l.length := by omega
  simp [hl]
theorem et_orR {Γ Γ1 Γ2 : List Sl} {t u : TT} {b : Bool} (h1 : EvT K t Γ Γ1 false) (h2 : EvT K u Γ1 Γ2 b) : EvT K (tOr t u) Γ Γ2 b := fun B0 F σ B H S Q q => h1 B0 F σ B H S _ fun B1 H1 S1 s1 => h2 B0 F σ B1 H1 S1 Q fun B2 H2 S2 s2 => q B2 H2 S2 (s1.trans s2)
theorem ev_cpU_c {α β : Type} {pre : α → Prop} {rel : α → β → Prop} {vin : α → List D} {din : α → D} {dout : α → β → D} {res : α → β → Res} {W : L2.St → XK} {d : D} {Γ Γ1 : List Sl} {ta : TA} {i : Nat} (a : α) (T : EvA K ta Γ Γ1 (.o i :: (vin a).map .v)) (h1 : Γ1[i]? = some (.ow (din a))) (hp : pre a) (hr : ∀ r, rel a r → res a r = .ret d) :
    Ev K (tCallS (spPR K pre din vin rel dout res) W ta) Γ (Γ1.set i .un) d := fun B0 F σ B H S Q q => by
  refine T B0 F σ B H S _ fun vs B1 H1 S1 s1 a1 => ?_
  cases a1 with
  | cons g r =>
    obtain ⟨p, e, hbp, hfp, _⟩ := S1.ow h1
    have e2 : σ[i]? = some (some _) := g
    rw [e] at e2
    cases e2
    refine ⟨a, B1, cut B1 H1 [p], B1, hp, call_own S1 h1 e r.ats, fun b hb => ?_⟩
    rw [hr b hb]
    intro v B2 H2 S2 s2 av
    have S3 := (S1.backO h1 e S2).un i (some (.ref p))
    have es : σ.set i (some (.ref p)) = σ := by
      apply List.ext_getElem?
      intro j
      by_cases hj : i = j
      · subst hj
        rw [List.getElem?_set_self (List.getElem?_eq_some_iff.mp e).1, e]
      · rw [List.getElem?_set_ne hj]
    rw [es, List.set_set] at S3
    exact q v B2 H2 S3 (s1.trans s2) av
theorem ev_cpU {α β : Type} {pre : α → Prop} {rel : α → β → Prop} {vin : α → List D} {din : α → D} {dout : α → β → D} {res : α → β → Res} {W : L2.St → XK} {d : D} {Γ Γ1 : List Sl} {tr : TA} {i : Nat} {d0 : D} {ds : List D} (a : α) (h0 : Γ[i]? = some (.ow d0)) (h : EvL K tr Γ Γ1 ds) (h1 : Γ1[i]? = some (.ow (din a))) (hv : vin a = ds) (hp : pre a) (hr : ∀ r, rel a r → res a r = .ret d) :
    Ev K (tCallS (spPR K pre din vin rel dout res) W (tCons (tVar i) tr)) Γ (Γ1.set i .un) d := by
  subst hv
  exact ev_cpU_c a (ea_own h0 h) h1 hp hr
theorem rd_law : RdV K (t_law K) 14 (fun l : List Int => l.length ≤ 63) (fun l => [.lsr (zs l)]) (fun _ => .ret (.bl true)) := by
  rintro l hl B0 F R E fit
  show To _ none [.va (.lsr (zs l)), .un, .un, .un, .un, .un, .un, .un, .un, .un, .un, .un, .un, .un, .un] _
  refine sq_setO (eo_cv (a := l) (el_1 (ev_var rfl)) rfl hl rfl) ?_
  have h0 : begun l ≠ [] := by simp [begun]
  generalize begun l = l0 at *
  simp only [List.set]
  refine sq_set (ev_op (ev_draw (i := 1) rfl (el_cons ev_int (el_1 ev_int)) h0 (by decide) (by decide)) ev_int rv_eq) ?_
  have h1 := dr_ne (b := 8) (q := 1) h0
  generalize dr l0 8 1 = z0 at *
  obtain ⟨v, l1⟩ := z0
  simp only [List.set] at h1 ⊢
  generalize decide (v = 0) = great
  refine sq_setS (d := .lst (szA.map tD)) (ev_lsts (el_cons (ev_tups (el_cons ev_int (el_1 ev_int))) (el_cons (ev_tups (el_cons ev_int (el_1 ev_int))) (el_cons (ev_tups (el_cons ev_int (el_1 ev_int))) (el_cons (ev_tups (el_cons ev_int (el_1 ev_int))) (el_cons (ev_tups (el_cons ev_int (el_1 ev_int))) (el_cons (ev_tups (el_cons ev_int (el_1 ev_int))) (el_cons (ev_tups (el_cons ev_int (el_1 ev_int))) (el_1 (ev_tups (el_cons ev_int (el_1 ev_int)))))))))))) ?_
  refine sq_cut [.va (.lsr (zs l)), .ow (.lst (zs l1)), .va (.bl great), .va (.lst ((if great then szB else szA).map tD)), .un, .un, .un, .un, .un, .un, .un, .un, .un, .un, .un] ?_ ?_
  · intro N hN
    refine to_ifS (et_B (ev_var rfl)) (fun hc => ?_) fun hc => ?_
    · rw [hc, if_pos rfl] at hN
      refine to_setS (d := .lst (szB.map tD)) (ev_lsts (el_cons (ev_tups (el_cons ev_int (el_1 ev_int))) (el_cons (ev_tups (el_cons ev_int (el_1 ev_int))) (el_cons (ev_tups (el_cons ev_int (el_1 ev_int))) (el_cons (ev_tups (el_cons ev_int (el_1 ev_int))) (el_cons (ev_tups (el_cons ev_int (el_1 ev_int))) (el_cons (ev_tups (el_cons ev_int (el_1 ev_int))) (el_cons (ev_tups (el_cons ev_int (el_1 ev_int))) (el_1 (ev_tups (el_cons ev_int (el_1 ev_int)))))))))))) ?_
      rw [hc]
      exact hN
    · rw [hc, if_neg (by decide)] at hN
      refine to_next ?_
      rw [hc]
      exact hN
  have a1 := dr_lo (l := l1) (b := 8) (q := 1) (by decide)
  have a2 := dr_hi (l := l1) (b := 8) (q := 1) (by decide)
  have h2 := dr_ne (b := 8) (q := 1) h1
  have sl : ((if great = true then szB else szA) : List (Int × Int)).length = 8 := by split <;> rfl
  refine sq_set (ev_pickD (if great = true then szB else szA) (ev_var rfl) (ev_draw (i := 1) rfl (el_cons ev_int (el_1 ev_int)) h1 (by decide) (by decide)) a1 (by rw [sl]; exact a2)) ?_
  generalize dr l1 8 1 = z0 at *
  obtain ⟨v2, l2⟩ := z0
  simp only [List.set] at a1 a2 h2 ⊢
  have hz : SzOk ((if great = true then szB else szA).getD v2.toNat (0, 0)) := by
    have hm : (if great = true then szB else szA).getD v2.toNat (0, 0) ∈ (if great = true then szB else szA) := by
      rw [List.getD_eq_getElem?_getD, List.getElem?_eq_getElem (by rw [sl]; omega)]
      exact List.getElem_mem _
    refine sz_ok ?_
    split at hm
    · right
      rename_i q
      simp only [q, if_true] at hm ⊢
      exact hm
    · left
      rename_i q
      simp only [q, if_false] at hm ⊢
      exact hm
  generalize (if great = true then szB else szA).getD v2.toNat (0, 0) = z at *
  obtain ⟨p, n⟩ := z
  have p2 := hz.p2
  have p47 := hz.p47
  have n4 := hz.n4
  have n30 := hz.n30
  have hpr := hz.pr
  simp only at p2 p47 n4 n30 hpr
  generalize (if great = true then szB else szA).map tD = szs at *
  refine sq_setS (d := .int p) (ev_op (ev_var rfl) ev_int (rv_ixLT rfl)) ?_
  have b1 := dr_lo (l := l2) (b := n) (q := 4) (by omega)
  have b2 := dr_hi (l := l2) (b := n) (q := 4) (by omega)
  have h3 := dr_ne (b := n) (q := 4) h2
  refine sq_set (ev_op ev_int (ev_draw (i := 1) (b := n) rfl (el_cons (ev_op (ev_var rfl) ev_int (rv_ixLT rfl)) (el_1 ev_int)) h2 (by omega) (by omega)) rv_add) ?_
  generalize dr l2 n 4 = z0 at *
  obtain ⟨c0, l3⟩ := z0
  simp only [List.set] at b1 b2 h3 ⊢
  -- how many entries
  suffices main : ∀ (l4 : List Int) (c : Nat), l4 ≠ [] → 1 ≤ c → (c : Int) ≤ n → To ⟨K, B0, F⟩ none [.va (.lsr (zs l)), .ow (.lst (zs l4)), .va (.bl great), .va (.lst szs), .va (tD (p, n)), .va (.int p), .va (.int c), .un, .un, .un, .un, .un, .un, .un, .un] _ by
    refine sq_cut (Γj := [.va (.lsr (zs l)), .ow (.lst (zs (if great = true then (dr l3 3 0).2 else l3))), .va (.bl great), .va (.lst szs), .va (tD (p, n)), .va (.int p), .va (.int ((if great = true then n - (dr l3 3 0).1 else 1 + c0).toNat : Nat)), .un, .un, .un, .un, .un, .un, .un, .un]) ?_ (main _ _ ?_ ?_ ?_)
    · intro N hN
      have e1 := dr_lo (l := l3) (b := 3) (q := 0) (by decide)
      have e2 := dr_hi (l := l3) (b := 3) (q := 0) (by decide)
      refine to_ifS (et_B (ev_var rfl)) (fun hc => ?_) fun hc => ?_
      · rw [hc, if_pos rfl, if_pos rfl] at hN
        rw [show ((n - (dr l3 3 0).1).toNat : Int) = n - (dr l3 3 0).1 by omega] at hN
        refine to_set (ev_op (ev_op (ev_var rfl) ev_int (rv_ixLT rfl)) (ev_draw (i := 1) rfl (el_cons ev_int (el_1 ev_int)) h3 (by decide) (by decide)) rv_sub) ?_
        rw [hc]
        exact hN
      · rw [hc, if_neg (by decide), if_neg (by decide)] at hN
        rw [show ((1 + c0).toNat : Int) = 1 + c0 by omega] at hN
        refine to_next ?_
        rw [hc]
        exact hN
    · split
      · exact dr_ne h3
      · exact h3
    · have e2 := dr_hi (l := l3) (b := 3) (q := 0) (by decide)
      split <;> omega
    · have e1 := dr_lo (l := l3) (b := 3) (q := 0) (by decide)
      have e2 := dr_hi (l := l3) (b := 3) (q := 0) (by decide)
      split <;> omega
  clear b1 b2 h3 c0 l3
  intro l4 c h4 c1 c2
  refine to_seq ?_
  refine to_setOPR (i := 1) (j := 7) (a := (l4, p, c, great)) rfl (el_cons (ev_var rfl) (el_cons (ev_var rfl) (el_1 (ev_var rfl)))) rfl rfl ⟨h4, p2, p47, c1, by simp only; omega⟩ (fun r _ => rfl) fun r hr => ?_
  obtain ⟨l5, row⟩ := r
  obtain ⟨h5, he⟩ := hr
  simp only at h5 he
  have hlen := he.len
  have r0 : row ≠ [] := fun z => by rw [z] at hlen; simp at hlen; omega
  obtain ⟨t1, t2, t3, t4⟩ := trim_facts r0
  refine to_freeze (i := 7) rfl ?_
  simp only [List.set]
  refine sq_set (EvO.ev (eo_cv (a := row) (el_1 (ev_var rfl)) rfl ⟨r0, by omega⟩ rfl)) ?_
  refine sq_setOS (eo_listL (ev_var rfl)) ?_
  simp only [List.set]
  have ini : IniOk p row := by
    refine ⟨?_, r0, by omega, he.e⟩
    have e : inD (.int p) (zs primes) = decide (p ∈ primes) := inD_ints
    rw [decide_eq_true hpr] at e
    exact e
  refine sq_set (EvO.ev (eo_lend (i := 9) (ds := zs row) (d := mah p (trim row)) rfl (eo_make (cx := "Mahler") (a := (p, row)) (el_cons (ev_var rfl) (el_1 (ev_var rfl))) ini rfl rfl rfl) rfl rfl (fun _ _ h => h) ?_ ?_ (noLs_zs row))) ?_
  · show noLs [.int p, .tup (zs (trim row))] = true
    simp [noLs, noL, noLs_zs]
  · intro j s hj h
    have hm := List.mem_of_getElem? h
    have all : ∀ s ∈ ([.va (.lsr (zs l)), .ow (.lst (zs l5)), .va (.bl great), .va (.lst szs), .va (tD (p, n)), .va (.int p), .va (.int c), .va (.lst (zs row)), .va (.lst (zs (trim row))), .ow (.lst (zs row)), .un, .un, .un, .un, .un] : List Sl), okS s := by
      simp [okS, noO, noLs_zs]
    exact all s hm
  simp only [List.set]
  have hj : ixN (zs row).length (0 : Int) = some 0 := by
    unfold ixN
    rw [if_pos (by decide), if_pos (by simp; omega)]
    rfl
  refine sq_setI (i := 9) (ds := zs row) (ev_op (ev_ixOiS rfl ev_int (by decide) (by omega)) ev_int rv_add) rfl ev_int hj ?_
  -- what holds of the own row
  have hdv : ∀ i : Nat, i < (trim row).length → p ^ lvl p.toNat i ∣ gi (trim row) i := by
    intro i hi
    rw [t3 i hi]
    by_cases q : i = 0
    · subst q
      rw [lvl_0, Int.pow_zero]
      exact Int.one_dvd _
    · exact he.d i (by omega) (by omega)
  have hbd : ∀ x ∈ trim row, x.natAbs < 2 ^ 200 := by
    intro x hx
    have := he.e x (t4 x hx)
    exact natAbs_lt (by omega) (by omega)
  have hneg := bnd_neg p2 hdv
  obtain ⟨s, lk⟩ := look_any (p := p) (row := trim row) p2 (by omega) t2 (by omega)
  have tl : (trim row).length ≤ 30 := by omega
  have tn : ((trim row).length : Int) ≤ n := by omega
  generalize trim row = own at *
  have hs := hz.d s (by have := lk.s10; omega) (by
    rcases lk.lo with z | z
    · exact .inl z
    · right
      simp only
      omega)
  simp only at hs
  obtain ⟨s25, s6⟩ := hs
  have ppos : ∀ k : Nat, 0 < p ^ k := fun k => Int.pow_pos (by omega)
  have pc : ∀ k : Nat, ((p ^ k).toNat : Int) = p ^ k := fun k => by have := ppos k; omega
  have pge : ∀ k : Nat, 2 ≤ p ^ (k + 1) := fun k => by
    have := ipow_le (p := p) (by omega) (show 1 ≤ k + 1 by omega)
    rw [Int.pow_succ, Int.pow_zero, Int.one_mul] at this
    omega
  have same : ∀ {Γ : List Sl} {W : L2.St → XK}, Γ[10]? = some (.va (mah p own)) → Γ[5]? = some (.va (.int p)) → Γ[8]? = some (.va (.lst (zs own))) → Γ[13]? = some (.va (meetG (p, own, s))) → Ev K (tCallS (sp__law_same K) W (tCons (tVar 10) (tCons (tVar 5) (tCons (tVar 8) (tCons (tVar 13) tNil))))) Γ Γ (.bl true) := fun g1 g2 g3 g4 => ev_cv (a := ((p, own, s), meetG (p, own, s))) (el_cons (ev_var g1) (el_cons (ev_var g2) (el_cons (ev_var g3) (el_1 (ev_var g4))))) rfl ⟨lk, s6, s25, hneg, rfl⟩ rfl
  have met : ∀ {Γ : List Sl} {W : L2.St → XK} {k : Nat}, Γ[8]? = some (.va (.lst (zs own))) → Γ[12]? = some (.va (.int (p ^ (k + 1)))) → p ^ (k + 1) ≤ 2500 → Ev K (tCallS (sp__law_met K) W (tCons (tVar 8) (tCons (tVar 12) tNil))) Γ Γ (meetD (resid own (p ^ (k + 1)).toNat)) := fun {Γ W k} g1 g2 g3 => by
    have := pge k
    have := pc (k + 1)
    exact ev_cv (a := (own, (p ^ (k + 1)).toNat)) (ds := [.lst (zs own), .int ((p ^ (k + 1)).toNat : Int)]) (el_cons (ev_var g1) (el_1 (Ev.is (ev_var g2) (by rw [pc])))) rfl ⟨t2, by simp only; omega, hbd, by simp only; omega, by simp only; omega⟩ rfl
  simp only [List.set]
  refine sq_setS (ev_cv (a := (p, own, s)) (el_cons (ev_var rfl) (el_1 (ev_var rfl))) rfl ⟨lk, s6⟩ rfl) ?_
  refine sq_setS (ev_cv (a := (p, s + 1)) (el_cons (ev_var rfl) (el_1 (ev_var rfl))) rfl ⟨by simp only; omega, by simp only; omega, by simp only; omega⟩ rfl) ?_
  refine sq_setS (d := meetG (p, own, s)) (met rfl rfl s25) ?_
  simp only [List.set]
  have refu : ∀ {Γ : List Sl} {W : L2.St → XK}, Γ[1]? = some (.ow (.lst (zs l5))) → Ev K (tCallS (sp__law_refused K) W (tCons (tVar 1) tNil)) Γ (Γ.set 1 .un) (.bl true) := fun g => ev_cpU (i := 1) (a := l5) g el_nil g rfl h5 (fun _ _ => rfl)
  refine to_seq ?_
  refine to_if (b := false) (et_orR (EvT.is (et_not (et_B (same rfl rfl rfl rfl))) rfl) (EvT.is (et_not (et_B (refu rfl))) rfl)) (fun z => by cases z) fun _ => to_next ?_
  refine to_un 9 ?_
  simp only [List.set]
  have shs : ∀ {Γ : List Sl} {W : L2.St → XK}, Γ[10]? = some (.va (mah p own)) → Ev K (tCallS (sp_shuffles K) W (tCons (tVar 10) tNil)) Γ Γ (.bl (isN (meetG (p, own, s)))) := fun g1 => ev_cv (a := (p, own, s)) (el_1 (ev_var g1)) rfl lk (look_ret s25 hneg)
  refine sq_for (α := Unit) (fun k _ => [.va (.lsr (zs l)), .un, .va (.bl great), .va (.lst szs), .va (tD (p, n)), .va (.int p), .va (.int c), .va (.lst (zs row)), .va (.lst (zs own)), .un, .va (mah p own), .va (.int (s + 1 : Nat)), .va (.int (p ^ (s + 1 + k))), .va (meetG (p, own, s)), .un]) (fun _ _ => True) (a0 := ()) (ei_rng1 (el_1 ev_int) (by decide) (by decide)) trivial rfl ?_ ?_
  · intro B1 sb k _ hk _ N hN
    have hk : k < 2 := hk
    have hN := hN () trivial
    have sm : Sm (p ^ (s + 1 + k)) := sm_pow (by omega) (by omega) (by omega)
    refine sq_setS (d := .int (p ^ (s + 1 + k + 1))) (Ev.is (ev_op (ev_var rfl) (ev_var rfl) (rv_mul (sm_mul sm (sm_of (by omega) (by omega))))) (by rw [Int.pow_succ])) ?_
    simp only [List.set]
    refine to_ifS (b := false) (EvT.is (et_and (b := !decide (isN (meetD (resid own (p ^ (s + 1 + k + 1)).toNat)) = isN (meetG (p, own, s)))) (et_test (ev_op (ev_var rfl) ev_int rv_le)) fun hc => et_test (ev_op (ev_op (met (k := s + 1 + k) rfl rfl (by have := of_decide_eq_true hc; omega)) ev_non rv_isN) (shs rfl) rv_neB)) ?_) (fun z => by cases z) fun _ => to_next (to_un 14 hN)
    by_cases q : p ^ (s + 1 + k + 1) ≤ 400
    · have hsm : p.toNat ∈ smallP := by
        rcases small_of_400 (s := s) (j := k + 1) hpr (by omega) q with h | h | h
        · exact h
        · exact absurd h hz.ne.1
        · exact absurd h hz.ne.2
      have e := shuf lk hsm tl hdv (j := k + 1) (by omega) q
      have e2 : isN (meetD (resid own (p ^ (s + 1 + k + 1)).toNat)) = isN (meetG (p, own, s)) := e
      rw [decide_eq_true e2]
      simp
    · rw [decide_eq_false q]
      rfl
  · intro _ _
    refine to_ret (Ev.is (ev_orV (b := true) (ev_op (ev_var rfl) ev_int rv_gt) fun _ => same rfl rfl rfl rfl) ?_) (fit _)
    simp
end
end Z46
set_option maxHeartbeats 4000000
namespace Z46
open PySem PySem.Spec PyProof.Rows L2 Y
/-! ### the defs as data -/
def dn__law_begin : FnD := { at_ := fun K => He.ga K "_law_begin", name := "_law_begin", qual := "_law_begin", params := defArgs s__law_begin, body := defBody s__law_begin, scope := defScope s__law_begin }
def dn__law_draw : FnD := { at_ := fun K => He.ga K "_law_draw", name := "_law_draw", qual := "_law_draw", params := defArgs s__law_draw, body := defBody s__law_draw, scope := defScope s__law_draw }
def dn__law_power : FnD := { at_ := fun K => He.ga K "_law_power", name := "_law_power", qual := "_law_power", params := defArgs s__law_power, body := defBody s__law_power, scope := defScope s__law_power }
def dn__law_level : FnD := { at_ := fun K => He.ga K "_law_level", name := "_law_level", qual := "_law_level", params := defArgs s__law_level, body := defBody s__law_level, scope := defScope s__law_level }
def dn__law_trimmed : FnD := { at_ := fun K => He.ga K "_law_trimmed", name := "_law_trimmed", qual := "_law_trimmed", params := defArgs s__law_trimmed, body := defBody s__law_trimmed, scope := defScope s__law_trimmed }
def dn_look_prime : FnD := { at_ := fun K => He.ga K "look_prime", name := "look_prime", qual := "look_prime", params := defArgs s_look_prime, body := defBody s_look_prime, scope := defScope s_look_prime }
def dn_look_size : FnD := { at_ := fun K => He.ga K "look_size", name := "look_size", qual := "look_size", params := defArgs s_look_size, body := defBody s_look_size, scope := defScope s_look_size }
def dn_look_range : FnD := { at_ := fun K => He.ga K "look_range", name := "look_range", qual := "look_range", params := defArgs s_look_range, body := defBody s_look_range, scope := defScope s_look_range }
def dn__law_steps : FnD := { at_ := fun K => He.ga K "_law_steps", name := "_law_steps", qual := "_law_steps", params := defArgs s__law_steps, body := defBody s__law_steps, scope := defScope s__law_steps }
def dn__law_led : FnD := { at_ := fun K => He.ga K "_law_led", name := "_law_led", qual := "_law_led", params := defArgs s__law_led, body := defBody s__law_led, scope := defScope s__law_led }
def dn_level_of : FnD := { at_ := fun K => He.ga K "level_of", name := "level_of", qual := "level_of", params := defArgs s_level_of, body := defBody s_level_of, scope := defScope s_level_of }
def dn_parted : FnD := { at_ := fun K => He.ga K "parted", name := "parted", qual := "parted", params := defArgs s_parted, body := defBody s_parted, scope := defScope s_parted }
def dn_led_residues : FnD := { at_ := fun K => He.ga K "led_residues", name := "led_residues", qual := "led_residues", params := defArgs s_led_residues, body := defBody s_led_residues, scope := defScope s_led_residues }
def dn_power : FnD := { at_ := fun K => He.ga K "power", name := "power", qual := "power", params := defArgs s_power, body := defBody s_power, scope := defScope s_power }
def dn__law_is : FnD := { at_ := fun K => He.ga K "_law_is", name := "_law_is", qual := "_law_is", params := defArgs s__law_is, body := defBody s__law_is, scope := defScope s__law_is }
def dn__law_number : FnD := { at_ := fun K => He.ga K "_law_number", name := "_law_number", qual := "_law_number", params := defArgs s__law_number, body := defBody s__law_number, scope := defScope s__law_number }
def dn__law_entries : FnD := { at_ := fun K => He.ga K "_law_entries", name := "_law_entries", qual := "_law_entries", params := defArgs s__law_entries, body := defBody s__law_entries, scope := defScope s__law_entries }
def dn_look_list : FnD := { at_ := fun K => He.ga K "look_list", name := "look_list", qual := "look_list", params := defArgs s_look_list, body := defBody s_look_list, scope := defScope s_look_list }
def dn_look_each : FnD := { at_ := fun K => He.ga K "look_each", name := "look_each", qual := "look_each", params := defArgs s_look_each, body := defBody s_look_each, scope := defScope s_look_each }
def dn__law_met : FnD := { at_ := fun K => He.ga K "_law_met", name := "_law_met", qual := "_law_met", params := defArgs s__law_met, body := defBody s__law_met, scope := defScope s__law_met }
def dn_int_depth : FnD := { at_ := fun K => He.ga K "int_depth", name := "int_depth", qual := "int_depth", params := defArgs s_int_depth, body := defBody s_int_depth, scope := defScope s_int_depth }
def dn__law_alike : FnD := { at_ := fun K => He.ga K "_law_alike", name := "_law_alike", qual := "_law_alike", params := defArgs s__law_alike, body := defBody s__law_alike, scope := defScope s__law_alike }
def dn_Mahler___init__ : FnD := { at_ := fun K => He.ma K (He.ga K "Mahler") "__init__", name := "__init__", qual := "Mahler.__init__", params := defArgs s_Mahler___init__, body := defBody s_Mahler___init__, scope := defScope s_Mahler___init__ }
def dn_row_bound : FnD := { at_ := fun K => He.ga K "row_bound", name := "row_bound", qual := "row_bound", params := defArgs s_row_bound, body := defBody s_row_bound, scope := defScope s_row_bound }
def dn_Mahler_bound : FnD := { at_ := fun K => propFn K (He.ga K "Mahler") "bound", name := "bound", qual := "Mahler.bound", params := defArgs s_Mahler_bound, body := defBody s_Mahler_bound, scope := defScope s_Mahler_bound }
def dn__law_wide_first : FnD := { at_ := fun K => He.ga K "_law_wide_first", name := "_law_wide_first", qual := "_law_wide_first", params := defArgs s__law_wide_first, body := defBody s__law_wide_first, scope := defScope s__law_wide_first }
def dn_looked_depth : FnD := { at_ := fun K => He.ga K "looked_depth", name := "looked_depth", qual := "looked_depth", params := defArgs s_looked_depth, body := defBody s_looked_depth, scope := defScope s_looked_depth }
def dn_meeting : FnD := { at_ := fun K => He.ga K "meeting", name := "meeting", qual := "meeting", params := defArgs s_meeting, body := defBody s_meeting, scope := defScope s_meeting }
def dn_shuffle_depth : FnD := { at_ := fun K => He.ga K "shuffle_depth", name := "shuffle_depth", qual := "shuffle_depth", params := defArgs s_shuffle_depth, body := defBody s_shuffle_depth, scope := defScope s_shuffle_depth }
def dn_shuffles : FnD := { at_ := fun K => He.ga K "shuffles", name := "shuffles", qual := "shuffles", params := defArgs s_shuffles, body := defBody s_shuffles, scope := defScope s_shuffles }
def dn__law_same : FnD := { at_ := fun K => He.ga K "_law_same", name := "_law_same", qual := "_law_same", params := defArgs s__law_same, body := defBody s__law_same, scope := defScope s__law_same }
def dn__law_call : FnD := { at_ := fun K => He.ga K "_law_call", name := "_law_call", qual := "_law_call", params := defArgs s__law_call, body := defBody s__law_call, scope := defScope s__law_call }
def dn__law_refused : FnD := { at_ := fun K => He.ga K "_law_refused", name := "_law_refused", qual := "_law_refused", params := defArgs s__law_refused, body := defBody s__law_refused, scope := defScope s__law_refused }
def dn_law : FnD := { at_ := fun K => He.ga K "law", name := "law", qual := "law", params := defArgs s_law, body := defBody s_law, scope := defScope s_law }
def fns : List FnD := [dn__law_begin, dn__law_draw, dn__law_power, dn__law_level, dn__law_trimmed, dn_look_prime, dn_look_size, dn_look_range, dn__law_steps, dn__law_led, dn_level_of, dn_parted, dn_led_residues, dn_power, dn__law_is, dn__law_number, dn__law_entries, dn_look_list, dn_look_each, dn__law_met, dn_int_depth, dn__law_alike, dn_Mahler___init__, dn_row_bound, dn_Mahler_bound, dn__law_wide_first, dn_looked_depth, dn_meeting, dn_shuffle_depth, dn_shuffles, dn__law_same, dn__law_call, dn__law_refused, dn_law]
def er_PrimeError : ErrD := ⟨"PrimeError", ["number"], "PrimeError.__init__", defArgs (inClass (top 5) 0), defBody (inClass (top 5) 0)⟩
def er_SizeError : ErrD := ⟨"SizeError", ["count"], "SizeError.__init__", defArgs (inClass (top 3) 0), defBody (inClass (top 3) 0)⟩
def er_RangeError : ErrD := ⟨"RangeError", ["number"], "RangeError.__init__", defArgs (inClass (top 4) 0), defBody (inClass (top 4) 0)⟩
def ers : List ErrD := [er_PrimeError, er_SizeError, er_RangeError]
def fa : List He.Fa := [.glo "SMALL_PRIMES", .glo "PrimedeepError", .glo "SizeError", .glo "RangeError", .glo "PrimeError", .glo "DepthError", .glo "ZeroError", .glo "MixError", .glo "BarError", .glo "MonicError", .glo "RepeatError", .glo "FieldError", .glo "EditError", .glo "TextError", .glo "HistoryError", .glo "_law_begin", .glo "_law_draw", .glo "_law_power", .glo "_law_level", .glo "_law_trimmed", .glo "look_prime", .glo "look_size", .glo "look_range", .glo "_law_steps", .glo "_law_led", .glo "level_of", .glo "parted", .glo "led_residues", .glo "power", .glo "_law_is", .glo "_law_number", .glo "_law_entries", .glo "look_list", .glo "look_each", .glo "_law_met", .glo "int_depth", .glo "_law_alike", .glo "row_bound", .glo "_law_wide_first", .glo "looked_depth", .glo "meeting", .glo "shuffle_depth", .glo "shuffles", .glo "_law_same", .glo "_law_call", .glo "_law_refused", .glo "law", .glo "Mahler", .free "len", .free "range", .free "int", .free "abs", .free "max", .free "min", .free "sum", .free "all", .free "any", .free "list", .free "tuple", .free "isinstance", .free "zip", .free "enumerate", .free "bool", .free "str", .free "reversed", .free "sorted", .free "ValueError", .free "super", .int "MOST_ROW" 30, .int "MOST_ENTRY" (10 ^ 30), .int "MOST_RESIDUES" 2500, .cls "Mahler", .noat "Mahler" "p", .noat "Mahler" "row", .mkr "Mahler"]
theorem fact {K : PySem.W.Frag} (h : (fa.all fun f => f.ok K) = true) (i : Nat) {f : He.Fa} (hf : fa[i]? = some f := by rfl) : f.ok K = true := List.all_eq_true.mp h f (List.mem_of_getElem? hf)
abbrev flags : List Str := ["SizeError", "RangeError", "PrimeError", "DepthError", "ZeroError", "MixError", "BarError", "MonicError", "RepeatError", "FieldError", "EditError", "TextError", "HistoryError"]
/-- what an error class must tell -/
def fxB (K : PySem.W.Frag) (cx f : Str) : Bool := errIB K (He.ga K cx) && (decide (PySem.W.findIn K (.ref (He.ga K cx)) f = some none) && (decide (PySem.W.exmOne K (.ref (He.ga K cx)) (.ref (He.ga K "PrimedeepError")) = some true) && (decide (PySem.W.kitOne K (.ref (He.ga K cx)) (.type "ValueError") = some true) && flags.all fun C => decide (PySem.W.kitOne K (.ref (He.ga K cx)) (.ref (He.ga K C)) = some (decide (C = cx))))))
theorem fxB_ok {K : PySem.W.Frag} {cx f : Str} (h : fxB K cx f = true) : Fx K cx f := by
  obtain ⟨h1, h⟩ := ba h
  obtain ⟨h2, h⟩ := ba h
  obtain ⟨h3, h⟩ := ba h
  obtain ⟨h4, h5⟩ := ba h
  exact ⟨(errIB_ok h1).1, (errIB_ok h1).2, of_decide_eq_true h2, of_decide_eq_true h3, of_decide_eq_true h4, fun C hC => of_decide_eq_true (List.all_eq_true.mp h5 C hC)⟩
def exB (K : PySem.W.Frag) : Bool := fxB K "SizeError" "count" && (fxB K "RangeError" "number" && (He.tupB K "SMALL_PRIMES" (primes.map He.Dv.int) && propB K (He.ga K "Mahler") "bound"))
theorem zs_at {K : PySem.W.Frag} {B : Hp} : ∀ l : List Int, Ats K B ((l.map He.Dv.int).map (He.Dv.v K)) (zs l)
  | [] => .nil
  | i :: r => .cons (.int i) (zs_at r)
def bs (K : PySem.W.Frag) : Bool := (fa.all fun f => f.ok K) && exB K
abbrev PP : Program := PySem.Challenge.pw_primedeep_k46_shuffles_at_every_depth
theorem ini_PrimeError {K : PySem.W.Frag} {f : Addr} : ∃ (q : YX.Ps) (msg : Str) (j : Nat) (l : List (Str × (Pos × Pos × Pos × Pos))), YX.Ini PP K f er_PrimeError.fs er_PrimeError.qual er_PrimeError.params er_PrimeError.body q msg j l :=
  ⟨⟨_, _, _, _, _, _⟩, _, _, [("number", _, _, _, _)], rfl, ⟨[("self", _), ("number", _)], rfl, rfl⟩, rfl, by decide, by decide, fun us hl => match us, hl with | [_, _], _ => fun _ _ _ _ _ _ => rfl, by decide +kernel, by decide +kernel, by decide +kernel, by decide +kernel, by decide +kernel, by decide +kernel, fun _ _ _ => by rfl, fun _ _ _ => by rfl, fun p hp => by simp only [List.mem_cons, List.not_mem_nil, or_false] at hp; subst hp; exact fun _ _ _ => by rfl⟩
theorem ini_SizeError {K : PySem.W.Frag} {f : Addr} : ∃ (q : YX.Ps) (msg : Str) (j : Nat) (l : List (Str × (Pos × Pos × Pos × Pos))), YX.Ini PP K f er_SizeError.fs er_SizeError.qual er_SizeError.params er_SizeError.body q msg j l :=
  ⟨⟨_, _, _, _, _, _⟩, _, _, [("count", _, _, _, _)], rfl, ⟨[("self", _), ("count", _)], rfl, rfl⟩, rfl, by decide, by decide, fun us hl => match us, hl with | [_, _], _ => fun _ _ _ _ _ _ => rfl, by decide +kernel, by decide +kernel, by decide +kernel, by decide +kernel, by decide +kernel, by decide +kernel, fun _ _ _ => by rfl, fun _ _ _ => by rfl, fun p hp => by simp only [List.mem_cons, List.not_mem_nil, or_false] at hp; subst hp; exact fun _ _ _ => by rfl⟩
theorem ini_RangeError {K : PySem.W.Frag} {f : Addr} : ∃ (q : YX.Ps) (msg : Str) (j : Nat) (l : List (Str × (Pos × Pos × Pos × Pos))), YX.Ini PP K f er_RangeError.fs er_RangeError.qual er_RangeError.params er_RangeError.body q msg j l :=
  ⟨⟨_, _, _, _, _, _⟩, _, _, [("number", _, _, _, _)], rfl, ⟨[("self", _), ("number", _)], rfl, rfl⟩, rfl, by decide, by decide, fun us hl => match us, hl with | [_, _], _ => fun _ _ _ _ _ _ => rfl, by decide +kernel, by decide +kernel, by decide +kernel, by decide +kernel, by decide +kernel, by decide +kernel, fun _ _ _ => by rfl, fun _ _ _ => by rfl, fun p hp => by simp only [List.mem_cons, List.not_mem_nil, or_false] at hp; subst hp; exact fun _ _ _ => by rfl⟩
section
variable {w : World} {K : PySem.W.Frag} {h : Heap} {mg : Str → Option Value}
theorem law_ok (X : K.In h) (G : h.Ns mainGlobals mg) (c : SaysY PP.main.file bs fns ers K) : ∃ fd, (∀ (s : Shared) (u : Value), BindsTo s fd ⟨[u], []⟩ [("script", u)]) ∧ ∀ base : Heap, FnOk PP w K mg base (L2N.CX PP w) 11 (He.ga K "law") fd ["script"] (sp_law K) := by
  obtain ⟨fdL, FnL⟩ := c.def_ 33 (d := dn_law) rfl
  refine ⟨fdL, fun s v => FunD.bindsA (ps := ["script"]) FnL (fun _ _ _ _ _ _ us hl => match us, hl with | [_], _ => rfl) s [v] rfl, fun base => ?_⟩
  have hb := c.bools
  obtain ⟨hfa, hex⟩ := ba hb
  have bn : Bn mg := ⟨He.free_ok X G (fact hfa 48 (f := .free "len")), He.free_ok X G (fact hfa 49 (f := .free "range")), He.free_ok X G (fact hfa 50 (f := .free "int")), He.free_ok X G (fact hfa 51 (f := .free "abs")), He.free_ok X G (fact hfa 52 (f := .free "max")), He.free_ok X G (fact hfa 53 (f := .free "min")), He.free_ok X G (fact hfa 54 (f := .free "sum")), He.free_ok X G (fact hfa 55 (f := .free "all")), He.free_ok X G (fact hfa 56 (f := .free "any")), He.free_ok X G (fact hfa 57 (f := .free "list")), He.free_ok X G (fact hfa 58 (f := .free "tuple")), He.free_ok X G (fact hfa 59 (f := .free "isinstance")), He.free_ok X G (fact hfa 60 (f := .free "zip")), He.free_ok X G (fact hfa 61 (f := .free "enumerate")), He.free_ok X G (fact hfa 62 (f := .free "bool")), He.free_ok X G (fact hfa 63 (f := .free "str")), He.free_ok X G (fact hfa 64 (f := .free "reversed")), He.free_ok X G (fact hfa 65 (f := .free "sorted"))⟩
  have g_SMALL_PRIMES := He.glo_ok X G (fact hfa 0 (f := .glo "SMALL_PRIMES"))
  have g_PrimedeepError := He.glo_ok X G (fact hfa 1 (f := .glo "PrimedeepError"))
  have g_SizeError := He.glo_ok X G (fact hfa 2 (f := .glo "SizeError"))
  have g_RangeError := He.glo_ok X G (fact hfa 3 (f := .glo "RangeError"))
  have g_PrimeError := He.glo_ok X G (fact hfa 4 (f := .glo "PrimeError"))
  have g_DepthError := He.glo_ok X G (fact hfa 5 (f := .glo "DepthError"))
  have g_ZeroError := He.glo_ok X G (fact hfa 6 (f := .glo "ZeroError"))
  have g_MixError := He.glo_ok X G (fact hfa 7 (f := .glo "MixError"))
  have g_BarError := He.glo_ok X G (fact hfa 8 (f := .glo "BarError"))
  have g_MonicError := He.glo_ok X G (fact hfa 9 (f := .glo "MonicError"))
  have g_RepeatError := He.glo_ok X G (fact hfa 10 (f := .glo "RepeatError"))
  have g_FieldError := He.glo_ok X G (fact hfa 11 (f := .glo "FieldError"))
  have g_EditError := He.glo_ok X G (fact hfa 12 (f := .glo "EditError"))
  have g_TextError := He.glo_ok X G (fact hfa 13 (f := .glo "TextError"))
  have g_HistoryError := He.glo_ok X G (fact hfa 14 (f := .glo "HistoryError"))
  have g__law_begin := He.glo_ok X G (fact hfa 15 (f := .glo "_law_begin"))
  have g__law_draw := He.glo_ok X G (fact hfa 16 (f := .glo "_law_draw"))
  have g__law_power := He.glo_ok X G (fact hfa 17 (f := .glo "_law_power"))
  have g__law_level := He.glo_ok X G (fact hfa 18 (f := .glo "_law_level"))
  have g__law_trimmed := He.glo_ok X G (fact hfa 19 (f := .glo "_law_trimmed"))
  have g_look_prime := He.glo_ok X G (fact hfa 20 (f := .glo "look_prime"))
  have g_look_size := He.glo_ok X G (fact hfa 21 (f := .glo "look_size"))
  have g_look_range := He.glo_ok X G (fact hfa 22 (f := .glo "look_range"))
  have g__law_steps := He.glo_ok X G (fact hfa 23 (f := .glo "_law_steps"))
  have g__law_led := He.glo_ok X G (fact hfa 24 (f := .glo "_law_led"))
  have g_level_of := He.glo_ok X G (fact hfa 25 (f := .glo "level_of"))
  have g_parted := He.glo_ok X G (fact hfa 26 (f := .glo "parted"))
  have g_led_residues := He.glo_ok X G (fact hfa 27 (f := .glo "led_residues"))
  have g_power := He.glo_ok X G (fact hfa 28 (f := .glo "power"))
  have g__law_is := He.glo_ok X G (fact hfa 29 (f := .glo "_law_is"))
  have g__law_number := He.glo_ok X G (fact hfa 30 (f := .glo "_law_number"))
  have g__law_entries := He.glo_ok X G (fact hfa 31 (f := .glo "_law_entries"))
  have g_look_list := He.glo_ok X G (fact hfa 32 (f := .glo "look_list"))
  have g_look_each := He.glo_ok X G (fact hfa 33 (f := .glo "look_each"))
  have g__law_met := He.glo_ok X G (fact hfa 34 (f := .glo "_law_met"))
  have g_int_depth := He.glo_ok X G (fact hfa 35 (f := .glo "int_depth"))
  have g__law_alike := He.glo_ok X G (fact hfa 36 (f := .glo "_law_alike"))
  have g_row_bound := He.glo_ok X G (fact hfa 37 (f := .glo "row_bound"))
  have g__law_wide_first := He.glo_ok X G (fact hfa 38 (f := .glo "_law_wide_first"))
  have g_looked_depth := He.glo_ok X G (fact hfa 39 (f := .glo "looked_depth"))
  have g_meeting := He.glo_ok X G (fact hfa 40 (f := .glo "meeting"))
  have g_shuffle_depth := He.glo_ok X G (fact hfa 41 (f := .glo "shuffle_depth"))
  have g_shuffles := He.glo_ok X G (fact hfa 42 (f := .glo "shuffles"))
  have g__law_same := He.glo_ok X G (fact hfa 43 (f := .glo "_law_same"))
  have g__law_call := He.glo_ok X G (fact hfa 44 (f := .glo "_law_call"))
  have g__law_refused := He.glo_ok X G (fact hfa 45 (f := .glo "_law_refused"))
  have g_law := He.glo_ok X G (fact hfa 46 (f := .glo "law"))
  have g_Mahler := He.glo_ok X G (fact hfa 47 (f := .glo "Mahler"))
  have f_ValueError := He.free_ok X G (fact hfa 66 (f := .free "ValueError"))
  have f_super := He.free_ok X G (fact hfa 67 (f := .free "super"))
  obtain ⟨tk_MOST_ROW, m_MOST_ROW⟩ := He.int_ok X G (fact hfa 68 (f := .int "MOST_ROW" 30))
  obtain ⟨tk_MOST_ENTRY, m_MOST_ENTRY⟩ := He.int_ok X G (fact hfa 69 (f := .int "MOST_ENTRY" (10 ^ 30)))
  obtain ⟨tk_MOST_RESIDUES, m_MOST_RESIDUES⟩ := He.int_ok X G (fact hfa 70 (f := .int "MOST_RESIDUES" 2500))
  have e_PrimeError : Err PP K mg "PrimeError" ["number"] := ErrD.err X G (c.err_ 0 (d := er_PrimeError) rfl).1 (c.err_ 0 (d := er_PrimeError) rfl).2 f_super ini_PrimeError
  have e_SizeError : Err PP K mg "SizeError" ["count"] := ErrD.err X G (c.err_ 1 (d := er_SizeError) rfl).1 (c.err_ 1 (d := er_SizeError) rfl).2 f_super ini_SizeError
  have e_RangeError : Err PP K mg "RangeError" ["number"] := ErrD.err X G (c.err_ 2 (d := er_RangeError) rfl).1 (c.err_ 2 (d := er_RangeError) rfl).2 f_super ini_RangeError
  obtain ⟨x1, hex⟩ := ba hex
  obtain ⟨x2, hex⟩ := ba hex
  obtain ⟨x3, x4⟩ := ba hex
  have fs := fxB_ok x1
  have fr := fxB_ok x2
  have pb := propB_ok x4
  have fc : Fc K := ⟨He.cls_ok (fact hfa 71 (f := .cls "Mahler")), He.noat_ok (fact hfa 72 (f := .noat "Mahler" "p")), He.noat_ok (fact hfa 73 (f := .noat "Mahler" "row")), fun B => .tup (He.tupB_ok x3 B) (zs_at _)⟩
  obtain ⟨fd, Fn⟩ := c.def_ 0 (d := dn__law_begin) rfl
  have c__law_begin : Cal PP w K mg base "_law_begin" 1 ["script"] (sp__law_begin K) := ⟨_, fd, g__law_begin, ok_V Fn sc__law_begin (fun _ _ => rfl) rfl (ps__law_begin bn) (rd__law_begin), (Fn.bindsN fun _ _ _ _ _ _ us hl => match us, hl with | [_], _ => rfl), Fn.kp⟩
  obtain ⟨fd, Fn⟩ := c.def_ 1 (d := dn__law_draw) rfl
  have c__law_draw : Cal PP w K mg base "_law_draw" 1 ["pool", "bound", "plus"] (sp__law_draw K) := ⟨_, fd, g__law_draw, ok_P Fn sc__law_draw (fun _ _ => rfl) rfl (ps__law_draw bn) (rd__law_draw), (Fn.bindsN fun _ _ _ _ _ _ us hl => match us, hl with | [_, _, _], _ => rfl), Fn.kp⟩
  obtain ⟨fd, Fn⟩ := c.def_ 2 (d := dn__law_power) rfl
  have c__law_power : Cal PP w K mg base "_law_power" 1 ["base", "exponent"] (sp__law_power K) := ⟨_, fd, g__law_power, ok_V Fn sc__law_power (fun _ _ => rfl) rfl (ps__law_power bn) (rd__law_power), (Fn.bindsN fun _ _ _ _ _ _ us hl => match us, hl with | [_, _], _ => rfl), Fn.kp⟩
  obtain ⟨fd, Fn⟩ := c.def_ 3 (d := dn__law_level) rfl
  have c__law_level : Cal PP w K mg base "_law_level" 1 ["p", "i"] (sp__law_level K) := ⟨_, fd, g__law_level, ok_V Fn sc__law_level (fun _ _ => rfl) rfl (ps__law_level bn) (rd__law_level), (Fn.bindsN fun _ _ _ _ _ _ us hl => match us, hl with | [_, _], _ => rfl), Fn.kp⟩
  obtain ⟨fd, Fn⟩ := c.def_ 4 (d := dn__law_trimmed) rfl
  have c__law_trimmed : Cal PP w K mg base "_law_trimmed" 1 ["row"] (sp__law_trimmed K) := ⟨_, fd, g__law_trimmed, ok_V Fn sc__law_trimmed (fun _ _ => rfl) rfl (ps__law_trimmed bn) (rd__law_trimmed), (Fn.bindsN fun _ _ _ _ _ _ us hl => match us, hl with | [_], _ => rfl), Fn.kp⟩
  obtain ⟨fd, Fn⟩ := c.def_ 5 (d := dn_look_prime) rfl
  have c_look_prime : Cal PP w K mg base "look_prime" 1 ["p"] (sp_look_prime K) := ⟨_, fd, g_look_prime, ok_V Fn sc_look_prime (fun _ _ => rfl) rfl (ps_look_prime bn e_PrimeError g_SMALL_PRIMES) (rd_look_prime fc), (Fn.bindsN fun _ _ _ _ _ _ us hl => match us, hl with | [_], _ => rfl), Fn.kp⟩
  obtain ⟨fd, Fn⟩ := c.def_ 6 (d := dn_look_size) rfl
  have c_look_size : Cal PP w K mg base "look_size" 1 ["count", "low", "high"] (sp_look_size K) := ⟨_, fd, g_look_size, ok_V Fn sc_look_size (fun _ _ => rfl) rfl (ps_look_size bn e_SizeError) (rd_look_size), (Fn.bindsN fun _ _ _ _ _ _ us hl => match us, hl with | [_, _, _], _ => rfl), Fn.kp⟩
  obtain ⟨fd, Fn⟩ := c.def_ 7 (d := dn_look_range) rfl
  have c_look_range : Cal PP w K mg base "look_range" 1 ["number", "low", "high"] (sp_look_range K) := ⟨_, fd, g_look_range, ok_V Fn sc_look_range (fun _ _ => rfl) rfl (ps_look_range bn e_RangeError) (rd_look_range), (Fn.bindsN fun _ _ _ _ _ _ us hl => match us, hl with | [_, _, _], _ => rfl), Fn.kp⟩
  obtain ⟨fd, Fn⟩ := c.def_ 8 (d := dn__law_steps) rfl
  have c__law_steps : Cal PP w K mg base "_law_steps" 1 ["p", "row"] (sp__law_steps K) := ⟨_, fd, g__law_steps, ok_V Fn sc__law_steps (fun _ _ => rfl) rfl (ps__law_steps bn) (rd__law_steps), (Fn.bindsN fun _ _ _ _ _ _ us hl => match us, hl with | [_, _], _ => rfl), Fn.kp⟩
  obtain ⟨fd, Fn⟩ := c.def_ 9 (d := dn__law_led) rfl
  have c__law_led : Cal PP w K mg base "_law_led" 1 ["row", "modulus"] (sp__law_led K) := ⟨_, fd, g__law_led, ok_V Fn sc__law_led (fun _ _ => rfl) rfl (ps__law_led bn) (rd__law_led), (Fn.bindsN fun _ _ _ _ _ _ us hl => match us, hl with | [_, _], _ => rfl), Fn.kp⟩
  obtain ⟨fd, Fn⟩ := c.def_ 10 (d := dn_level_of) rfl
  have c_level_of : Cal PP w K mg base "level_of" 1 ["p", "i"] (sp_level_of K) := ⟨_, fd, g_level_of, ok_V Fn sc_level_of (fun _ _ => rfl) rfl (ps_level_of bn) (rd_level_of), (Fn.bindsN fun _ _ _ _ _ _ us hl => match us, hl with | [_, _], _ => rfl), Fn.kp⟩
  obtain ⟨fd, Fn⟩ := c.def_ 11 (d := dn_parted) rfl
  have c_parted : Cal PP w K mg base "parted" 1 ["p", "n"] (sp_parted K) := ⟨_, fd, g_parted, ok_V Fn sc_parted (fun _ _ => rfl) rfl (ps_parted bn) (rd_parted), (Fn.bindsN fun _ _ _ _ _ _ us hl => match us, hl with | [_, _], _ => rfl), Fn.kp⟩
  obtain ⟨fd, Fn⟩ := c.def_ 12 (d := dn_led_residues) rfl
  have c_led_residues : Cal PP w K mg base "led_residues" 1 ["g", "modulus"] (sp_led_residues K) := ⟨_, fd, g_led_residues, ok_V Fn sc_led_residues (fun _ _ => rfl) rfl (ps_led_residues bn) (rd_led_residues fc), (Fn.bindsN fun _ _ _ _ _ _ us hl => match us, hl with | [_, _], _ => rfl), Fn.kp⟩
  obtain ⟨fd, Fn⟩ := c.def_ 13 (d := dn_power) rfl
  have c_power : Cal PP w K mg base "power" 1 ["base", "exponent"] (sp_power K) := ⟨_, fd, g_power, ok_V Fn sc_power (fun _ _ => rfl) rfl (ps_power bn) (rd_power), (Fn.bindsN fun _ _ _ _ _ _ us hl => match us, hl with | [_, _], _ => rfl), Fn.kp⟩
  obtain ⟨fd, Fn⟩ := c.def_ 14 (d := dn__law_is) rfl
  have c__law_is : Cal PP w K mg base "_law_is" 1 ["told", "due"] (sp__law_is K) := ⟨_, fd, g__law_is, ok_V Fn sc__law_is (fun _ _ => rfl) rfl (ps__law_is bn) (rd__law_is), (Fn.bindsN fun _ _ _ _ _ _ us hl => match us, hl with | [_, _], _ => rfl), Fn.kp⟩
  obtain ⟨fd, Fn⟩ := c.def_ 15 (d := dn__law_number) rfl
  have h__law_number : CalH PP w K mg base "_law_number" 1 ["told"] (sp__law_number K) := ⟨_, fd, g__law_number, ok_VH Fn sc__law_number (fun _ _ => rfl) rfl (psH__law_number bn) (rd__law_number), (Fn.bindsN fun _ _ _ _ _ _ us hl => match us, hl with | [_], _ => rfl), Fn.kp⟩
  obtain ⟨fd, Fn⟩ := c.def_ 16 (d := dn__law_entries) rfl
  have c__law_entries : Cal PP w K mg base "_law_entries" 2 ["pool", "p", "count", "great"] (sp__law_entries K) := ⟨_, fd, g__law_entries, ok_PR Fn sc__law_entries (fun _ _ => rfl) rfl (ps__law_entries bn c__law_draw c__law_power c__law_level) (rd__law_entries), (Fn.bindsN fun _ _ _ _ _ _ us hl => match us, hl with | [_, _, _, _], _ => rfl), Fn.kp⟩
  obtain ⟨fd, Fn⟩ := c.def_ 17 (d := dn_look_list) rfl
  have c_look_list : Cal PP w K mg base "look_list" 2 ["entries", "low", "high"] (sp_look_list K) := ⟨_, fd, g_look_list, ok_V Fn sc_look_list (fun _ _ => rfl) rfl (ps_look_list bn c_look_size) (rd_look_list), (Fn.bindsN fun _ _ _ _ _ _ us hl => match us, hl with | [_, _, _], _ => rfl), Fn.kp⟩
  obtain ⟨fd, Fn⟩ := c.def_ 18 (d := dn_look_each) rfl
  have c_look_each : Cal PP w K mg base "look_each" 2 ["entries", "low", "high"] (sp_look_each K) := ⟨_, fd, g_look_each, ok_V Fn sc_look_each (fun _ _ => rfl) rfl (ps_look_each bn c_look_range) (rd_look_each), (Fn.bindsN fun _ _ _ _ _ _ us hl => match us, hl with | [_, _, _], _ => rfl), Fn.kp⟩
  obtain ⟨fd, Fn⟩ := c.def_ 19 (d := dn__law_met) rfl
  have c__law_met : Cal PP w K mg base "_law_met" 2 ["row", "modulus"] (sp__law_met K) := ⟨_, fd, g__law_met, ok_V Fn sc__law_met (fun _ _ => rfl) rfl (ps__law_met bn c__law_led) (rd__law_met), (Fn.bindsN fun _ _ _ _ _ _ us hl => match us, hl with | [_, _], _ => rfl), Fn.kp⟩
  obtain ⟨fd, Fn⟩ := c.def_ 20 (d := dn_int_depth) rfl
  have c_int_depth : Cal PP w K mg base "int_depth" 2 ["p", "n"] (sp_int_depth K) := ⟨_, fd, g_int_depth, ok_V Fn sc_int_depth (fun _ _ => rfl) rfl (ps_int_depth bn c_parted) (rd_int_depth), (Fn.bindsN fun _ _ _ _ _ _ us hl => match us, hl with | [_, _], _ => rfl), Fn.kp⟩
  obtain ⟨fd, Fn⟩ := c.def_ 21 (d := dn__law_alike) rfl
  have c__law_alike : Cal PP w K mg base "_law_alike" 2 ["told", "due"] (sp__law_alike K) := ⟨_, fd, g__law_alike, ok_V Fn sc__law_alike (fun _ _ => rfl) rfl (ps__law_alike bn c__law_is) (rd__law_alike), (Fn.bindsN fun _ _ _ _ _ _ us hl => match us, hl with | [_, _], _ => rfl), Fn.kp⟩
  obtain ⟨fd, Fn⟩ := c.def_ 17 (d := dn_look_list) rfl
  have c_look_listT : Cal PP w K mg base "look_list" 2 ["entries", "low", "high"] (sp_look_listT K) := ⟨_, fd, g_look_list, ok_V Fn sc_look_listT (fun _ _ => rfl) rfl (ps_look_listT bn c_look_size) (rd_look_listT), (Fn.bindsN fun _ _ _ _ _ _ us hl => match us, hl with | [_, _, _], _ => rfl), Fn.kp⟩
  obtain ⟨fd, Fn⟩ := c.def_ 18 (d := dn_look_each) rfl
  have c_look_eachT : Cal PP w K mg base "look_each" 2 ["entries", "low", "high"] (sp_look_eachT K) := ⟨_, fd, g_look_each, ok_V Fn sc_look_eachT (fun _ _ => rfl) rfl (ps_look_eachT bn c_look_range) (rd_look_eachT), (Fn.bindsN fun _ _ _ _ _ _ us hl => match us, hl with | [_, _, _], _ => rfl), Fn.kp⟩
  obtain ⟨fd, Fn⟩ := c.def_ 22 (d := dn_Mahler___init__) rfl
  have n_Mahler : CalM PP w K mg base "Mahler" 3 ["self", "p", "row"] (sp_Mahler___init__ K) := ⟨_, fd, He.mkr_ok (fact hfa 74 (f := .mkr "Mahler")), g_Mahler, ok_P Fn sc_Mahler___init__ (fun _ _ => rfl) rfl (ps_Mahler___init__ bn c_look_prime c_look_list c_look_each m_MOST_ROW m_MOST_ENTRY) (rd_Mahler___init__ fc), (Fn.bindsN fun _ _ _ _ _ _ us hl => match us, hl with | [_, _, _], _ => rfl)⟩
  obtain ⟨fd, Fn⟩ := c.def_ 23 (d := dn_row_bound) rfl
  have c_row_bound : Cal PP w K mg base "row_bound" 3 ["p", "row"] (sp_row_bound K) := ⟨_, fd, g_row_bound, ok_V Fn sc_row_bound (fun _ _ => rfl) rfl (ps_row_bound bn c_level_of c_int_depth) (rd_row_bound), (Fn.bindsN fun _ _ _ _ _ _ us hl => match us, hl with | [_, _], _ => rfl), Fn.kp⟩
  obtain ⟨fd, Fn⟩ := c.def_ 22 (d := dn_Mahler___init__) rfl
  have n_MahlerT : CalM PP w K mg base "Mahler" 3 ["self", "p", "row"] (sp_MahlerT K) := ⟨_, fd, He.mkr_ok (fact hfa 74 (f := .mkr "Mahler")), g_Mahler, ok_P Fn sc_Mahler___init__T (fun _ _ => rfl) rfl (ps_Mahler___init__T bn c_look_prime c_look_listT c_look_eachT m_MOST_ROW m_MOST_ENTRY) (rd_MahlerT fc), (Fn.bindsN fun _ _ _ _ _ _ us hl => match us, hl with | [_, _, _], _ => rfl)⟩
  obtain ⟨fd, Fn⟩ := c.def_ 24 (d := dn_Mahler_bound) rfl
  have p_Mahler_bound : CalP PP w K mg base "Mahler" "bound" 4 (sp_Mahler_bound K) := ⟨_, _, fd, pb, He.cls_ok (fact hfa 71 (f := .cls "Mahler")), ok_V Fn sc_Mahler_bound (fun _ _ => rfl) rfl (ps_Mahler_bound bn c_row_bound) (rd_Mahler_bound fc), (Fn.bindsN fun _ _ _ _ _ _ us hl => match us, hl with | [_], _ => rfl)⟩
  obtain ⟨fd, Fn⟩ := c.def_ 25 (d := dn__law_wide_first) rfl
  have c__law_wide_first : Cal PP w K mg base "_law_wide_first" 5 ["p", "at", "part", "rest"] (sp__law_wide_first K) := ⟨_, fd, g__law_wide_first, ok_V Fn sc__law_wide_first (fun _ _ => rfl) rfl (ps__law_wide_first bn n_Mahler) (rd__law_wide_first), (Fn.bindsN fun _ _ _ _ _ _ us hl => match us, hl with | [_, _, _, _], _ => rfl), Fn.kp⟩
  obtain ⟨fd, Fn⟩ := c.def_ 26 (d := dn_looked_depth) rfl
  have c_looked_depth : Cal PP w K mg base "looked_depth" 6 ["g"] (sp_looked_depth K) := ⟨_, fd, g_looked_depth, ok_V Fn sc_looked_depth (fun _ _ => rfl) rfl (ps_looked_depth bn p_Mahler_bound e_RangeError e_SizeError m_MOST_RESIDUES) (rd_looked_depth fc), (Fn.bindsN fun _ _ _ _ _ _ us hl => match us, hl with | [_], _ => rfl), Fn.kp⟩
  obtain ⟨fd, Fn⟩ := c.def_ 27 (d := dn_meeting) rfl
  have c_meeting : Cal PP w K mg base "meeting" 7 ["g"] (sp_meeting K) := ⟨_, fd, g_meeting, ok_V Fn sc_meeting (fun _ _ => rfl) rfl (ps_meeting bn c_looked_depth c_led_residues c_power) (rd_meeting fc), (Fn.bindsN fun _ _ _ _ _ _ us hl => match us, hl with | [_], _ => rfl), Fn.kp⟩
  obtain ⟨fd, Fn⟩ := c.def_ 28 (d := dn_shuffle_depth) rfl
  have c_shuffle_depth : Cal PP w K mg base "shuffle_depth" 7 ["g"] (sp_shuffle_depth K) := ⟨_, fd, g_shuffle_depth, ok_V Fn sc_shuffle_depth (fun _ _ => rfl) rfl (ps_shuffle_depth bn c_looked_depth) (rd_shuffle_depth), (Fn.bindsN fun _ _ _ _ _ _ us hl => match us, hl with | [_], _ => rfl), Fn.kp⟩
  obtain ⟨fd, Fn⟩ := c.def_ 29 (d := dn_shuffles) rfl
  have c_shuffles : Cal PP w K mg base "shuffles" 8 ["g"] (sp_shuffles K) := ⟨_, fd, g_shuffles, ok_V Fn sc_shuffles (fun _ _ => rfl) rfl (ps_shuffles bn c_meeting) (rd_shuffles), (Fn.bindsN fun _ _ _ _ _ _ us hl => match us, hl with | [_], _ => rfl), Fn.kp⟩
  obtain ⟨fd, Fn⟩ := c.def_ 30 (d := dn__law_same) rfl
  have c__law_same : Cal PP w K mg base "_law_same" 9 ["g", "p", "own", "due"] (sp__law_same K) := ⟨_, fd, g__law_same, ok_V Fn sc__law_same (fun _ _ => rfl) rfl (ps__law_same bn c_meeting c_shuffles c__law_alike c__law_is c_shuffle_depth c__law_steps) (rd__law_same fc), (Fn.bindsN fun _ _ _ _ _ _ us hl => match us, hl with | [_, _, _, _], _ => rfl), Fn.kp⟩
  obtain ⟨fd, Fn⟩ := c.def_ 31 (d := dn__law_call) rfl
  have c__law_call : Cal PP w K mg base "_law_call" 9 ["word", "g"] (sp__law_call K) := ⟨_, fd, g__law_call, ok_V Fn sc__law_call (fun _ _ => rfl) rfl (ps__law_call bn c_shuffle_depth c_meeting c_shuffles h__law_number g_PrimedeepError g_SizeError g_RangeError g_PrimeError g_DepthError g_ZeroError g_MixError g_BarError g_MonicError g_RepeatError g_FieldError g_EditError g_TextError g_HistoryError f_ValueError) (rd__law_call fs fr), (Fn.bindsN fun _ _ _ _ _ _ us hl => match us, hl with | [_, _], _ => rfl), Fn.kp⟩
  obtain ⟨fd, Fn⟩ := c.def_ 32 (d := dn__law_refused) rfl
  have c__law_refused : Cal PP w K mg base "_law_refused" 10 ["pool"] (sp__law_refused K) := ⟨_, fd, g__law_refused, ok_PR Fn sc__law_refused (fun _ _ => rfl) rfl (ps__law_refused bn c__law_draw c__law_wide_first n_Mahler n_MahlerT c__law_call c__law_level c__law_same) (rd__law_refused fc), (Fn.bindsN fun _ _ _ _ _ _ us hl => match us, hl with | [_], _ => rfl), Fn.kp⟩
  exact ok_V FnL sc_law (fun _ _ => rfl) rfl (ps_law bn c__law_begin c__law_draw c__law_entries c__law_trimmed n_Mahler c__law_steps c__law_power c__law_met c__law_same c__law_refused c_shuffles) (rd_law)
end
abbrev lawIx : Nat := 46
end Z46
set_option maxHeartbeats 0
namespace Z46
open PySem PySem.Spec PyProof.Rows L2 Y
abbrev RR : PySem.W.OpenRow := PySem.W.OpenLaw.row PySem.Challenge.rw_primedeep_k46_shuffles_at_every_depth
abbrev hk : PySem.W.Hook := hookY 6 PP.main.file bs fns ers
def ob (s : PySem.W.SharedT) : AlY := obsYG 6 PP.main.file bs fns ers (HandSHeadRun.getT s)
theorem ob_eq (s : PySem.W.SharedT) : ob s = hk.obs s.abs := obsYG_eq (HandSHeadRun.getT_eq s)
def n1 : List Str := ["_wall", "__name__", "PrimedeepError", "SizeError", "RangeError", "PrimeError", "ZeroError", "DepthError", "MixError", "FieldError", "RepeatError", "MonicError", "BarError", "HistoryError", "EditError", "TextError", "SMALL_PRIMES", "look_prime", "look_range", "look_size", "look_list", "look_each", "power", "parted", "int_depth", "MOST_RESIDUES"]
def n2 : List Str := ["looked_depth", "led_residues", "shuffle_depth", "meeting", "shuffles", "MOST_ROW", "MOST_ENTRY", "level_of", "row_bound", "Mahler", "_law_begin", "_law_draw", "_law_power", "_law_is", "_law_alike", "_law_number", "_law_call", "_law_level", "_law_entries", "_law_trimmed", "_law_led", "_law_met", "_law_steps", "_law_same", "_law_wide_first", "_law_refused"]
def names : List Str := n1 ++ n2
theorem run (w : World) : HandSHeadRun.RunEq RR (PySem.W.view RR.prog [56]) hk ob 40000 names w := by
  intro os
  kernel_rfl
theorem walk_ofY {l : PySem.W.OpenLaw} {n k : Nat} {q : Program} {loose : List Str} {XP : (Str → Option Value) → Heap → Prop} {YP : World → Heap → Prop} {d : DefRec} {CX : World → CXT} {x : Str}
    (hn : l.most = some n) (hn2 : n ≤ sizeLine) (hdf : d.params.defaults = []) (hr : Room k callerA)
    (F : ∀ (w : World) (mg : Str → Option Value) (fa : Addr) (h : Heap), YP w h → h.Ns mainGlobals mg → mg d.name = some (.ref fa) →
      ∃ (K : PySem.W.Frag) (fd : FuncData) (sp : Sp), K.In h ∧ (∀ (s : Shared) (u : Value), BindsTo s fd ⟨[u], []⟩ [(x, u)]) ∧
        (∀ (H : Hp) (a : Addr) (ns : List Int), ns.length ≤ n → Only H → SqL K H a (ns.map V.int) → sp [.ref a] H (fun v _ => v = .bl true) fun _ _ _ => False) ∧
        ∀ base : Heap, K.In base → base.Ns mainGlobals mg → FnOk l.prog w K mg base (CX w) k fa fd [x] sp)
    (hCX : ∀ (w : World) (H : Hp) (s : Shared) (e : Value) (s' : Shared), CX w [] H s (fun _ _ _ => False) e s' → False) :
    PySem.W.WalkO q loose XP YP l.row.toRowW d [] (fun f vs => PySem.call f vs) := by
  refine Att.attach_call hn hdf fun w s₀ s₁ mg mb fa o pm cd doc a vs ns G Y ho hd hcd hmg hobj hints hlen hg => ?_
  obtain ⟨K, fd, sp, KX, hb, hsp, hF⟩ := F w mg fa _ Y G.T.g hmg
  exact law_call KX G.T.g G.T.b G.T.builtins G.T.nolimit hg hobj hints (Nat.le_trans hlen hn2) hr hF hb (fun H hO hS => hsp H a ns hlen hO hS) fun H e s' => hCX w H s₁ e s'
theorem start_ok {K : PySem.W.Frag} {H : Hp} {a : Addr} {ns : List Int} (hl : ns.length ≤ 63) (hS : SqL K H a (ns.map V.int)) : sp_law K [.ref a] H (fun v _ => v = .bl true) fun _ _ _ => False := by
  refine ⟨ns, fun _ => none, fun _ => none, H, hl, ?_, ?_⟩
  · exact Ats.slots (A := ⟨K, fun _ => none, fun _ => none⟩) (ds := [.lsr (zs ns)]) (vs := [.ref a]) (.cons (.lsr hS (ats_int ns)) .nil) (fun _ _ z => by cases z) (Same.refl _) (fun _ _ z => by cases z) fun _ _ z => by cases z
  · intro v B' H' _ _ av
    cases av
    rfl
end Z46
open PySem PySem.W PySem.Calls PyProof.Rows
theorem PySem.Challenge.cw_primedeep_k46_shuffles_at_every_depth_holds : PySem.Challenge.rw_primedeep_k46_shuffles_at_every_depth.Holds := by
  w_on; o_law
  refine HandSHeadRun.head_any (r := OpenLaw.row PySem.Challenge.rw_primedeep_k46_shuffles_at_every_depth) (q := view (OpenLaw.row PySem.Challenge.rw_primedeep_k46_shuffles_at_every_depth).prog [56]) (H := Z46.hk) (ob := Z46.ob) (M := 40000) (loose := Z46.names) (d := HandSHeadRun.topDef (OpenLaw.row PySem.Challenge.rw_primedeep_k46_shuffles_at_every_depth).prog 56) (kwd := []) Z46.ob_eq
    (by kernel_rfl) (fun s => by kernel_rfl) Z46.run (by kernel_rfl) (by kernel_rfl) (by kernel_rfl) (by rfl) (by first | assumption | decide +kernel) (by decide +kernel) ⟨rfl, rfl, rfl, rfl, rfl, by decide +kernel⟩ ?hw ?hc
  case hw => w_witness2
  case hc =>
    refine Z46.walk_ofY (l := PySem.Challenge.rw_primedeep_k46_shuffles_at_every_depth) (n := 63) (k := 11) (x := "script") (CX := fun w => L2N.CX Z46.PP w) rfl (by decide) (by kernel_rfl) ⟨rfl, by decide, by decide⟩ ?F (fun _ _ _ _ _ z => by
      obtain ⟨_, _, _, _, _, _, _, _, _, _, _, _, z⟩ := z
      exact z.elim)
    intro w mg fa h Y G hmg0
    obtain ⟨K, KX, c⟩ := Y
    have hmg : mg ("law" : PySem.Str) = some (.ref fa) := by
      have e : (HandSHeadRun.topDef (OpenLaw.row PySem.Challenge.rw_primedeep_k46_shuffles_at_every_depth).prog 56).name = ("law" : PySem.Str) := by kernel_rfl
      rw [← e]
      exact hmg0
    have hlaw : fa = He.ga K "law" := by
      have g := He.glo_ok KX G (Z46.fact (Y.ba c.bools).1 Z46.lawIx (f := .glo "law"))
      rw [hmg] at g
      cases g
      rfl
    subst hlaw
    obtain ⟨fd, hbd, hF⟩ := Z46.law_ok (w := w) KX G c
    exact ⟨K, fd, Z46.sp_law K, KX, hbd, fun H a ns hl _ hS => Z46.start_ok hl hS, fun base _ _ => hF base⟩
