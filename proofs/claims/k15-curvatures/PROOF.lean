import PyProof.Rows.All
import Wide.All
import OpenK.AllK
import Wide.FinOn
import HandS.ForMost
import HandS.ForExc
import HandS.CallSlots
import HandS.TryMany
import HandS.Evl
import HandS.Flow
import HandS.IsInst
import HandS.Wide
import HandS.Deep
import HandS.TupAny
import HandS.Style
import HandS.Zip
import PyProof.ReprBulk
import HandS.EndBits
import KE.KTupSum
import PySem.Challenge.RW_fourtouch_k15_curvatures_at_words
set_option Elab.async false
set_option linter.all false
set_option maxRecDepth 100000
set_option maxHeartbeats 4000000
namespace DL
open PySem PySem.Spec PyProof.Rows L2 Evl

/-! ## data -/
inductive D where
  | non
  | bl (b : Bool)
  | int (i : Int)
  | str (x : Str)
  | tup (ds : List D)
  | lst (ds : List D)
  | scr (ns : List Int)
  | obj (c : Str) (fs : List (Str × D))

mutual
inductive Rp (K : PySem.W.Frag) (mg : Str → Option Value) (H : Hp) : V → D → Prop
  | non : Rp K mg H .non .non
  | bl (b : Bool) : Rp K mg H (.bl b) (.bl b)
  | int (i : Int) : Rp K mg H (.int i) (.int i)
  | str (x : Str) : Rp K mg H (.str x) (.str x)
  | tup {a : Addr} {xs : List V} {ds : List D} : SqT K H a xs → RpA K mg H xs ds → Rp K mg H (.ref a) (.tup ds)
  | lst {a : Addr} {xs : List V} {ds : List D} : H a = some (.lst xs) → RpA K mg H xs ds → Rp K mg H (.ref a) (.lst ds)
  | scr {a : Addr} {ns : List Int} : SqL K H a (ns.map V.int) → Rp K mg H (.ref a) (.scr ns)
  | obj {a C dx : Addr} {c : Str} {vs : List (Str × V)} {fs : List (Str × D)} : mg c = some (.ref C) → H a = some (.ins C dx vs) → RpF K mg H vs fs → Rp K mg H (.ref a) (.obj c fs)
inductive RpA (K : PySem.W.Frag) (mg : Str → Option Value) (H : Hp) : List V → List D → Prop
  | nil : RpA K mg H [] []
  | cons {v : V} {vs : List V} {d : D} {ds : List D} : Rp K mg H v d → RpA K mg H vs ds → RpA K mg H (v :: vs) (d :: ds)
inductive RpF (K : PySem.W.Frag) (mg : Str → Option Value) (H : Hp) : List (Str × V) → List (Str × D) → Prop
  | nil : RpF K mg H [] []
  | cons {f : Str} {v : V} {vs : List (Str × V)} {d : D} {ds : List (Str × D)} : Rp K mg H v d → RpF K mg H vs ds → RpF K mg H ((f, v) :: vs) ((f, d) :: ds)
end

section
variable {K : PySem.W.Frag} {mg : Str → Option Value} {H H' : Hp}
mutual
theorem Rp.mono (e : Ex H H') : ∀ (d : D) (v : V), Rp K mg H v d → Rp K mg H' v d
  | .non, _, .non => .non
  | .bl _, _, .bl b => .bl b
  | .int _, _, .int b => .int b
  | .str _, _, .str b => .str b
  | .tup ds, _, .tup h r => .tup (ex_t e h) (RpA.mono e ds _ r)
  | .lst ds, _, .lst h r => .lst (e _ _ h) (RpA.mono e ds _ r)
  | .scr _, _, .scr h => .scr (ex_l e h)
  | .obj c fs, _, .obj m h r => .obj m (e _ _ h) (RpF.mono e fs _ r)
theorem RpA.mono (e : Ex H H') : ∀ (ds : List D) (vs : List V), RpA K mg H vs ds → RpA K mg H' vs ds
  | [], _, .nil => .nil
  | d :: ds, _, .cons r t => .cons (Rp.mono e d _ r) (RpA.mono e ds _ t)
theorem RpF.mono (e : Ex H H') : ∀ (ds : List (Str × D)) (vs : List (Str × V)), RpF K mg H vs ds → RpF K mg H' vs ds
  | [], _, .nil => .nil
  | (_, d) :: ds, _, .cons r t => .cons (Rp.mono e d _ r) (RpF.mono e ds _ t)
end
theorem Rp.up {d : D} {v : V} (e : Ex H H') (r : Rp K mg H v d) : Rp K mg H' v d := Rp.mono e d v r
theorem RpA.up {d : List D} {v : List V} (e : Ex H H') (r : RpA K mg H v d) : RpA K mg H' v d := RpA.mono e d v r
theorem RpA.length : ∀ {vs : List V} {ds : List D}, RpA K mg H vs ds → vs.length = ds.length
  | _, _, .nil => rfl
  | _, _, .cons _ t => by simp [RpA.length t]
theorem RpA.get : ∀ {vs : List V} {ds : List D} {i : Nat} {d : D}, RpA K mg H vs ds → ds[i]? = some d → ∃ v, vs[i]? = some v ∧ Rp K mg H v d
  | _, _, i, _, .nil, e => by simp at e
  | _, _, 0, _, .cons r _, e => by simp at e; subst e; exact ⟨_, rfl, r⟩
  | _, _, i + 1, _, .cons _ t, e => by
    obtain ⟨v, h1, h2⟩ := RpA.get (i := i) t (by simpa using e)
    exact ⟨v, by simpa using h1, h2⟩
theorem RpA.getV : ∀ {vs : List V} {ds : List D} {i : Nat} {v : V}, RpA K mg H vs ds → vs[i]? = some v → ∃ d, ds[i]? = some d ∧ Rp K mg H v d
  | _, _, i, _, .nil, e => by simp at e
  | _, _, 0, _, .cons r _, e => by simp at e; subst e; exact ⟨_, rfl, r⟩
  | _, _, i + 1, _, .cons _ t, e => by
    obtain ⟨v, h1, h2⟩ := RpA.getV (i := i) t (by simpa using e)
    exact ⟨v, by simpa using h1, h2⟩
theorem RpA.append : ∀ {vs ws : List V} {ds es : List D}, RpA K mg H vs ds → RpA K mg H ws es → RpA K mg H (vs ++ ws) (ds ++ es)
  | _, _, _, _, .nil, s => s
  | _, _, _, _, .cons r t, s => .cons r (RpA.append t s)
theorem RpA.take : ∀ {vs : List V} {ds : List D} (n : Nat), RpA K mg H vs ds → RpA K mg H (vs.take n) (ds.take n)
  | _, _, 0, _ => .nil
  | _, _, _ + 1, .nil => .nil
  | _, _, n + 1, .cons r t => .cons r (RpA.take n t)
theorem RpA.drop : ∀ {vs : List V} {ds : List D} (n : Nat), RpA K mg H vs ds → RpA K mg H (vs.drop n) (ds.drop n)
  | _, _, 0, r => r
  | _, _, _ + 1, .nil => .nil
  | _, _, n + 1, .cons r t => RpA.drop n t
theorem RpA.set {x : V} {u : D} (r : Rp K mg H x u) : ∀ {xs : List V} {us : List D} (i : Nat), RpA K mg H xs us → RpA K mg H (xs.set i x) (us.set i u)
  | _, _, _, .nil => .nil
  | _, _, 0, .cons _ t => .cons r t
  | _, _, i + 1, .cons q t => .cons q (RpA.set r i t)
theorem RpA.reverse : ∀ {xs : List V} {us : List D}, RpA K mg H xs us → RpA K mg H xs.reverse us.reverse
  | _, _, .nil => .nil
  | _, _, .cons q t => by
    rw [List.reverse_cons, List.reverse_cons]
    exact RpA.append (RpA.reverse t) (.cons q .nil)
theorem RpA.dropLast {xs : List V} {us : List D} (h : RpA K mg H xs us) : RpA K mg H xs.dropLast us.dropLast := by
  rw [List.dropLast_eq_take, List.dropLast_eq_take, h.length]
  exact h.take _
theorem RpA.ints : ∀ {ns : List Int} {vs : List V}, RpA K mg H vs (ns.map D.int) → vs = ns.map V.int
  | [], _, .nil => rfl
  | n :: ns, _, .cons (.int _) t => by rw [RpA.ints t]; rfl
theorem RpA.of_ints : ∀ (ns : List Int), RpA K mg H (ns.map V.int) (ns.map D.int)
  | [] => .nil
  | n :: ns => .cons (.int _) (RpA.of_ints ns)
theorem RpA.bls : ∀ {ns : List Bool} {vs : List V}, RpA K mg H vs (ns.map D.bl) → vs = ns.map V.bl
  | [], _, .nil => rfl
  | n :: ns, _, .cons (.bl _) t => by rw [RpA.bls t]; rfl
theorem RpA.strs : ∀ {ns : List Str} {vs : List V}, RpA K mg H vs (ns.map D.str) → vs = ns.map V.str
  | [], _, .nil => rfl
  | n :: ns, _, .cons (.str _) t => by rw [RpA.strs t]; rfl
theorem RpA.of_strs : ∀ (ns : List Str), RpA K mg H (ns.map V.str) (ns.map D.str)
  | [] => .nil
  | n :: ns => .cons (.str _) (RpA.of_strs ns)
end

/-! ## outcomes -/
inductive R (α : Type) where
  | ok (a : α)
  | ex (c : Str) (fs : List (Str × D))

inductive Sl where
  | any
  | val (d : D)
  | own (ds : List D)
abbrev Rho := List Sl

inductive Out where
  | nx (ρ : Rho)
  | rt (d : D)
  | bk (ρ : Rho)
  | ct (ρ : Rho)
  | ex (c : Str) (fs : List (Str × D)) (ρ : Rho)

/-- F: what stands for good; H: all -/
structure Stp (F H F' H' : Hp) : Prop where
  ef : Ex F F'
  eh : Ex H H'
  sub : Ex F' H'
  ag : ∀ a, H a ≠ none → F' a = F a
theorem Stp.refl {F H : Hp} (h : Ex F H) : Stp F H F H := ⟨Ex.refl _, Ex.refl _, h, fun _ _ => rfl⟩
theorem Stp.trans {F H F1 H1 F2 H2 : Hp} (a : Stp F H F1 H1) (b : Stp F1 H1 F2 H2) : Stp F H F2 H2 :=
  ⟨a.ef.trans b.ef, a.eh.trans b.eh, b.sub, fun x hx => by
    have : H1 x ≠ none := by
      cases e : H x with
      | none => exact absurd e hx
      | some o => rw [a.eh x o e]; simp
    rw [b.ag x this, a.ag x hx]⟩
/-- a new object, for good -/
theorem Stp.new {F H : Hp} {p : Addr} {o : HO} (h : Ex F H) (hp : H p = none) : Stp F H (upd F p o) (upd H p o) := by
  have fp : F p = none := by
    cases e : F p with
    | none => rfl
    | some u => rw [h p u e] at hp; cases hp
  refine ⟨Ex.new fp, Ex.new hp, fun a u e => ?_, fun a ha => ?_⟩
  · by_cases q : a = p
    · subst q; rw [upd_same] at e ⊢; exact e
    · rw [upd_ne q] at e ⊢; exact h a u e
  · have q : a ≠ p := by rintro rfl; exact ha hp
    rw [upd_ne q]
/-- a new object, not yet for good -/
theorem Stp.newO {F H : Hp} {p : Addr} {o : HO} (h : Ex F H) (hp : H p = none) : Stp F H F (upd H p o) :=
  ⟨Ex.refl _, Ex.new hp, h.trans (Ex.new hp), fun _ _ => rfl⟩

def ExR (K : PySem.W.Frag) (mg : Str → Option Value) (cls : Value) (dd : Option Addr) (H : Hp) (c : Str) (fs : List (Str × D)) : Prop :=
  ∃ C, mg c = some (.ref C) ∧ cls = .ref C ∧ (fs ≠ [] → ∃ d vs, dd = some d ∧ H d = some (.xd vs) ∧ RpF K mg H vs fs)

structure EnvS (K : PySem.W.Frag) (mg : Str → Option Value) (F0 H0 F H : Hp) (σ : L2.St) (ρ : Rho) : Prop where
  st : Stp F0 H0 F H
  len : σ.length = ρ.length
  vals : ∀ (i : Nat) (d : D), ρ[i]? = some (Sl.val d) → ∃ v, σ[i]? = some (some v) ∧ Rp K mg F v d
  owns : ∀ (i : Nat) (ds : List D), ρ[i]? = some (Sl.own ds) → ∃ l xs, σ[i]? = some (some (.ref l)) ∧ H0 l = none ∧ F l = none ∧ H l = some (.lst xs) ∧ RpA K mg F xs ds
  dist : ∀ (i j : Nat) (ds es : List D), i ≠ j → ρ[i]? = some (Sl.own ds) → ρ[j]? = some (Sl.own es) → σ[i]? ≠ σ[j]?

section
variable {K : PySem.W.Frag} {mg : Str → Option Value} {F0 H0 F H F' H' : Hp} {σ : L2.St} {ρ : Rho}
theorem EnvS.sub (e : EnvS K mg F0 H0 F H σ ρ) : Ex F H := e.st.sub
theorem EnvS.step (e : EnvS K mg F0 H0 F H σ ρ) (s : Stp F H F' H') : EnvS K mg F0 H0 F' H' σ ρ := by
  refine ⟨e.st.trans s, e.len, fun i d h => ?_, fun i ds h => ?_, e.dist⟩
  · obtain ⟨v, h1, h2⟩ := e.vals i d h
    exact ⟨v, h1, h2.up s.ef⟩
  · obtain ⟨l, xs, h1, h2, h3, h4, h5⟩ := e.owns i ds h
    refine ⟨l, xs, h1, h2, ?_, s.eh l _ h4, h5.up s.ef⟩
    rw [s.ag l (by rw [h4]; simp), h3]
/-- seen from now on -/
theorem EnvS.now (e : EnvS K mg F0 H0 F H σ ρ) (h : ∀ (i : Nat) (ds : List D), ρ[i]? ≠ some (Sl.own ds)) : EnvS K mg F H F H σ ρ :=
  ⟨Stp.refl e.sub, e.len, e.vals, fun i ds q => absurd q (h i ds), fun i j ds es _ q => absurd q (h i ds)⟩
theorem EnvS.setVal (e : EnvS K mg F0 H0 F H σ ρ) {i : Nat} {v : V} {d : D} (r : Rp K mg F v d) : EnvS K mg F0 H0 F H (σ.set i (some v)) (ρ.set i (.val d)) := by
  have hl := e.len
  refine ⟨e.st, by simp [hl], fun j d' h => ?_, fun j ds h => ?_, fun j k ds es hjk h1 h2 => ?_⟩
  · by_cases q : i = j
    · subst q
      have hi : i < ρ.length := by
        have := List.getElem?_eq_some_iff.mp h
        simpa using this.1
      rw [List.getElem?_set_self hi] at h
      cases h
      exact ⟨v, by rw [List.getElem?_set_self (by omega)], r⟩
    · rw [List.getElem?_set_ne q] at h ⊢
      exact e.vals j d' h
  · by_cases q : i = j
    · subst q
      have hi : i < ρ.length := by
        have := List.getElem?_eq_some_iff.mp h
        simpa using this.1
      rw [List.getElem?_set_self hi] at h
      cases h
    · rw [List.getElem?_set_ne q] at h ⊢
      exact e.owns j ds h
  · have nj : i ≠ j := by
      rintro rfl
      have hi : i < ρ.length := by
        have := List.getElem?_eq_some_iff.mp h1
        simpa using this.1
      rw [List.getElem?_set_self hi] at h1
      cases h1
    have nk : i ≠ k := by
      rintro rfl
      have hi : i < ρ.length := by
        have := List.getElem?_eq_some_iff.mp h2
        simpa using this.1
      rw [List.getElem?_set_self hi] at h2
      cases h2
    rw [List.getElem?_set_ne nj] at h1 ⊢
    rw [List.getElem?_set_ne nk] at h2 ⊢
    exact e.dist j k ds es hjk h1 h2
theorem lt_of_get {α : Type} {l : List α} {i : Nat} {a : α} (h : l[i]? = some a) : i < l.length := (List.getElem?_eq_some_iff.mp h).1
/-- a new list of our own -/
theorem EnvS.setOwn (e : EnvS K mg F0 H0 F H σ ρ) {i : Nat} {l : Addr} {xs : List V} {ds : List D} (h0 : H0 l = none) (hf : F l = none) (hh : H l = some (.lst xs)) (hn : ∀ (j : Nat) (es : List D), ρ[j]? = some (Sl.own es) → σ[j]? ≠ some (some (.ref l)))
    (r : RpA K mg F xs ds) : EnvS K mg F0 H0 F H (σ.set i (some (.ref l))) (ρ.set i (.own ds)) := by
  have hl := e.len
  refine ⟨e.st, by simp [hl], fun j d' h => ?_, fun j es h => ?_, fun j k ds1 es1 hjk h1 h2 => ?_⟩
  · by_cases q : i = j
    · subst q
      have hi : i < ρ.length := by simpa using lt_of_get h
      rw [List.getElem?_set_self hi] at h
      cases h
    · rw [List.getElem?_set_ne q] at h ⊢
      exact e.vals j d' h
  · by_cases q : i = j
    · subst q
      have hi : i < ρ.length := by simpa using lt_of_get h
      rw [List.getElem?_set_self hi] at h
      cases h
      exact ⟨l, xs, by rw [List.getElem?_set_self (by omega)], h0, hf, hh, r⟩
    · rw [List.getElem?_set_ne q] at h ⊢
      exact e.owns j es h
  · by_cases qj : i = j
    · subst qj
      have hi : i < ρ.length := by simpa using lt_of_get h1
      have hk : i ≠ k := hjk
      rw [List.getElem?_set_ne hk] at h2
      rw [List.getElem?_set_self (by omega), List.getElem?_set_ne hk]
      intro z
      exact hn k es1 h2 z.symm
    · rw [List.getElem?_set_ne qj] at h1 ⊢
      by_cases qk : i = k
      · subst qk
        have hi : i < ρ.length := by simpa using lt_of_get h2
        rw [List.getElem?_set_self (by omega)]
        exact hn j ds1 h1
      · rw [List.getElem?_set_ne qk] at h2 ⊢
        exact e.dist j k ds1 es1 hjk h1 h2
/-- an own list changes -/
theorem EnvS.mutOwn (e : EnvS K mg F0 H0 F H σ ρ) {i : Nat} {l : Addr} {xs : List V} {ds es : List D} (hi : ρ[i]? = some (Sl.own ds)) (hs : σ[i]? = some (some (.ref l))) (r : RpA K mg F xs es) :
    EnvS K mg F0 H0 F (upd H l (.lst xs)) σ (ρ.set i (.own es)) := by
  obtain ⟨l', xs', h1, h2, h3, h4, h5⟩ := e.owns i ds hi
  rw [hs] at h1
  cases h1
  have hil := lt_of_get hi
  have hnf : ∀ a o, F a = some o → a ≠ l := by rintro a o q rfl; rw [h3] at q; cases q
  refine ⟨⟨e.st.ef, fun a o q => ?_, fun a o q => ?_, e.st.ag⟩, by simp [e.len], fun j d h => ?_, fun j fs h => ?_, fun j k ds1 es1 hjk h1 h2 => ?_⟩
  · rw [upd_ne (by rintro rfl; rw [h2] at q; cases q)]; exact e.st.eh a o q
  · rw [upd_ne (hnf a o q)]; exact e.sub a o q
  · have q : i ≠ j := by
      rintro rfl
      rw [List.getElem?_set_self hil] at h
      cases h
    rw [List.getElem?_set_ne q] at h
    exact e.vals j d h
  · by_cases q : i = j
    · subst q
      rw [List.getElem?_set_self hil] at h
      cases h
      exact ⟨l, xs, hs, h2, h3, upd_same, r⟩
    · rw [List.getElem?_set_ne q] at h
      obtain ⟨l2, ys, g1, g2, g3, g4, g5⟩ := e.owns j fs h
      refine ⟨l2, ys, g1, g2, g3, ?_, g5⟩
      rw [upd_ne]
      · exact g4
      · rintro rfl
        exact e.dist i j ds fs q hi h (by rw [hs, g1])
  · have f : ∀ (j : Nat) (es1 : List D), (ρ.set i (.own es))[j]? = some (Sl.own es1) → ∃ es2, ρ[j]? = some (Sl.own es2) := fun j es1 h => by
      by_cases q : i = j
      · subst q; exact ⟨ds, hi⟩
      · rw [List.getElem?_set_ne q] at h; exact ⟨es1, h⟩
    obtain ⟨a, ha⟩ := f j ds1 h1
    obtain ⟨b, hb⟩ := f k es1 h2
    exact e.dist j k a b hjk ha hb
/-- an own list is left as it is from now on -/
theorem EnvS.freeze (e : EnvS K mg F0 H0 F H σ ρ) {i : Nat} {ds : List D} (hi : ρ[i]? = some (Sl.own ds)) : ∃ F', EnvS K mg F0 H0 F' H σ (ρ.set i (.val (.lst ds))) ∧ Ex F F' := by
  obtain ⟨l, xs, h1, h2, h3, h4, h5⟩ := e.owns i ds hi
  have hil := lt_of_get hi
  have ef : Ex F (upd F l (.lst xs)) := Ex.new h3
  refine ⟨upd F l (.lst xs), ⟨⟨e.st.ef.trans ef, e.st.eh, fun a o q => ?_, fun a ha => ?_⟩, by simp [e.len], fun j d h => ?_, fun j es h => ?_, fun j k ds1 es1 hjk g1 g2 => ?_⟩, ef⟩
  · by_cases z : a = l
    · subst z; rw [upd_same] at q; cases q; exact h4
    · rw [upd_ne z] at q; exact e.sub a o q
  · rw [upd_ne (by rintro rfl; exact ha h2)]; exact e.st.ag a ha
  · by_cases q : i = j
    · subst q
      rw [List.getElem?_set_self hil] at h
      cases h
      exact ⟨_, h1, .lst upd_same (h5.up ef)⟩
    · rw [List.getElem?_set_ne q] at h
      obtain ⟨v, g1, g2⟩ := e.vals j d h
      exact ⟨v, g1, g2.up ef⟩
  · have q : i ≠ j := by
      rintro rfl
      rw [List.getElem?_set_self hil] at h
      cases h
    rw [List.getElem?_set_ne q] at h
    obtain ⟨l2, ys, g1, g2, g3, g4, g5⟩ := e.owns j es h
    refine ⟨l2, ys, g1, g2, ?_, g4, g5.up ef⟩
    rw [upd_ne]
    · exact g3
    · rintro rfl
      exact e.dist i j ds es q hi h (by rw [h1, g1])
  · have f : ∀ (j : Nat) (es1 : List D), (ρ.set i (.val (.lst ds)))[j]? = some (Sl.own es1) → ρ[j]? = some (Sl.own es1) := fun j es1 h => by
      by_cases q : i = j
      · subst q
        rw [List.getElem?_set_self hil] at h
        cases h
      · rw [List.getElem?_set_ne q] at h; exact h
    exact e.dist j k ds1 es1 hjk (f j ds1 g1) (f k es1 g2)
/-- less is known -/
inductive Le : Rho → Rho → Prop
  | nil : Le [] []
  | any {s : Sl} {a b : Rho} : Le a b → Le (s :: a) (.any :: b)
  | same {s : Sl} {a b : Rho} : Le a b → Le (s :: a) (s :: b)
theorem Le.refl : ∀ (a : Rho), Le a a
  | [] => .nil
  | _ :: a => .same (Le.refl a)
theorem Le.length : ∀ {a b : Rho}, Le a b → a.length = b.length
  | _, _, .nil => rfl
  | _, _, .any t => by simp [t.length]
  | _, _, .same t => by simp [t.length]
theorem Le.get : ∀ {a b : Rho} {i : Nat} {s : Sl}, Le a b → b[i]? = some s → s ≠ .any → a[i]? = some s
  | _, _, i, s, .nil, e, _ => by simp at e
  | _, _, 0, s, .any _, e, n => by simp at e; exact absurd e.symm n
  | _, _, 0, s, .same _, e, n => by simpa using e
  | _, _, i + 1, s, .any t, e, n => by simpa using t.get (i := i) (by simpa using e) n
  | _, _, i + 1, s, .same t, e, n => by simpa using t.get (i := i) (by simpa using e) n
theorem EnvS.weaken {ρ' : Rho} (e : EnvS K mg F0 H0 F H σ ρ) (h : Le ρ ρ') : EnvS K mg F0 H0 F H σ ρ' :=
  ⟨e.st, e.len.trans h.length, fun i d q => e.vals i d (h.get q (by simp)), fun i d q => e.owns i d (h.get q (by simp)), fun i j ds es n q r => e.dist i j ds es n (h.get q (by simp)) (h.get r (by simp))⟩
end
end DL

namespace DL
open PySem PySem.Spec PyProof.Rows L2 Evl

/-! ## weakest readings -/
def wE (X : Cx) (e : Expr) : TE := fun σ H Q => ∃ t, PE X e t ∧ t σ H Q
def wT (X : Cx) (e : Expr) : TT := fun σ H Q => ∃ t, PT X e t ∧ t σ H Q
def wW (X : Cx) (e : Expr) : TT := fun σ H Q => ∃ t, PW X e t ∧ t σ H Q
def wA (X : Cx) (e : List Expr) : TA := fun σ H Q => ∃ t, PA X e t ∧ t σ H Q
def wS (X : Cx) (e : Stmt) : TS := fun D σ H => ∃ t, PS X e t ∧ t D σ H
def wSs (X : Cx) (e : List Stmt) : TS := fun D σ H => ∃ t, PSs X e t ∧ t D σ H
def wG (X : Cx) (e : Expr) : TG := fun v σ H Q => ∃ t, PG X e t ∧ t v σ H Q
def wGs (X : Cx) (e : List Expr) : TGs := fun v σ H Q => ∃ t, PGs X e t ∧ t v σ H Q
def wI (X : Cx) (tg e : Expr) : TI := fun σ H Q => ∃ t, PI X tg e t ∧ t σ H Q
def wTs (X : Cx) (e : List Expr) : TT := fun σ H Q => ∃ t, PTs X e t ∧ t σ H Q
section
variable {X : Cx} {e tg : Expr} {es : List Expr} {st : Stmt} {sts : List Stmt}
theorem pe_w : PE X e (wE X e) := ⟨fun pins s σ H Q I h => by obtain ⟨t, h, q⟩ := h; exact h.run pins s σ H Q I q⟩
theorem pt_w : PT X e (wT X e) := ⟨fun pins s σ H Q I h => by obtain ⟨t, h, q⟩ := h; exact h.run pins s σ H Q I q⟩
theorem pw_w : PW X e (wW X e) := ⟨fun wh pins s σ H Q I h => by obtain ⟨t, h, q⟩ := h; exact h.run wh pins s σ H Q I q⟩
theorem pa_w : PA X es (wA X es) := ⟨fun pos pins s σ H Q I h => by obtain ⟨t, h, q⟩ := h; exact h.run pos pins s σ H Q I q⟩
theorem ps_w : PS X st (wS X st) := ⟨fun pins s σ H D I h => by obtain ⟨t, h, q⟩ := h; exact h.run pins s σ H D I q⟩
theorem pss_w : PSs X sts (wSs X sts) := ⟨fun pins s σ H D I h => by obtain ⟨t, h, q⟩ := h; exact h.run pins s σ H D I q⟩
theorem pg_w : PG X e (wG X e) := ⟨fun pins s σ H v u Q I r h => by obtain ⟨t, h, q⟩ := h; exact h.run pins s σ H v u Q I r q⟩
theorem pgs_w : PGs X es (wGs X es) := ⟨fun pins s σ H v u Q I r h => by obtain ⟨t, h, q⟩ := h; exact h.run pins s σ H v u Q I r q⟩
theorem pi_w : PI X tg e (wI X tg e) := ⟨fun pins s σ H R I h => by obtain ⟨t, h, q⟩ := h; exact h.run pins s σ H R I q⟩
theorem pts_w : PTs X es (wTs X es) := ⟨fun pins s σ H Q I h => by obtain ⟨t, h, q⟩ := h; exact h.run pins s σ H Q I q⟩
end

/-! ## posts -/
def PostE (K : PySem.W.Frag) (mg : Str → Option Value) (W : WX) (σ : L2.St) (F H : Hp) (Q : VK) : R D → Prop
  | .ok d => ∀ v F' H', Stp F H F' H' → Rp K mg F' v d → Q v H'
  | .ex c fs => ∀ cls dd F' H', Stp F H F' H' → ExR K mg cls dd H' c fs → W cls dd σ H'
def PostT (K : PySem.W.Frag) (mg : Str → Option Value) (W : WX) (σ : L2.St) (F H : Hp) (Q : Bool → Hp → Prop) : R Bool → Prop
  | .ok d => ∀ F' H', Stp F H F' H' → Q d H'
  | .ex c fs => ∀ cls dd F' H', Stp F H F' H' → ExR K mg cls dd H' c fs → W cls dd σ H'
def PostA (K : PySem.W.Frag) (mg : Str → Option Value) (W : WX) (σ : L2.St) (F H : Hp) (Q : List V → Hp → Prop) : R (List D) → Prop
  | .ok d => ∀ v F' H', Stp F H F' H' → RpA K mg F' v d → Q v H'
  | .ex c fs => ∀ cls dd F' H', Stp F H F' H' → ExR K mg cls dd H' c fs → W cls dd σ H'
/-- a new list, held by nobody -/
def PostL (K : PySem.W.Frag) (mg : Str → Option Value) (F H : Hp) (Q : VK) (ds : List D) : Prop :=
  ∀ l xs F' H', Stp F H F' H' → F' l = none → H l = none → H' l = some (.lst xs) → RpA K mg F' xs ds → Q (.ref l) H'
def PostS (K : PySem.W.Frag) (mg : Str → Option Value) (W : WX) (F0 H0 : Hp) (Dn : Ends) : Out → Prop
  | .nx ρ => ∀ F H σ, EnvS K mg F0 H0 F H σ ρ → Dn.nx σ H
  | .rt d => ∀ v F H, Stp F0 H0 F H → Rp K mg F v d → Dn.rt v H
  | .bk ρ => ∀ F H σ, EnvS K mg F0 H0 F H σ ρ → Dn.bk σ H
  | .ct ρ => ∀ F H σ, EnvS K mg F0 H0 F H σ ρ → Dn.ct σ H
  | .ex c fs ρ => ∀ cls dd F H σ, EnvS K mg F0 H0 F H σ ρ → ExR K mg cls dd H c fs → W cls dd σ H

def DE (X : Cx) (W : WX) (e : Expr) (ρ : Rho) (r : R D) : Prop := ∀ F0 H0 F H σ Q, EnvS X.K X.mg F0 H0 F H σ ρ → PostE X.K X.mg W σ F H Q r → wE X e σ H Q
def DT (X : Cx) (W : WX) (e : Expr) (ρ : Rho) (r : R Bool) : Prop := ∀ F0 H0 F H σ Q, EnvS X.K X.mg F0 H0 F H σ ρ → PostT X.K X.mg W σ F H Q r → wT X e σ H Q
def DW (X : Cx) (W : WX) (e : Expr) (ρ : Rho) (r : R Bool) : Prop := ∀ F0 H0 F H σ Q, EnvS X.K X.mg F0 H0 F H σ ρ → PostT X.K X.mg W σ F H Q r → wW X e σ H Q
def DTs (X : Cx) (W : WX) (e : List Expr) (ρ : Rho) (r : R Bool) : Prop := ∀ F0 H0 F H σ Q, EnvS X.K X.mg F0 H0 F H σ ρ → PostT X.K X.mg W σ F H Q r → wTs X e σ H Q
def DA (X : Cx) (W : WX) (e : List Expr) (ρ : Rho) (r : R (List D)) : Prop := ∀ F0 H0 F H σ Q, EnvS X.K X.mg F0 H0 F H σ ρ → PostA X.K X.mg W σ F H Q r → wA X e σ H Q
def DF (X : Cx) (W : WX) (e : Expr) (ρ : Rho) (ds : List D) : Prop := ∀ F0 H0 F H σ Q, EnvS X.K X.mg F0 H0 F H σ ρ → PostL X.K X.mg F H Q ds → wE X e σ H Q
def DS (X : Cx) (W : WX) (e : Stmt) (ρ : Rho) (r : Out) : Prop := ∀ F0 H0 F H σ Dn, EnvS X.K X.mg F0 H0 F H σ ρ → PostS X.K X.mg W F0 H0 Dn r → wS X e Dn σ H
def DSs (X : Cx) (W : WX) (e : List Stmt) (ρ : Rho) (r : Out) : Prop := ∀ F0 H0 F H σ Dn, EnvS X.K X.mg F0 H0 F H σ ρ → PostS X.K X.mg W F0 H0 Dn r → wSs X e Dn σ H

/-- names -/
structure Bx (X : Cx) (N : List Str) (sc : Scope) : Prop where
  n : X.N = N
  sc : X.env.scope = sc
  nd : N.Nodup
/-- a body -/
structure Bd (X : Cx) (N : List Str) (sc : Scope) (k : Nat) (W : WX) : Prop extends Bx X N sc where
  calm : X.calm = true
  room : Room k X.A
  tk : Takes X W
  po : PassesOwn (model X.prog X.w) X.A X.env X.xe

section
variable {X : Cx} {W : WX} {e a b c : Expr} {es : List Expr} {ρ : Rho} {N : List Str} {sc : Scope} {k : Nat} {pos : Pos} {x y z : D} {d : D} {r : R D} {F F' H H' : Hp}

theorem PostE.mono {σ : L2.St} {Q Q' : VK} (h : PostE X.K X.mg W σ F H Q r) (hq : ∀ v H', Q v H' → Q' v H') : PostE X.K X.mg W σ F H Q' r := by
  cases r with
  | ok d => exact fun v F' H' s q => hq _ _ (h v F' H' s q)
  | ex c fs => exact h
theorem DE.of_eq {r' : R D} (h : DE X W e ρ r) (q : r = r') : DE X W e ρ r' := q ▸ h
theorem DT.of_eq {r r' : R Bool} (h : DT X W e ρ r) (q : r = r') : DT X W e ρ r' := q ▸ h
theorem DE.ofD {d d' : D} (h : DE X W e ρ (.ok d)) (q : d = d') : DE X W e ρ (.ok d') := q ▸ h
theorem DT.ofB {d d' : Bool} (h : DT X W e ρ (.ok d)) (q : d = d') : DT X W e ρ (.ok d') := q ▸ h
/-- the value that stays as it is -/
theorem DE.use (h : DE X W e ρ (.ok d)) {F0 H0 : Hp} {σ : L2.St} {Q : VK} (E : EnvS X.K X.mg F0 H0 F H σ ρ) (q : ∀ v F' H', Stp F H F' H' → Rp X.K X.mg F' v d → Q v H') : wE X e σ H Q := h F0 H0 F H σ Q E q

/-! ## names, constants -/
theorem de_int {i : Int} {j : Nat} : DE X W (.Constant (.int i) j pos) ρ (.ok (.int i)) := fun F0 H0 F H σ Q E q => ⟨_, pe_int, q _ F H (Stp.refl E.sub) (.int i)⟩
theorem de_str {i : Str} {j : Nat} : DE X W (.Constant (.str i) j pos) ρ (.ok (.str i)) := fun F0 H0 F H σ Q E q => ⟨_, pe_str, q _ F H (Stp.refl E.sub) (.str i)⟩
theorem de_bl {i : Bool} {j : Nat} : DE X W (.Constant (.bool i) j pos) ρ (.ok (.bl i)) := fun F0 H0 F H σ Q E q => ⟨_, pe_bl, q _ F H (Stp.refl E.sub) (.bl i)⟩
theorem de_non {j : Nat} : DE X W (.Constant .none j pos) ρ (.ok .non) := fun F0 H0 F H σ Q E q => ⟨_, pe_non, q _ F H (Stp.refl E.sub) .non⟩
theorem de_var (B : Bx X N sc) (i : Nat) {s : Str} (hN : N[i]? = some s := by rfl) (hr : ρ[i]? = some (Sl.val d) := by rfl)
    (hv : Vis sc s := by first | exact Or.inl rfl | exact Or.inr (Or.inl rfl) | exact Or.inr (Or.inr rfl)) (hd : (s == ("__debug__" : Str)) = false := by decide) (hcd : (s == ("__classdict__" : Str)) = false := by decide) :
    DE X W (.Name s pos) ρ (.ok d) := fun F0 H0 F H σ Q E q => by
  obtain ⟨v, h1, h2⟩ := E.vals i d hr
  exact ⟨_, pe_var (i := i) (by rw [B.n]; exact hN) (by rw [B.sc]; exact hv) hd hcd, v, h1, q v F H (Stp.refl E.sub) h2⟩
/-- a value of the module -/
def GlD (K : PySem.W.Frag) (mg : Str → Option Value) (s : Str) (d : D) : Prop := ∃ v u, mg s = some u ∧ RelV v u ∧ ∀ H, Rp K mg H v d
theorem de_glob (B : Bx X N sc) {s : Str} (hm : GlD X.K X.mg s d) (hg : sc.names.lookup s = some .globalImplicit := by rfl) (hd : (s == ("__debug__" : Str)) = false := by decide) : DE X W (.Name s pos) ρ (.ok d) := fun F0 H0 F H σ Q E q => by
  obtain ⟨v, u, h1, h2, h3⟩ := hm
  exact ⟨_, pe_glob (show X.env.scope.names.lookup s = _ by rw [B.sc]; exact hg) h1 h2 hd, q v F H (Stp.refl E.sub) (h3 F)⟩

/-! ## operators -/
def ROp (K : PySem.W.Frag) (mg : Str → Option Value) (r : R2) (x y z : D) : Prop :=
  ∀ F H vx vy Q, Ex F H → Rp K mg F vx x → Rp K mg F vy y → (∀ v F' H', Stp F H F' H' → Rp K mg F' v z → Q v H') → r vx vy H Q
theorem de_op {op : Operator} {r : R2} (ho : OpR X (binaryOp op) r) (ha : DE X W a ρ (.ok x)) (hb : DE X W b ρ (.ok y)) (hr : ROp X.K X.mg r x y z) : DE X W (.BinOp a op b pos) ρ (.ok z) :=
  fun F0 H0 F H σ Q E q => ⟨_, pe_op ho pe_w pe_w, ha.use E fun v1 F1 H1 s1 r1 => hb.use (E.step s1) fun v2 F2 H2 s2 r2 =>
    hr F2 H2 v1 v2 Q s2.sub (r1.up s2.ef) r2 fun v F3 H3 s3 r3 => q v F3 H3 ((s1.trans s2).trans s3) r3⟩
theorem de_cmp {op : CmpOp} {r : R2} (ho : OpR X (compareOp op) r) (ha : DE X W a ρ (.ok x)) (hb : DE X W b ρ (.ok y)) (hr : ROp X.K X.mg r x y z) (hm : behindInMarks op b = false) : DE X W (.Compare a [op] [b] pos) ρ (.ok z) :=
  fun F0 H0 F H σ Q E q => ⟨_, pe_cmpR ho pe_w pe_w hm, ha.use E fun v1 F1 H1 s1 r1 => hb.use (E.step s1) fun v2 F2 H2 s2 r2 =>
    hr F2 H2 v1 v2 Q s2.sub (r1.up s2.ef) r2 fun v F3 H3 s3 r3 => q v F3 H3 ((s1.trans s2).trans s3) r3⟩
theorem dt_cmp {op : CmpOp} {r : R2} {t : Bool} (ho : OpR X (compareOp op) r) (ha : DE X W a ρ (.ok x)) (hb : DE X W b ρ (.ok y)) (hr : ROp X.K X.mg r x y (.bl t)) (hm : behindInMarks op b = false) : DT X W (.Compare a [op] [b] pos) ρ (.ok t) :=
  fun F0 H0 F H σ Q E q => ⟨_, pt_cmpR ho pe_w pe_w hm, ha.use E fun v1 F1 H1 s1 r1 => hb.use (E.step s1) fun v2 F2 H2 s2 r2 =>
    hr F2 H2 v1 v2 _ s2.sub (r1.up s2.ef) r2 fun v F3 H3 s3 r3 => by cases r3; exact ⟨t, rfl, q F3 H3 ((s1.trans s2).trans s3)⟩⟩
/-- a op b op' c -/
theorem dt_chain {op op' : CmpOp} {r r' : R2} {t u : Bool} (ho : OpR X (compareOp op) r) (ho' : OpR X (compareOp op') r') (ha : DE X W a ρ (.ok x)) (hb : DE X W b ρ (.ok y)) (hc : DE X W c ρ (.ok z)) (hr : ROp X.K X.mg r x y (.bl t)) (hr' : ROp X.K X.mg r' y z (.bl u))
    (hm : lastMarks [op, op'] [b, c] = false := by rfl) (hm' : behindInMarks op b = false := by rfl) : DT X W (.Compare a [op, op'] [b, c] pos) ρ (.ok (t && u)) :=
  fun F0 H0 F H σ Q E q => ⟨_, pt_chain ho ho' pe_w pe_w pe_w hm, ha.use E fun v1 F1 H1 s1 r1 => hb.use (E.step s1) fun v2 F2 H2 s2 r2 =>
    hr F2 H2 v1 v2 _ s2.sub (r1.up s2.ef) r2 fun v F3 H3 s3 r3 => by
      cases r3
      refine ⟨t, rfl, ?_⟩
      cases t with
      | true =>
        refine iteT ?_
        exact hc.use ((E.step (s1.trans s2)).step s3) fun v4 F4 H4 s4 r4 => hr' F4 H4 v2 v4 _ s4.sub (r2.up (s3.ef.trans s4.ef)) r4 fun v5 F5 H5 s5 r5 => by
          cases r5
          exact ⟨u, rfl, q F5 H5 ((((s1.trans s2).trans s3).trans s4).trans s5)⟩
      | false => exact iteF ⟨false, rfl, q F3 H3 ((s1.trans s2).trans s3)⟩⟩
theorem rop_I0 {K : PySem.W.Frag} {mg : Str → Option Value} {g : Int → Int → V} {i j : Int} {z : D} (hz : ∀ H, Rp K mg H (g i j) z) : ROp K mg (rI0 g) (.int i) (.int j) z := fun F H vx vy Q e rx ry q => by
  cases rx; cases ry; exact ⟨i, j, rfl, rfl, q _ F H (Stp.refl e) (hz F)⟩
theorem rop_I {K : PySem.W.Frag} {mg : Str → Option Value} {C : Int → Int → Prop} {g : Int → Int → V} {i j : Int} {z : D} (hc : C i j) (hz : ∀ H, Rp K mg H (g i j) z) : ROp K mg (rI C g) (.int i) (.int j) z := fun F H vx vy Q e rx ry q => by
  cases rx; cases ry; exact ⟨i, j, rfl, rfl, hc, q _ F H (Stp.refl e) (hz F)⟩
variable {i j l : Int}
theorem de_add (ha : DE X W a ρ (.ok (.int i))) (hb : DE X W b ρ (.ok (.int j))) : DE X W (.BinOp a .Add b pos) ρ (.ok (.int (i + j))) := de_op op_add ha hb (rop_I0 fun _ => .int _)
theorem de_sub (ha : DE X W a ρ (.ok (.int i))) (hb : DE X W b ρ (.ok (.int j))) : DE X W (.BinOp a .Sub b pos) ρ (.ok (.int (i - j))) := de_op op_sub ha hb (rop_I0 fun _ => .int _)
theorem op_mulX : OpR X (binaryOp .Mult) (rI IntMulOk fun i j => .int (i * j)) := opI fun _ _ _ _ _ _ _ hc q => mul_int q hc
theorem mulR {i j : Int} (h : (decide (-(2 ^ 64) < j) && decide (j < 2 ^ 64)) = true) : IntMulOk i j := by
  rw [Bool.and_eq_true] at h
  exact .of_right (intBits_le_64 (of_decide_eq_true h.1) (of_decide_eq_true h.2))
theorem mulL {i j : Int} (h : (decide (-(2 ^ 64) < i) && decide (i < 2 ^ 64)) = true) : IntMulOk i j := by
  rw [Bool.and_eq_true] at h
  exact .of_left (intBits_le_64 (of_decide_eq_true h.1) (of_decide_eq_true h.2))
theorem de_mul (ha : DE X W a ρ (.ok (.int i))) (hb : DE X W b ρ (.ok (.int j))) (h : IntMulOk i j) : DE X W (.BinOp a .Mult b pos) ρ (.ok (.int (i * j))) := de_op op_mulX ha hb (rop_I h fun _ => .int _)
theorem de_mod (ha : DE X W a ρ (.ok (.int i))) (hb : DE X W b ρ (.ok (.int j))) (h : 0 < j) : DE X W (.BinOp a .Mod b pos) ρ (.ok (.int (i % j))) := de_op op_mod ha hb (rop_I h fun _ => .int _)
theorem de_fdiv (ha : DE X W a ρ (.ok (.int i))) (hb : DE X W b ρ (.ok (.int j))) (h : CDivW i j) : DE X W (.BinOp a .FloorDiv b pos) ρ (.ok (.int (i / j))) := de_op op_fdivW ha hb (rop_I h fun _ => .int _)
theorem de_pow (ha : DE X W a ρ (.ok (.int i))) (hb : DE X W b ρ (.ok (.int j))) (h : CPow i j) : DE X W (.BinOp a .Pow b pos) ρ (.ok (.int (i ^ j.toNat))) := de_op op_pow ha hb (rop_I h fun _ => .int _)
theorem de_neg (ha : DE X W a ρ (.ok (.int i))) : DE X W (.UnaryOp .USub a pos) ρ (.ok (.int (-i))) :=
  fun F0 H0 F H σ Q E q => ⟨_, pe_un un_neg pe_w, ha.use E fun v1 F1 H1 s1 r1 => by cases r1; exact ⟨i, rfl, q _ F1 H1 s1 (.int _)⟩⟩
theorem de_lt (ha : DE X W a ρ (.ok (.int i))) (hb : DE X W b ρ (.ok (.int j))) : DE X W (.Compare a [.Lt] [b] pos) ρ (.ok (.bl (decide (i < j)))) := de_cmp op_lt ha hb (rop_I0 fun _ => .bl _) (nomark _)
theorem de_le (ha : DE X W a ρ (.ok (.int i))) (hb : DE X W b ρ (.ok (.int j))) : DE X W (.Compare a [.LtE] [b] pos) ρ (.ok (.bl (decide (i ≤ j)))) := de_cmp op_le ha hb (rop_I0 fun _ => .bl _) (nomark _)
theorem de_gt (ha : DE X W a ρ (.ok (.int i))) (hb : DE X W b ρ (.ok (.int j))) : DE X W (.Compare a [.Gt] [b] pos) ρ (.ok (.bl (decide (j < i)))) := de_cmp op_gt ha hb (rop_I0 fun _ => .bl _) (nomark _)
theorem de_ge (ha : DE X W a ρ (.ok (.int i))) (hb : DE X W b ρ (.ok (.int j))) : DE X W (.Compare a [.GtE] [b] pos) ρ (.ok (.bl (decide (j ≤ i)))) := de_cmp op_ge ha hb (rop_I0 fun _ => .bl _) (nomark _)
theorem dt_lt (ha : DE X W a ρ (.ok (.int i))) (hb : DE X W b ρ (.ok (.int j))) : DT X W (.Compare a [.Lt] [b] pos) ρ (.ok (decide (i < j))) := dt_cmp op_lt ha hb (rop_I0 fun _ => .bl _) (nomark _)
theorem dt_le (ha : DE X W a ρ (.ok (.int i))) (hb : DE X W b ρ (.ok (.int j))) : DT X W (.Compare a [.LtE] [b] pos) ρ (.ok (decide (i ≤ j))) := dt_cmp op_le ha hb (rop_I0 fun _ => .bl _) (nomark _)
theorem dt_gt (ha : DE X W a ρ (.ok (.int i))) (hb : DE X W b ρ (.ok (.int j))) : DT X W (.Compare a [.Gt] [b] pos) ρ (.ok (decide (j < i))) := dt_cmp op_gt ha hb (rop_I0 fun _ => .bl _) (nomark _)
theorem dt_ge (ha : DE X W a ρ (.ok (.int i))) (hb : DE X W b ρ (.ok (.int j))) : DT X W (.Compare a [.GtE] [b] pos) ρ (.ok (decide (j ≤ i))) := dt_cmp op_ge ha hb (rop_I0 fun _ => .bl _) (nomark _)
theorem dt_le_lt (ha : DE X W a ρ (.ok (.int i))) (hb : DE X W b ρ (.ok (.int j))) (hc : DE X W c ρ (.ok (.int l))) (hm : lastMarks [.LtE, .Lt] [b, c] = false := by rfl) (hm' : behindInMarks .LtE b = false := by rfl) : DT X W (.Compare a [.LtE, .Lt] [b, c] pos) ρ (.ok (decide (i ≤ j) && decide (j < l))) :=
  dt_chain op_le op_lt ha hb hc (rop_I0 fun _ => .bl _) (rop_I0 fun _ => .bl _) hm hm'
theorem dt_le_le (ha : DE X W a ρ (.ok (.int i))) (hb : DE X W b ρ (.ok (.int j))) (hc : DE X W c ρ (.ok (.int l))) (hm : lastMarks [.LtE, .LtE] [b, c] = false := by rfl) (hm' : behindInMarks .LtE b = false := by rfl) : DT X W (.Compare a [.LtE, .LtE] [b, c] pos) ρ (.ok (decide (i ≤ j) && decide (j ≤ l))) :=
  dt_chain op_le op_le ha hb hc (rop_I0 fun _ => .bl _) (rop_I0 fun _ => .bl _) hm hm'

/-! ## equality -/
/-- scalars -/
def sD : D → Option V
  | .non => some .non
  | .bl b => some (.bl b)
  | .int i => some (.int i)
  | .str x => some (.str x)
  | _ => none
theorem sD_rp {K : PySem.W.Frag} {mg : Str → Option Value} {v w : V} (h : sD x = some w) (r : Rp K mg H v x) : v = w := by
  cases r <;> simp [sD] at h <;> exact h
theorem rop_eq {K : PySem.W.Frag} {mg : Str → Option Value} {v w : V} {t : Bool} (hx : sD x = some v) (hy : sD y = some w) (hs : scal v w = true) (ht : decide (v = w) = t) : ROp K mg rEq x y (.bl t) := fun F H vx vy Q e rx ry q => by
  cases sD_rp hx rx; cases sD_rp hy ry
  exact ⟨hs, q _ F H (Stp.refl e) (by rw [ht]; exact .bl _)⟩
theorem rop_ne {K : PySem.W.Frag} {mg : Str → Option Value} {v w : V} {t : Bool} (hx : sD x = some v) (hy : sD y = some w) (hs : scal v w = true) (ht : (!decide (v = w)) = t) : ROp K mg rNe x y (.bl t) := fun F H vx vy Q e rx ry q => by
  cases sD_rp hx rx; cases sD_rp hy ry
  exact ⟨hs, q _ F H (Stp.refl e) (by rw [ht]; exact .bl _)⟩
theorem decI : decide (V.int i = V.int j) = decide (i = j) := by
  by_cases h : i = j
  · subst h; simp
  · rw [decide_eq_false h, decide_eq_false (fun q => h (V.int.inj q))]
theorem decB {i j : Bool} : decide (V.bl i = V.bl j) = (i == j) := dec_bl
theorem decS {i j : Str} : decide (V.str i = V.str j) = decide (i = j) := by
  by_cases h : i = j
  · subst h; simp
  · rw [decide_eq_false h, decide_eq_false (fun q => h (V.str.inj q))]
theorem de_eq (ha : DE X W a ρ (.ok (.int i))) (hb : DE X W b ρ (.ok (.int j))) : DE X W (.Compare a [.Eq] [b] pos) ρ (.ok (.bl (decide (i = j)))) := de_cmp op_eq ha hb (rop_eq rfl rfl rfl decI) (nomark _)
theorem de_ne (ha : DE X W a ρ (.ok (.int i))) (hb : DE X W b ρ (.ok (.int j))) : DE X W (.Compare a [.NotEq] [b] pos) ρ (.ok (.bl (!decide (i = j)))) := de_cmp op_ne ha hb (rop_ne rfl rfl rfl (by rw [decI])) (nomark _)
theorem dt_eq (ha : DE X W a ρ (.ok (.int i))) (hb : DE X W b ρ (.ok (.int j))) : DT X W (.Compare a [.Eq] [b] pos) ρ (.ok (decide (i = j))) := dt_cmp op_eq ha hb (rop_eq rfl rfl rfl decI) (nomark _)
theorem dt_ne (ha : DE X W a ρ (.ok (.int i))) (hb : DE X W b ρ (.ok (.int j))) : DT X W (.Compare a [.NotEq] [b] pos) ρ (.ok (!decide (i = j))) := dt_cmp op_ne ha hb (rop_ne rfl rfl rfl (by rw [decI])) (nomark _)
variable {u v : Str} {p q : Bool}
theorem de_eqS (ha : DE X W a ρ (.ok (.str u))) (hb : DE X W b ρ (.ok (.str v))) : DE X W (.Compare a [.Eq] [b] pos) ρ (.ok (.bl (decide (u = v)))) := de_cmp op_eq ha hb (rop_eq rfl rfl rfl decS) (nomark _)
theorem de_neS (ha : DE X W a ρ (.ok (.str u))) (hb : DE X W b ρ (.ok (.str v))) : DE X W (.Compare a [.NotEq] [b] pos) ρ (.ok (.bl (!decide (u = v)))) := de_cmp op_ne ha hb (rop_ne rfl rfl rfl (by rw [decS])) (nomark _)
theorem dt_eqS (ha : DE X W a ρ (.ok (.str u))) (hb : DE X W b ρ (.ok (.str v))) : DT X W (.Compare a [.Eq] [b] pos) ρ (.ok (decide (u = v))) := dt_cmp op_eq ha hb (rop_eq rfl rfl rfl decS) (nomark _)
theorem dt_neS (ha : DE X W a ρ (.ok (.str u))) (hb : DE X W b ρ (.ok (.str v))) : DT X W (.Compare a [.NotEq] [b] pos) ρ (.ok (!decide (u = v))) := dt_cmp op_ne ha hb (rop_ne rfl rfl rfl (by rw [decS])) (nomark _)
theorem de_eqB (ha : DE X W a ρ (.ok (.bl p))) (hb : DE X W b ρ (.ok (.bl q))) : DE X W (.Compare a [.Eq] [b] pos) ρ (.ok (.bl (p == q))) := de_cmp op_eq ha hb (rop_eq rfl rfl rfl decB) (nomark _)
theorem de_neB (ha : DE X W a ρ (.ok (.bl p))) (hb : DE X W b ρ (.ok (.bl q))) : DE X W (.Compare a [.NotEq] [b] pos) ρ (.ok (.bl (!(p == q)))) := de_cmp op_ne ha hb (rop_ne rfl rfl rfl (by rw [decB])) (nomark _)
theorem dt_eqB (ha : DE X W a ρ (.ok (.bl p))) (hb : DE X W b ρ (.ok (.bl q))) : DT X W (.Compare a [.Eq] [b] pos) ρ (.ok (p == q)) := dt_cmp op_eq ha hb (rop_eq rfl rfl rfl decB) (nomark _)
theorem dt_neB (ha : DE X W a ρ (.ok (.bl p))) (hb : DE X W b ρ (.ok (.bl q))) : DT X W (.Compare a [.NotEq] [b] pos) ρ (.ok (!(p == q))) := dt_cmp op_ne ha hb (rop_ne rfl rfl rfl (by rw [decB])) (nomark _)

/-! data as a whole -/
mutual
def D.py : D → PyData
  | .non => .none
  | .bl b => .bool b
  | .int i => .int i
  | .str x => .str x
  | .tup ds => .tuple (pyAll ds)
  | .lst ds => .list (pyAll ds)
  | .scr _ => .none
  | .obj _ _ => .none
def pyAll : List D → List PyData
  | [] => []
  | d :: ds => d.py :: pyAll ds
end
mutual
def D.plain : D → Bool
  | .tup ds => plainAll ds
  | .lst ds => plainAll ds
  | .scr _ => false
  | .obj _ _ => false
  | .str x => PyData.strOk x
  | _ => true
def plainAll : List D → Bool
  | [] => true
  | d :: ds => d.plain && plainAll ds
end
mutual
def D.dep : D → Nat
  | .tup ds => depAll ds + 1
  | .lst ds => depAll ds + 1
  | _ => 0
def depAll : List D → Nat
  | [] => 0
  | d :: ds => max d.dep (depAll ds)
end
/-! no lists within -/
mutual
def D.lfree : D → Bool
  | .tup ds => lfreeAll ds
  | .lst _ => false
  | .scr _ => false
  | .obj _ _ => false
  | _ => true
def lfreeAll : List D → Bool
  | [] => true
  | d :: ds => d.lfree && lfreeAll ds
end
section
variable {K : PySem.W.Frag} {mg : Str → Option Value}
mutual
theorem Rp.dp : ∀ (d : D) (v : V), d.plain = true → Rp K mg H v d → Dp K H v d.py
  | .non, _, _, .non => .non
  | .bl _, _, _, .bl b => .bl b
  | .int _, _, _, .int b => .int b
  | .str _, _, _, .str b => .str b
  | .tup ds, _, p, .tup h r => .tup h (RpA.dp ds _ (by simpa [D.plain] using p) r)
  | .lst ds, _, p, .lst h r => .lst (SqL.of h) (RpA.dp ds _ (by simpa [D.plain] using p) r)
  | .scr _, _, p, _ => by simp [D.plain] at p
  | .obj _ _, _, p, _ => by simp [D.plain] at p
theorem RpA.dp : ∀ (ds : List D) (vs : List V), plainAll ds = true → RpA K mg H vs ds → DpAll K H vs (pyAll ds)
  | [], _, _, .nil => .nil
  | d :: ds, _, p, .cons r t => by
    have p' : d.plain = true ∧ plainAll ds = true := by simpa [plainAll] using p
    exact .cons (Rp.dp d _ p'.1 r) (RpA.dp ds _ p'.2 t)
end
end
mutual
theorem lay_py : ∀ (d : D), d.plain = true → PyData.canLay0 d.py = true
  | .non, _ => by simp [D.py, PyData.canLay0]
  | .bl _, _ => by simp [D.py, PyData.canLay0]
  | .int _, _ => by simp [D.py, PyData.canLay0]
  | .str _, p => by simpa [D.py, PyData.canLay0, D.plain] using p
  | .tup ds, p => by simp [D.py, PyData.canLay0, lay_pyAll ds (by simpa [D.plain] using p)]
  | .lst ds, p => by simp [D.py, PyData.canLay0, lay_pyAll ds (by simpa [D.plain] using p)]
  | .scr _, _ => by simp [D.py, PyData.canLay0]
  | .obj _ _, _ => by simp [D.py, PyData.canLay0]
theorem lay_pyAll : ∀ (ds : List D), plainAll ds = true → PyData.canLayAll0 (pyAll ds) = true
  | [], _ => by simp [pyAll, PyData.canLayAll0]
  | d :: ds, p => by
    have p' : d.plain = true ∧ plainAll ds = true := by simpa [plainAll] using p
    simp [pyAll, PyData.canLayAll0, lay_py d p'.1, lay_pyAll ds p'.2]
end
mutual
theorem dep_py : ∀ (d : D), PyData.depth d.py = d.dep
  | .non => by simp [D.py, PyData.depth, D.dep]
  | .bl _ => by simp [D.py, PyData.depth, D.dep]
  | .int _ => by simp [D.py, PyData.depth, D.dep]
  | .str _ => by simp [D.py, PyData.depth, D.dep]
  | .tup ds => by simp [D.py, PyData.depth, D.dep, dep_pyAll ds]
  | .lst ds => by simp [D.py, PyData.depth, D.dep, dep_pyAll ds]
  | .scr _ => by simp [D.py, PyData.depth, D.dep]
  | .obj _ _ => by simp [D.py, PyData.depth, D.dep]
theorem dep_pyAll : ∀ (ds : List D), PyData.depthAll (pyAll ds) = depAll ds
  | [] => by simp [pyAll, PyData.depthAll, depAll]
  | d :: ds => by simp [pyAll, PyData.depthAll, depAll, dep_py d, dep_pyAll ds]
end
def Sh (d : D) : Prop := d.plain = true ∧ d.dep ≤ 64
theorem Sh.shaped (h : Sh d) : SeqAt.shaped d.py = true := by
  show (PyData.canLay0 d.py && decide (PyData.depth d.py ≤ 64)) = true
  rw [lay_py _ h.1, dep_py, Bool.true_and]
  exact decide_eq_true h.2
def eqD (x y : D) : Bool := PyData.eqv x.py y.py
theorem rop_eqD {K : PySem.W.Frag} {mg : Str → Option Value} (hx : Sh x) (hy : Sh y) : ROp K mg (rEqD K) x y (.bl (eqD x y)) := fun F H vx vy Q e rx ry q =>
  ⟨x.py, y.py, Rp.dp x _ hx.1 (rx.up e), Rp.dp y _ hy.1 (ry.up e), hx.shaped, hy.shaped, q _ F H (Stp.refl e) (.bl _)⟩
theorem rop_neD {K : PySem.W.Frag} {mg : Str → Option Value} (hx : Sh x) (hy : Sh y) : ROp K mg (rNeD K) x y (.bl (!eqD x y)) := fun F H vx vy Q e rx ry q =>
  ⟨x.py, y.py, Rp.dp x _ hx.1 (rx.up e), Rp.dp y _ hy.1 (ry.up e), hx.shaped, hy.shaped, q _ F H (Stp.refl e) (.bl _)⟩
theorem de_eqD (B : Bd X N sc k W) (ha : DE X W a ρ (.ok x)) (hb : DE X W b ρ (.ok y)) (hx : Sh x) (hy : Sh y) : DE X W (.Compare a [.Eq] [b] pos) ρ (.ok (.bl (eqD x y))) := de_cmp (op_eqD B.room.units) ha hb (rop_eqD hx hy) (nomark _)
theorem de_neD (B : Bd X N sc k W) (ha : DE X W a ρ (.ok x)) (hb : DE X W b ρ (.ok y)) (hx : Sh x) (hy : Sh y) : DE X W (.Compare a [.NotEq] [b] pos) ρ (.ok (.bl (!eqD x y))) := de_cmp (op_neD B.room.units) ha hb (rop_neD hx hy) (nomark _)
theorem dt_eqD (B : Bd X N sc k W) (ha : DE X W a ρ (.ok x)) (hb : DE X W b ρ (.ok y)) (hx : Sh x) (hy : Sh y) : DT X W (.Compare a [.Eq] [b] pos) ρ (.ok (eqD x y)) := dt_cmp (op_eqD B.room.units) ha hb (rop_eqD hx hy) (nomark _)
theorem dt_neD (B : Bd X N sc k W) (ha : DE X W a ρ (.ok x)) (hb : DE X W b ρ (.ok y)) (hx : Sh x) (hy : Sh y) : DT X W (.Compare a [.NotEq] [b] pos) ρ (.ok (!eqD x y)) := dt_cmp (op_neD B.room.units) ha hb (rop_neD hx hy) (nomark _)
end
end DL

namespace DL
open PySem PySem.Spec PyProof.Rows L2 Evl
section
variable {X : Cx} {W : WX} {e a b c : Expr} {es rest : List Expr} {ρ : Rho} {N : List Str} {sc : Scope} {k : Nat} {pos : Pos} {x y z : D} {d : D} {r : R D} {F F' H H' : Hp} {p q s t : Bool}

/-! ## tests -/
theorem dt_val (ha : DE X W e ρ (.ok (.bl p))) (he : ∀ whole, isTrue e X.env whole = (do let v ← whole; standAt e.pos; holding [v] (truthy v)) := by intro _; rfl) : DT X W e ρ (.ok p) :=
  fun F0 H0 F H σ Q E q => ⟨_, pt_val pe_w he, ha.use E fun v F1 H1 s1 r1 => by cases r1; exact ⟨p, rfl, q F1 H1 s1⟩⟩
/-- truth -/
def truth : D → Option Bool
  | .non => some false
  | .bl b => some b
  | .int i => some (i != 0)
  | .str x => some ((x.length : Int) != 0)
  | .tup ds => some (!ds.isEmpty)
  | .lst ds => some (!ds.isEmpty)
  | .scr _ => none
  | .obj _ _ => none
def lenOk : D → Prop
  | .str x => x.length ≤ sizeLine
  | _ => True
theorem isEmpty_rp {K : PySem.W.Frag} {mg : Str → Option Value} {xs : List V} {ds : List D} (r : RpA K mg H xs ds) : xs.isEmpty = ds.isEmpty := by cases r <;> rfl
theorem truV_rp {K : PySem.W.Frag} {mg : Str → Option Value} {v : V} (r : Rp K mg H v x) (h : truth x = some p) (hl : lenOk x) : TruV K v H p := by
  cases r with
  | non => simp [truth] at h; subst h; rfl
  | bl b => simp [truth] at h; subst h; rfl
  | int b => simp [truth] at h; subst h; rfl
  | str b => simp only [truth, Option.some.injEq] at h; subst h; exact ⟨hl, rfl⟩
  | tup h1 h2 => simp only [truth, Option.some.injEq] at h; subst h; exact .inr (.inl ⟨_, h1, by rw [isEmpty_rp h2]⟩)
  | lst h1 h2 => simp only [truth, Option.some.injEq] at h; subst h; exact .inl ⟨_, SqL.of h1, by rw [isEmpty_rp h2]⟩
  | scr => simp [truth] at h
  | obj => simp [truth] at h
theorem dt_truth (ha : DE X W e ρ (.ok x)) (ht : truth x = some p) (hl : lenOk x := by exact True.intro) (he : ∀ whole, isTrue e X.env whole = (do let v ← whole; standAt e.pos; holding [v] (truthy v)) := by intro _; rfl) : DT X W e ρ (.ok p) :=
  fun F0 H0 F H σ Q E q => ⟨_, pt_truth pe_w he, ha.use E fun v F1 H1 s1 r1 => ⟨p, truV_rp (r1.up s1.sub) ht hl, q F1 H1 s1⟩⟩
/-- the truth of an own list -/
theorem dt_own (B : Bx X N sc) (i : Nat) {s : Str} {ds : List D} (hN : N[i]? = some s := by rfl) (hr : ρ[i]? = some (Sl.own ds) := by rfl)
    (hv : Vis sc s := by first | exact Or.inl rfl | exact Or.inr (Or.inl rfl) | exact Or.inr (Or.inr rfl)) (hd : (s == ("__debug__" : Str)) = false := by decide) (hcd : (s == ("__classdict__" : Str)) = false := by decide) :
    DT X W (.Name s pos) ρ (.ok (!ds.isEmpty)) := fun F0 H0 F H σ Q E q => by
  obtain ⟨l, xs, h1, h2, h3, h4, h5⟩ := E.owns i ds hr
  refine ⟨_, pt_truth (pe_var (i := i) (by rw [B.n]; exact hN) (by rw [B.sc]; exact hv) hd hcd) (by intro _; rfl), _, h1, !ds.isEmpty, .inl ⟨xs, SqL.of h4, by rw [isEmpty_rp h5]⟩, q F H (Stp.refl E.sub)⟩
theorem DT.use (h : DT X W e ρ (.ok p)) {F0 H0 : Hp} {σ : L2.St} {Q : Bool → Hp → Prop} (E : EnvS X.K X.mg F0 H0 F H σ ρ) (q : ∀ F' H', Stp F H F' H' → Q p H') : wT X e σ H Q := h F0 H0 F H σ Q E q
theorem DW.use (h : DW X W e ρ (.ok p)) {F0 H0 : Hp} {σ : L2.St} {Q : Bool → Hp → Prop} (E : EnvS X.K X.mg F0 H0 F H σ ρ) (q : ∀ F' H', Stp F H F' H' → Q p H') : wW X e σ H Q := h F0 H0 F H σ Q E q
theorem dt_not (ha : DT X W a ρ (.ok p)) : DT X W (.UnaryOp .Not a pos) ρ (.ok (!p)) := fun F0 H0 F H σ Q E q => ⟨_, pt_not pt_w, ha.use E fun F1 H1 s1 => q F1 H1 s1⟩
theorem dt_bool {op : BoolOp} (h : DW X W (.BoolOp op es pos) ρ (.ok p)) : DT X W (.BoolOp op es pos) ρ (.ok p) := fun F0 H0 F H σ Q E q => ⟨_, pw_w.pt, h.use E q⟩
theorem dw_and1 (ha : DT X W a ρ (.ok p)) : DW X W (.BoolOp .And [a] pos) ρ (.ok p) := fun F0 H0 F H σ Q E q => ⟨_, pw_and1 pt_w, ha.use E q⟩
theorem dw_or1 (ha : DT X W a ρ (.ok p)) : DW X W (.BoolOp .Or [a] pos) ρ (.ok p) := fun F0 H0 F H σ Q E q => ⟨_, pw_or1 pt_w, ha.use E q⟩
theorem dw_and (ha : DT X W a ρ (.ok p)) (hb : p = true → DW X W (.BoolOp .And (b :: rest) pos) ρ (.ok t)) : DW X W (.BoolOp .And (a :: b :: rest) pos) ρ (.ok (p && t)) :=
  fun F0 H0 F H σ Q E q => ⟨_, pw_and pt_w pw_w, ha.use E fun F1 H1 s1 => by
    cases p with
    | true => exact iteT ((hb rfl).use (E.step s1) fun F2 H2 s2 => q F2 H2 (s1.trans s2))
    | false => exact iteF (q F1 H1 s1)⟩
theorem dw_or (ha : DT X W a ρ (.ok p)) (hb : p = false → DW X W (.BoolOp .Or (b :: rest) pos) ρ (.ok t)) : DW X W (.BoolOp .Or (a :: b :: rest) pos) ρ (.ok (p || t)) :=
  fun F0 H0 F H σ Q E q => ⟨_, pw_or pt_w pw_w, ha.use E fun F1 H1 s1 => by
    cases p with
    | true => exact iteT (q F1 H1 s1)
    | false => exact iteF ((hb rfl).use (E.step s1) fun F2 H2 s2 => q F2 H2 (s1.trans s2))⟩
/-- the first decides -/
theorem dw_andF (ha : DT X W a ρ (.ok false)) : DW X W (.BoolOp .And (a :: b :: rest) pos) ρ (.ok false) := dw_and (t := false) ha fun q => nomatch q
theorem dw_orT (ha : DT X W a ρ (.ok true)) : DW X W (.BoolOp .Or (a :: b :: rest) pos) ρ (.ok true) := dw_or (t := true) ha fun q => nomatch q
/-! .. as values -/
theorem de_one {op : BoolOp} (h : DE X W a ρ r) : DE X W (.BoolOp op [a] pos) ρ r := fun F0 H0 F H σ Q E q => ⟨_, pe_one pe_w, h F0 H0 F H σ Q E q⟩
theorem de_and (ha : DE X W a ρ (.ok (.bl p))) (hb : p = true → DE X W (.BoolOp .And (b :: rest) pos) ρ (.ok (.bl t))) : DE X W (.BoolOp .And (a :: b :: rest) pos) ρ (.ok (.bl (p && t))) :=
  fun F0 H0 F H σ Q E q => ⟨_, L2.pe_and pe_w pe_w, ha.use E fun v F1 H1 s1 r1 => by
    cases r1
    refine ⟨p, rfl, ?_⟩
    cases p with
    | true => exact iteT ((hb rfl).use (E.step s1) fun v F2 H2 s2 r2 => q v F2 H2 (s1.trans s2) r2)
    | false => exact iteF (q _ F1 H1 s1 (.bl _))⟩
theorem de_or (ha : DE X W a ρ (.ok (.bl p))) (hb : p = false → DE X W (.BoolOp .Or (b :: rest) pos) ρ (.ok (.bl t))) : DE X W (.BoolOp .Or (a :: b :: rest) pos) ρ (.ok (.bl (p || t))) :=
  fun F0 H0 F H σ Q E q => ⟨_, L2.pe_or pe_w pe_w, ha.use E fun v F1 H1 s1 r1 => by
    cases r1
    refine ⟨p, rfl, ?_⟩
    cases p with
    | true => exact iteT (q _ F1 H1 s1 (.bl _))
    | false => exact iteF ((hb rfl).use (E.step s1) fun v F2 H2 s2 r2 => q v F2 H2 (s1.trans s2) r2)⟩
theorem de_not (ha : DE X W a ρ (.ok (.bl p))) : DE X W (.UnaryOp .Not a pos) ρ (.ok (.bl (!p))) := fun F0 H0 F H σ Q E q => ⟨_, pe_not pe_w, ha.use E fun v F1 H1 s1 r1 => by cases r1; exact ⟨p, rfl, q _ F1 H1 s1 (.bl _)⟩⟩
/-- not x by truth -/
theorem de_if (ht : DT X W c ρ (.ok p)) (ha : p = true → DE X W a ρ r) (hb : p = false → DE X W b ρ r) : DE X W (.IfExp c a b pos) ρ r :=
  fun F0 H0 F H σ Q E q => ⟨_, pe_ifExp pt_w pe_w pe_w, ht.use E fun F1 H1 s1 => by
    have q' : PostE X.K X.mg W σ F1 H1 Q r := by
      cases r with
      | ok d => exact fun v F' H' s q2 => q v F' H' (s1.trans s) q2
      | ex c fs => exact fun cls dd F' H' s q2 => q cls dd F' H' (s1.trans s) q2
    cases p with
    | true => exact iteT (ha rfl F0 H0 F1 H1 σ Q (E.step s1) q')
    | false => exact iteF (hb rfl F0 H0 F1 H1 σ Q (E.step s1) q')⟩
/-! ## is None, is True -/
def isNon : D → Bool
  | .non => true
  | _ => false
theorem isNon_rp {K : PySem.W.Frag} {mg : Str → Option Value} {v : V} (r : Rp K mg H v x) : decide (v = V.non) = isNon x := by
  cases r <;> simp [isNon]
theorem rop_isN {K : PySem.W.Frag} {mg : Str → Option Value} : ROp K mg (fun x y H Q => y = .non ∧ Q (.bl (decide (x = .non))) H) x .non (.bl (isNon x)) := fun F H vx vy Q e rx ry q => by
  cases ry
  exact ⟨rfl, q _ F H (Stp.refl e) (by rw [isNon_rp rx]; exact .bl _)⟩
theorem rop_notN {K : PySem.W.Frag} {mg : Str → Option Value} : ROp K mg (fun x y H Q => y = .non ∧ Q (.bl (!decide (x = .non))) H) x .non (.bl (!isNon x)) := fun F H vx vy Q e rx ry q => by
  cases ry
  exact ⟨rfl, q _ F H (Stp.refl e) (by rw [isNon_rp rx]; exact .bl _)⟩
theorem dt_isN {j : Nat} {p2 : Pos} (ha : DE X W a ρ (.ok x)) : DT X W (.Compare a [.Is] [.Constant .none j p2] pos) ρ (.ok (isNon x)) := dt_cmp op_isN ha de_non rop_isN (nomark _)
theorem dt_notN {j : Nat} {p2 : Pos} (ha : DE X W a ρ (.ok x)) : DT X W (.Compare a [.IsNot] [.Constant .none j p2] pos) ρ (.ok (!isNon x)) := dt_cmp op_notN ha de_non rop_notN (nomark _)
theorem de_isN {j : Nat} {p2 : Pos} (ha : DE X W a ρ (.ok x)) : DE X W (.Compare a [.Is] [.Constant .none j p2] pos) ρ (.ok (.bl (isNon x))) := de_cmp op_isN ha de_non rop_isN (nomark _)
theorem de_notN {j : Nat} {p2 : Pos} (ha : DE X W a ρ (.ok x)) : DE X W (.Compare a [.IsNot] [.Constant .none j p2] pos) ρ (.ok (.bl (!isNon x))) := de_cmp op_notN ha de_non rop_notN (nomark _)
/-- bools by is -/
theorem rop_isB {K : PySem.W.Frag} {mg : Str → Option Value} : ROp K mg rIsB (.bl p) (.bl q) (.bl (decide (p = q))) := fun F H vx vy Q e rx ry k => by
  cases rx; cases ry; exact ⟨p, q, rfl, rfl, k _ F H (Stp.refl e) (.bl _)⟩
theorem rop_notB {K : PySem.W.Frag} {mg : Str → Option Value} : ROp K mg rNotB (.bl p) (.bl q) (.bl (!decide (p = q))) := fun F H vx vy Q e rx ry k => by
  cases rx; cases ry; exact ⟨p, q, rfl, rfl, k _ F H (Stp.refl e) (.bl _)⟩
theorem dt_isB (ha : DE X W a ρ (.ok (.bl p))) (hb : DE X W b ρ (.ok (.bl q))) : DT X W (.Compare a [.Is] [b] pos) ρ (.ok (decide (p = q))) := dt_cmp op_isBl ha hb rop_isB (nomark _)
theorem dt_notB (ha : DE X W a ρ (.ok (.bl p))) (hb : DE X W b ρ (.ok (.bl q))) : DT X W (.Compare a [.IsNot] [b] pos) ρ (.ok (!decide (p = q))) := dt_cmp op_notBl ha hb rop_notB (nomark _)
theorem de_isB (ha : DE X W a ρ (.ok (.bl p))) (hb : DE X W b ρ (.ok (.bl q))) : DE X W (.Compare a [.Is] [b] pos) ρ (.ok (.bl (decide (p = q)))) := de_cmp op_isBl ha hb rop_isB (nomark _)

/-! ## argument lists, displays -/
theorem DA.use {ds : List D} (h : DA X W es ρ (.ok ds)) {F0 H0 : Hp} {σ : L2.St} {Q : List V → Hp → Prop} (E : EnvS X.K X.mg F0 H0 F H σ ρ) (q : ∀ v F' H', Stp F H F' H' → RpA X.K X.mg F' v ds → Q v H') : wA X es σ H Q := h F0 H0 F H σ Q E q
theorem da_nil : DA X W [] ρ (.ok []) := fun F0 H0 F H σ Q E q => ⟨_, pa_nil, q [] F H (Stp.refl E.sub) .nil⟩
theorem da_cons {ds : List D} (ha : DE X W e ρ (.ok d)) (hr : DA X W es ρ (.ok ds)) (hs : starEach (e :: es) X.env = (false, eval e X.env) :: starEach es X.env := by rfl) : DA X W (e :: es) ρ (.ok (d :: ds)) :=
  fun F0 H0 F H σ Q E q => ⟨_, pa_cons pe_w pa_w hs, ha.use E fun v F1 H1 s1 r1 => hr.use (E.step s1) fun vs F2 H2 s2 r2 => q (v :: vs) F2 H2 (s1.trans s2) (.cons (r1.up s2.ef) r2)⟩
theorem de_tup {ds : List D} {j : Nat} (h : DA X W es ρ (.ok ds)) (hl : ds.length ≤ sizeLine := by decide) : DE X W (.Tuple es j pos) ρ (.ok (.tup ds)) :=
  fun F0 H0 F H σ Q E q => ⟨_, pe_tup pa_w, h.use E fun vs F1 H1 s1 r1 => ⟨by rw [r1.length]; exact hl, fun p hp => by
    have s2 := Stp.new (o := .tup vs) s1.sub hp
    exact q _ _ _ (s1.trans s2) (.tup (SqT.of upd_same) (r1.up s2.ef))⟩⟩
theorem df_lst {ds : List D} (h : DA X W es ρ (.ok ds)) (hl : ds.length ≤ sizeLine := by decide) : DF X W (.List es pos) ρ ds :=
  fun F0 H0 F H σ Q E q => ⟨_, pe_lst pa_w, h.use E fun vs F1 H1 s1 r1 => ⟨by rw [r1.length]; exact hl, fun p hp => by
    have s2 := Stp.newO (o := .lst vs) s1.sub hp
    have hF : F1 p = none := by
      cases e : F1 p with
      | none => rfl
      | some o => rw [s1.sub p o e] at hp; cases hp
    have hH : H p = none := by
      cases e : H p with
      | none => rfl
      | some o => rw [s1.eh p o e] at hp; cases hp
    exact q p vs _ _ (s1.trans s2) hF hH upd_same r1⟩⟩
/-- a new list, for good -/
theorem DF.de {ds : List D} (h : DF X W e ρ ds) : DE X W e ρ (.ok (.lst ds)) := fun F0 H0 F H σ Q E q => by
  refine h F0 H0 F H σ Q E fun l xs F' H' s hF hH hl r => ?_
  have ef : Ex F' (upd F' l (.lst xs)) := Ex.new hF
  refine q _ (upd F' l (.lst xs)) H' ⟨s.ef.trans ef, s.eh, fun a o g => ?_, fun a ha => ?_⟩ (.lst upd_same (r.up ef))
  · by_cases z : a = l
    · subst z; rw [upd_same] at g; cases g; exact hl
    · rw [upd_ne z] at g; exact s.sub a o g
  · rw [upd_ne (by rintro rfl; exact ha hH)]; exact s.ag a ha

/-! ## subscripts -/
def RIx (K : PySem.W.Frag) (mg : Str → Option Value) (r : R2) (x y z : D) : Prop := ROp K mg r x y z
theorem de_ix {r : R2} (hr : IxR X r) (ha : DE X W a ρ (.ok x)) (hb : DE X W b ρ (.ok y)) (h : ROp X.K X.mg r x y z) (hs : PlainIx b := by intro _ _; rfl) : DE X W (.Subscript a b pos) ρ (.ok z) :=
  fun F0 H0 F H σ Q E q => ⟨_, pe_ix hr pe_w pe_w hs, ha.use E fun v1 F1 H1 s1 r1 => hb.use (E.step s1) fun v2 F2 H2 s2 r2 =>
    h F2 H2 v1 v2 Q s2.sub (r1.up s2.ef) r2 fun v F3 H3 s3 r3 => q v F3 H3 ((s1.trans s2).trans s3) r3⟩
theorem atI_rp {K : PySem.W.Frag} {mg : Str → Option Value} {xs : List V} {ds : List D} {i : Int} (r : RpA K mg F xs ds) (h : atI ds i = some z) : ∃ v, atI xs i = some v ∧ Rp K mg F v z := by
  unfold atI at h ⊢
  rw [r.length]
  cases e : ixN ds.length i with
  | none => rw [e] at h; cases h
  | some j =>
    rw [e] at h
    obtain ⟨v, h1, h2⟩ := r.get (show ds[j]? = some z from h)
    exact ⟨v, h1, h2⟩
theorem de_ixT {ds : List D} {i : Int} (ha : DE X W a ρ (.ok (.tup ds))) (hb : DE X W b ρ (.ok (.int i))) (h : atI ds i = some z) (hs : PlainIx b := by intro _ _; rfl) : DE X W (.Subscript a b pos) ρ (.ok z) :=
  de_ix ix_tup ha hb (fun F H vx vy Q e rx ry q => by
    cases ry
    cases rx with
    | tup h1 h2 =>
      obtain ⟨v, g1, g2⟩ := atI_rp h2 h
      exact ⟨_, _, _, _, rfl, rfl, ex_t e h1, g1, q v F H (Stp.refl e) g2⟩) hs
theorem de_ixL {ds : List D} {i : Int} (ha : DE X W a ρ (.ok (.lst ds))) (hb : DE X W b ρ (.ok (.int i))) (h : atI ds i = some z) (hs : PlainIx b := by intro _ _; rfl) : DE X W (.Subscript a b pos) ρ (.ok z) :=
  de_ix ix_list ha hb (fun F H vx vy Q e rx ry q => by
    cases ry
    cases rx with
    | lst h1 h2 =>
      obtain ⟨v, g1, g2⟩ := atI_rp h2 h
      exact ⟨_, _, _, _, rfl, rfl, SqL.of (e _ _ h1), g1, q v F H (Stp.refl e) g2⟩) hs
/-- either -/
def seqD : D → Option (List D)
  | .tup ds => some ds
  | .lst ds => some ds
  | _ => none
theorem de_ixQ {ds : List D} {i : Int} (ha : DE X W a ρ (.ok x)) (hx : seqD x = some ds) (hb : DE X W b ρ (.ok (.int i))) (h : atI ds i = some z) (hs : PlainIx b := by intro _ _; rfl) : DE X W (.Subscript a b pos) ρ (.ok z) := by
  cases x <;> simp [seqD] at hx
  · subst hx; exact de_ixT ha hb h hs
  · subst hx; exact de_ixL ha hb h hs
/-- an own list's item -/
theorem de_ixO (B : Bx X N sc) (i : Nat) {n : Str} {ds : List D} {j : Int} {p2 : Pos} (hb : DE X W b ρ (.ok (.int j))) (h : atI ds j = some z) (hN : N[i]? = some n := by rfl) (hr : ρ[i]? = some (Sl.own ds) := by rfl)
    (hv : Vis sc n := by first | exact Or.inl rfl | exact Or.inr (Or.inl rfl) | exact Or.inr (Or.inr rfl)) (hd : (n == ("__debug__" : Str)) = false := by decide) (hcd : (n == ("__classdict__" : Str)) = false := by decide)
    (hs : PlainIx b := by intro _ _; rfl) : DE X W (.Subscript (.Name n p2) b pos) ρ (.ok z) := fun F0 H0 F H σ Q E q => by
  obtain ⟨l, xs, h1, h2, h3, h4, h5⟩ := E.owns i ds hr
  refine ⟨_, pe_ix ix_list (pe_var (i := i) (by rw [B.n]; exact hN) (by rw [B.sc]; exact hv) hd hcd) pe_w hs, _, h1, hb.use E fun v2 F2 H2 s2 r2 => ?_⟩
  cases r2
  obtain ⟨v, g1, g2⟩ := atI_rp (h5.up s2.ef) h
  exact ⟨l, xs, j, v, rfl, rfl, SqL.of (s2.eh l _ h4), g1, q v F2 H2 s2 g2⟩

/-! ## slices -/
def DO (X : Cx) (W : WX) (e : Option Expr) (ρ : Rho) (o : Option Int) : Prop := match e, o with
  | none, none => True
  | some e, some i => DE X W e ρ (.ok (.int i))
  | _, _ => False
def wO (X : Cx) (e : Option Expr) : TO := fun σ H Q => ∃ t, PO X e t ∧ t σ H Q
theorem po_w {e : Option Expr} : PO X e (wO X e) := ⟨fun pins s σ H Q I h => by obtain ⟨t, h, q⟩ := h; exact h.run pins s σ H Q I q⟩
theorem DO.use {e : Option Expr} {o : Option Int} (h : DO X W e ρ o) {F0 H0 : Hp} {σ : L2.St} {Q : Option Int → Hp → Prop} (E : EnvS X.K X.mg F0 H0 F H σ ρ) (q : ∀ F' H', Stp F H F' H' → Q o H') : wO X e σ H Q := by
  cases e with
  | none =>
    cases o with
    | none => exact ⟨_, po_none, q F H (Stp.refl E.sub)⟩
    | some i => exact h.elim
  | some e =>
    cases o with
    | none => exact h.elim
    | some i => exact ⟨_, po_some pe_w, DE.use (show DE X W e ρ (.ok (.int i)) from h) E fun v F1 H1 s1 r1 => by cases r1; exact ⟨i, rfl, q F1 H1 s1⟩⟩
def cutD (ds : List D) (lo hi : Option Int) : List D := (ds.drop (HT.sIx ds.length 0 lo)).take (HT.sIx ds.length ds.length hi - HT.sIx ds.length 0 lo)
theorem cut_rp {K : PySem.W.Frag} {mg : Str → Option Value} {xs : List V} {ds : List D} {lo hi : Option Int} (r : RpA K mg F xs ds) : RpA K mg F (cutV xs lo hi) (cutD ds lo hi) := by
  unfold cutV cutD
  rw [r.length]
  exact (r.drop _).take _
variable {lo hi : Option Expr} {l u : Option Int} {ds : List D} {p2 : Pos}
theorem df_slL (ha : DE X W a ρ (.ok (.lst ds))) (hl : DO X W lo ρ l) (hu : DO X W hi ρ u) : DF X W (.Subscript a (.Slice lo hi none p2) pos) ρ (cutD ds l u) :=
  fun F0 H0 F H σ Q E q => ⟨_, pe_slice sl_list pe_w po_w po_w, ha.use E fun v1 F1 H1 s1 r1 => hl.use (E.step s1) fun F2 H2 s2 => hu.use ((E.step s1).step s2) fun F3 H3 s3 => by
    cases r1 with
    | lst h1 h2 =>
      rename_i a xs
      refine ⟨a, xs, rfl, SqL.of (((s2.ef.trans s3.ef).trans s3.sub) _ _ h1), fun p hp => ?_⟩
      have st := (s1.trans s2).trans s3
      have hF : F3 p = none := by
        cases e : F3 p with
        | none => rfl
        | some o => rw [s3.sub p o e] at hp; cases hp
      have hH : H p = none := by
        cases e : H p with
        | none => rfl
        | some o => rw [st.eh p o e] at hp; cases hp
      exact q p _ F3 _ (st.trans (Stp.newO s3.sub hp)) hF hH upd_same (cut_rp (h2.up (s2.ef.trans s3.ef)))⟩
theorem de_slT (ha : DE X W a ρ (.ok (.tup ds))) (hl : DO X W lo ρ l) (hu : DO X W hi ρ u) : DE X W (.Subscript a (.Slice lo hi none p2) pos) ρ (.ok (.tup (cutD ds l u))) :=
  fun F0 H0 F H σ Q E q => ⟨_, pe_slice sl_tupA pe_w po_w po_w, ha.use E fun v1 F1 H1 s1 r1 => hl.use (E.step s1) fun F2 H2 s2 => hu.use ((E.step s1).step s2) fun F3 H3 s3 => by
    cases r1 with
    | tup h1 h2 =>
      rename_i a xs
      have st := (s1.trans s2).trans s3
      have e3 := s2.ef.trans s3.ef
      refine ⟨a, xs, rfl, ex_t (e3.trans s3.sub) h1, fun hw => ?_, fun _ p hp => ?_⟩
      · refine q _ F3 H3 st ?_
        have e : cutD ds l u = ds := by
          unfold cutD
          rw [h2.length] at hw
          rw [hw.1, hw.2]
          simp
        rw [e]
        exact .tup (ex_t e3 h1) (h2.up e3)
      · have s4 := Stp.new (o := .tup (cutV xs l u)) s3.sub hp
        exact q _ _ _ (st.trans s4) (.tup (SqT.of upd_same) ((cut_rp (h2.up e3)).up s4.ef))⟩
/-! ## joined -/
theorem Stp.fresh {p : Addr} (s : Stp F H F' H') (hp : H' p = none) : H p = none ∧ F' p = none := by
  constructor
  · cases e : H p with
    | none => rfl
    | some o => rw [s.eh p o e] at hp; cases hp
  · cases e : F' p with
    | none => rfl
    | some o => rw [s.sub p o e] at hp; cases hp
theorem de_catT {es : List D} (ha : DE X W a ρ (.ok (.tup ds))) (hb : DE X W b ρ (.ok (.tup es))) (hz : ds.length + es.length ≤ sizeLine) : DE X W (.BinOp a .Add b pos) ρ (.ok (.tup (ds ++ es))) :=
  de_op op_catA ha hb fun F H vx vy Q e rx ry q => by
    cases rx with
    | @tup a1 xs1 _ h1 h2 =>
      cases ry with
      | @tup a2 xs2 _ g1 g2 =>
        refine ⟨_, _, _, _, rfl, rfl, ex_t e h1, ex_t e g1, by rw [h2.length, g2.length]; exact hz, fun n => ?_, fun _ n => ?_, fun _ _ p hp => ?_⟩
        · subst n
          cases h2
          exact q _ F H (Stp.refl e) (.tup g1 g2)
        · subst n
          cases g2
          rw [List.append_nil] at q
          exact q _ F H (Stp.refl e) (.tup h1 h2)
        · have s4 := Stp.new (o := .tup (xs1 ++ xs2)) e hp
          exact q _ _ _ s4 (.tup (SqT.of upd_same) ((h2.append g2).up s4.ef))
theorem df_slS {ns : List Int} (ha : DE X W a ρ (.ok (.scr ns))) (hl : DO X W lo ρ l) (hu : DO X W hi ρ u) : DF X W (.Subscript a (.Slice lo hi none p2) pos) ρ (cutD (ns.map D.int) l u) :=
  fun F0 H0 F H σ Q E q => ⟨_, pe_slice sl_list pe_w po_w po_w, ha.use E fun v1 F1 H1 s1 r1 => hl.use (E.step s1) fun F2 H2 s2 => hu.use ((E.step s1).step s2) fun F3 H3 s3 => by
    cases r1 with
    | scr h1 =>
      rename_i a
      refine ⟨a, _, rfl, ex_l ((s2.ef.trans s3.ef).trans s3.sub) h1, fun p hp => ?_⟩
      have st := (s1.trans s2).trans s3
      exact q p _ F3 _ (st.trans (Stp.newO s3.sub hp)) (s3.fresh hp).2 (st.fresh hp).1 upd_same (cut_rp (RpA.of_ints ns))⟩
/-- new lists joined -/
theorem df_cat {es : List D} (ha : DE X W a ρ (.ok (.lst ds))) (hb : DE X W b ρ (.ok (.lst es))) (hz : ds.length + es.length ≤ sizeLine) : DF X W (.BinOp a .Add b pos) ρ (ds ++ es) :=
  fun F0 H0 F H σ Q E q => ⟨_, pe_op op_cat pe_w pe_w, ha.use E fun v1 F1 H1 s1 r1 => hb.use (E.step s1) fun v2 F2 H2 s2 r2 => by
    cases r1 with
    | lst h1 h2 =>
      cases r2 with
      | lst g1 g2 =>
        refine ⟨_, _, _, _, rfl, rfl, (s2.ef.trans s2.sub) _ _ h1, s2.sub _ _ g1, by rw [h2.length, g2.length]; exact hz, fun p hp => ?_⟩
        have st := s1.trans s2
        exact q p _ F2 _ (st.trans (Stp.newO s2.sub hp)) (st.fresh hp).2 (st.fresh hp).1 upd_same ((h2.up s2.ef).append g2)⟩
/-- xs[::-1] -/
theorem df_revL {j : Nat} {q1 q2 q3 : Pos} (ha : DE X W a ρ (.ok (.lst ds))) : DF X W (.Subscript a (.Slice none none (some (.UnaryOp .USub (.Constant (.int 1) j q1) q2)) q3) pos) ρ ds.reverse :=
  fun F0 H0 F H σ Q E q => ⟨_, pe_revL pe_w, ha.use E fun v1 F1 H1 s1 r1 => by
    cases r1 with
    | lst h1 h2 =>
      refine ⟨_, _, rfl, SqL.of (s1.sub _ _ h1), fun p hp => ?_⟩
      exact q p _ F1 _ (s1.trans (Stp.newO s1.sub hp)) (s1.fresh hp).2 (s1.fresh hp).1 upd_same h2.reverse⟩
end
end DL

namespace DL
open PySem PySem.Spec PyProof.Rows L2 Evl

/-! ## contracts -/
abbrev Ct := List D → R D → Prop
def PostF (K : PySem.W.Frag) (mg : Str → Option Value) (F H : Hp) (Q : VK) (E : XK) : R D → Prop
  | .ok d => ∀ v F' H', Stp F H F' H' → Rp K mg F' v d → Q v H'
  | .ex c fs => ∀ cls dd F' H', Stp F H F' H' → ExR K mg cls dd H' c fs → E cls dd H'
def spOf (K : PySem.W.Frag) (mg : Str → Option Value) (n : Nat) (c : Ct) : Sp := fun vs H Q E => ∃ F ds r, Ex F H ∧ RpA K mg F vs ds ∧ ds.length = n ∧ c ds r ∧ PostF K mg F H Q E r
/-- a def that keeps its promise wherever no guard is on -/
structure FnG (P : Program) (w : World) (K : PySem.W.Frag) (mg : Str → Option Value) (base : Heap) (k : Nat) (f : Addr) (fd : FuncData) (ps : List Str) (sp : Sp) : Prop where
  len : ∀ vs H Q E, sp vs H Q E → vs.length = ps.length
  run : ∀ (A : Around) (outer : List Env) (s : Shared) (H : Hp) (args : Args) (us : List Value) (vs : List V) (Q : VK) (E : XK), A.guards = some [] → Room k A → Env0 P w K mg base A outer s H → BindsTo s fd args (ps.zip us) →
    Vals vs us → sp vs H Q E → codeAny (model P w) A (.call (.ref f) args) (CR (L2.CX P w) outer P w H s Q E) s
section
variable {P : Program} {w : World} {K : PySem.W.Frag} {mg : Str → Option Value} {base : Heap}
theorem fng_of {k : Nat} {f : Addr} {nm ql : Str} {prm : Arguments} {bod : List Stmt} {scp : Scope} {v1 v2 v3 v4 v5 v6 v7 : Value} {a1 a2 : Option Addr} {sl : Array (Option Value)} {N ps : List Str} {sp : Sp}
    (look : K.lookup f = some ⟨v7, a2, .func (PySem.W.fnOf nm ql prm bod scp v1 v2 v3 v4 a1 v5 v6), sl⟩) (cod : PySem.W.codeIn K v5 ql = true) (FS : FnScope N ps scp)
    (ln : ∀ vs H Q E, sp vs H Q E → vs.length = ps.length)
    (hb : ∀ (A : Around) (outer : List Env) (s : Shared) (H : Hp) (vs : List V) (Q : VK) (E : XK), A.guards = some [] → Room k (A.deeper (envOfC ql scp s.heap.objs.size f v5)) → sp vs H Q E →
      ∃ t, PSs (cxOf (L2.CX P w) P w K mg base N ql scp f v5 A outer s H E) bod t ∧ t { nx := fun _ H' => Q .non H', rt := Q } (start N vs) H) :
    FnG P w K mg base (k + 1) f (PySem.W.fnOf nm ql prm bod scp v1 v2 v3 v4 a1 v5 v6) ps sp := by
  constructor
  · exact ln
  intro A outer s H args us vs Q E hg hroom env0 hbinds hvals hspec
  have len1 : vs.length = ps.length := ln vs H Q E hspec
  have KH : K.In s.heap := env0.mod.kin.keeps fun b o q => (env0.bs b o q).1
  have noLim : s.heap.NoLimit := env0.mod.nolimit.keeps fun b o q => (env0.bs b o q).1
  refine codeAny_call_function hroom.depth (KH _ _ look) rfl FS.co FS.gen rfl (PySem.W.codeRec_of KH cod) (hbinds _ _ _ _ ?_)
  refine wpAny_newFunctionEnv_cells FS.kind (fun ⟨n, v⟩ hy => ?_) fun env henv s1 ic => ?_
  · have par := FS.par n (List.of_mem_zip hy).1
    exact par.elim (fun q => .inl q) fun q => .inr ⟨q, PySem.W.cellsFrom_some _ _ _ (.inl q)⟩
  subst henv
  refine ⟨noLim.keeps ic.toInCall.keep, codeAny_func ?_⟩
  obtain ⟨t, ht, hq⟩ := hb A outer s H vs Q E hg (hroom.deeper _) hspec
  have J : Inv (cxOf (L2.CX P w) P w K mg base N ql scp f v5 A outer s H E) [] (start N vs) H s1 := inv_start FS hroom.hd env0 len1 hvals ic
  have done : ∀ {σ' : L2.St} {H' : Hp} {v : V} {u : Value} {s' : Shared}, Inv (cxOf (L2.CX P w) P w K mg base N ql scp f v5 A outer s H E) [] σ' H' s' → RelV v u → Q v H' → CE outer P w H s Q u s' :=
    fun I rv q => ⟨_, _, I.os, I.bare, I.base, I.hok, rv, q⟩
  refine wpAny_mono (ht.run [] s1 _ H _ J hq) (fun fl s' sp' => ?_) fun _ _ h => h
  cases fl with
  | brk => obtain ⟨_, _, _, z⟩ := sp'; exact z.elim
  | cont => obtain ⟨_, _, _, z⟩ := sp'; exact z.elim
  | next => obtain ⟨_, _, I, z⟩ := sp'; exact done (v := V.non) (u := Value.none) I rfl z
  | ret u => obtain ⟨_, _, _, I, rv, z⟩ := sp'; exact done I rv z

/-- what a caller knows of a def -/
structure Fn (P : Program) (w : World) (K : PySem.W.Frag) (mg : Str → Option Value) (base : Heap) (x : Str) (k n : Nat) (c : Ct) : Prop where
  ex : ∃ f fd ps, mg x = some (.ref f) ∧ PySem.W.keepIn K (.ref f) = true ∧ Binds K fd ps [] ∧ ps.length = n ∧ FnG P w K mg base k f fd ps (spOf K mg n c)
end

section
variable {X : Cx} {W : WX} {e a b c : Expr} {es rest : List Expr} {ρ : Rho} {N : List Str} {sc : Scope} {k n : Nat} {pos : Pos} {x y z : D} {d : D} {r : R D} {F F' H H' : Hp} {p q s t : Bool} {ct : Ct} {ds : List D}
/-- a body, no guard being on -/
structure Bg (X : Cx) (N : List Str) (sc : Scope) (k : Nat) (W : WX) : Prop extends Bd X N sc k W where
  gd : X.A.guards = some []
theorem run_fng {f : Addr} {fd : FuncData} {ps : List Str} {sp : Sp} {pins : List (Addr × Obj)} {σ : L2.St} {s : Shared} {Q : VK} {us : List Value} {vs : List V} (tk : Takes X W) (hg : X.A.guards = some []) (G : FnG X.prog X.w X.K X.mg X.base k f fd ps sp) (hr : Room k X.A) (hb : Binds X.K fd ps [])
    (I : Inv X pins σ H s) (rv : Vals vs us) (h : sp vs H Q (WE W σ)) : wpAny (model X.prog X.w) X.A (call (.ref f) us) (EP X pins σ Q) X.xe s := by
  have l1 := G.len vs H Q _ h
  have bi := hb s us I.kIn (by rw [List.append_nil, ← rv.length]; exact l1)
  rw [List.append_nil] at bi
  refine wpAny_call (codeAny_mono (G.run X.A X.stack s H ⟨us, []⟩ us vs Q (WE W σ) hg hr I.env0 bi rv h) fun res s' z => ?_)
  cases res with
  | error e => exact passAt tk σ pins H s e s' I z
  | ok fl =>
    cases fl with
    | ret u => exact I.after z
    | next => exact False.elim z
    | brk => exact False.elim z
    | cont => exact False.elim z
theorem de_call {f : Str} {p0 : Pos} {kk : Nat} (B : Bg X N sc k W) (G : Fn X.prog X.w X.K X.mg X.base f kk n ct) (hk : kk ≤ k) (ha : DA X W (e :: es) ρ (.ok ds)) (hn : ds.length = n) (hc : ct ds r)
    (hg : sc.names.lookup f = some .globalImplicit := by rfl) (hd : (f == ("__debug__" : Str)) = false := by decide) (he : starEach (e :: es) X.env = (false, eval e X.env) :: starEach es X.env := by rfl)
    (hp : (backTo pos (starEach es X.env)).any (·.1) = false := by rfl) : DE X W (.Call (.Name f p0) (e :: es) [] pos) ρ r := fun F0 H0 F H σ Q E q => by
  obtain ⟨fa, fd, ps, g1, g2, g3, g4, g5⟩ := G.ex
  refine ⟨fun σ' H' Q' => wA X (e :: es) σ' H' fun vs H1 => spOf X.K X.mg n ct vs H1 Q' (WE W σ'), ⟨fun pins s σ' H' Q' I h => ?_⟩, ?_⟩
  · refine wpAny_Call_Name_kw (ld_glob I (show X.env.scope.names.lookup f = _ by rw [B.sc]; exact hg) g1 ?_ hd)
    refine PySem.W.callWith_K (h₀ := X.base) I.ok.mod.kin g2 (thn (pa_w.run pos pins s σ' H' _ I h) fun us s1 hh => ?_) he hp
    obtain ⟨vs, H1, I1, r1, q1⟩ := hh
    exact ⟨I1.kIn, run_fng B.tk B.gd g5 (B.room.mono hk) g3 I1 r1 q1⟩
  · refine ha.use E fun vs F1 H1 s1 r1 => ⟨F1, ds, r, s1.sub, r1, hn, hc, ?_⟩
    cases r with
    | ok d => exact fun v F' H' s2 r2 => q v F' H' (s1.trans s2) r2
    | ex c fs => exact fun cls dd F' H' s2 r2 => q cls dd F' H' (s1.trans s2) r2
theorem de_call0 {f : Str} {p0 : Pos} {kk : Nat} (B : Bg X N sc k W) (G : Fn X.prog X.w X.K X.mg X.base f kk 0 ct) (hk : kk ≤ k) (hc : ct [] r)
    (hg : sc.names.lookup f = some .globalImplicit := by rfl) (hd : (f == ("__debug__" : Str)) = false := by decide) : DE X W (.Call (.Name f p0) [] [] pos) ρ r := fun F0 H0 F H σ Q E q => by
  obtain ⟨fa, fd, ps, g1, g2, g3, g4, g5⟩ := G.ex
  refine ⟨fun σ' H' Q' => spOf X.K X.mg 0 ct [] H' Q' (WE W σ'), ⟨fun pins s σ' H' Q' I h => ?_⟩, ?_⟩
  · refine wpAny_Call_Name_kw (ld_glob I (show X.env.scope.names.lookup f = _ by rw [B.sc]; exact hg) g1 ?_ hd)
    exact PySem.W.callWith_K0 I.kIn g2 (run_fng (us := []) B.tk B.gd g5 (B.room.mono hk) g3 I .nil h)
  · refine ⟨F, [], r, E.sub, .nil, rfl, hc, ?_⟩
    cases r with
    | ok d => exact fun v F' H' s2 r2 => q v F' H' s2 r2
    | ex c fs => exact fun cls dd F' H' s2 r2 => q cls dd F' H' s2 r2

/-! ## an own list lent -/
mutual
theorem Rp.lend {K : PySem.W.Frag} {mg : Str → Option Value} {l : Addr} {xs : List V} (hf : F l = none) (hh : ∀ b u, F' b = some u → b ≠ l → H b = some u) : ∀ (d : D) (v : V), d.lfree = true → F' l = some (.lst xs) → Rp K mg F' v d → Rp K mg H v d
  | .non, _, _, _, .non => .non
  | .bl _, _, _, _, .bl b => .bl b
  | .int _, _, _, _, .int b => .int b
  | .str _, _, _, _, .str b => .str b
  | .tup ds, _, p, hl, .tup (a := a) (xs := ys) h r => by
    refine .tup ?_ (RpA.lend hf hh ds _ (by simpa [D.lfree] using p) hl r)
    have na : ∀ u, F' a = some u → (∀ zs, u ≠ .lst zs) → H a = some u := fun u e n => hh a u e (by rintro rfl; rw [hl] at e; cases e; exact n xs rfl)
    rcases h with (h | ⟨o, h⟩) | h
    · exact .inl (.inl (na _ h fun _ z => nomatch z))
    · exact .inl (.inr ⟨o, na _ h fun _ z => nomatch z⟩)
    · exact .inr h
  | .lst _, _, p, _, _ => by simp [D.lfree] at p
  | .scr _, _, p, _, _ => by simp [D.lfree] at p
  | .obj _ _, _, p, _, _ => by simp [D.lfree] at p
theorem RpA.lend {K : PySem.W.Frag} {mg : Str → Option Value} {l : Addr} {xs : List V} (hf : F l = none) (hh : ∀ b u, F' b = some u → b ≠ l → H b = some u) : ∀ (ds : List D) (vs : List V), lfreeAll ds = true → F' l = some (.lst xs) → RpA K mg F' vs ds → RpA K mg H vs ds
  | [], _, _, _, .nil => .nil
  | d :: ds, _, p, hl, .cons r t => by
    have p' : d.lfree = true ∧ lfreeAll ds = true := by simpa [lfreeAll] using p
    exact .cons (Rp.lend hf hh d _ p'.1 hl r) (RpA.lend hf hh ds _ p'.2 hl t)
end
/-- what is asked of a heap in which our own list is left out again -/
def without (F : Hp) (l : Addr) : Hp := fun b => if b = l then none else F b
theorem without_same {F : Hp} {l : Addr} : without F l l = none := if_pos rfl
theorem without_ne {F : Hp} {l b : Addr} (h : b ≠ l) : without F l b = F b := if_neg h
/-- an expression that reads an own list as a list, and gives what has no list in it -/
theorem de_lend {i : Nat} (hi : ρ[i]? = some (Sl.own ds)) (h : DE X W e (ρ.set i (.val (.lst ds))) (.ok d)) (hd : d.lfree = true) : DE X W e ρ (.ok d) := fun F0 H0 F H σ Q E q => by
  obtain ⟨l, xs, h1, h2, h3, h4, h5⟩ := E.owns i ds hi
  have hil := lt_of_get hi
  have ef : Ex F (upd F l (.lst xs)) := Ex.new h3
  have E1 : EnvS X.K X.mg F0 H0 (upd F l (.lst xs)) H σ (ρ.set i (.val (.lst ds))) := by
    refine ⟨⟨E.st.ef.trans ef, E.st.eh, fun a o g => ?_, fun a ha => ?_⟩, by simp [E.len], fun j d' g => ?_, fun j es g => ?_, fun j m ds1 es1 hjm g1 g2 => ?_⟩
    · by_cases z : a = l
      · subst z; rw [upd_same] at g; cases g; exact h4
      · rw [upd_ne z] at g; exact E.sub a o g
    · rw [upd_ne (by rintro rfl; exact ha h2)]; exact E.st.ag a ha
    · by_cases z : i = j
      · subst z
        rw [List.getElem?_set_self hil] at g
        cases g
        exact ⟨_, h1, .lst upd_same (h5.up ef)⟩
      · rw [List.getElem?_set_ne z] at g
        obtain ⟨v, g1, g2⟩ := E.vals j d' g
        exact ⟨v, g1, g2.up ef⟩
    · have z : i ≠ j := by
        rintro rfl
        rw [List.getElem?_set_self hil] at g
        cases g
      rw [List.getElem?_set_ne z] at g
      obtain ⟨l2, ys, g1, g2, g3, g4, g5⟩ := E.owns j es g
      refine ⟨l2, ys, g1, g2, ?_, g4, g5.up ef⟩
      rw [upd_ne]
      · exact g3
      · rintro rfl
        exact E.dist i j ds es z hi g (by rw [h1, g1])
    · have f : ∀ (j : Nat) (es1 : List D), (ρ.set i (.val (.lst ds)))[j]? = some (Sl.own es1) → ρ[j]? = some (Sl.own es1) := fun j es1 g => by
        by_cases z : i = j
        · subst z
          rw [List.getElem?_set_self hil] at g
          cases g
        · rw [List.getElem?_set_ne z] at g; exact g
      exact E.dist j m ds1 es1 hjm (f j ds1 g1) (f m es1 g2)
  refine h F0 H0 (upd F l (.lst xs)) H σ Q E1 fun v F1 H1 s1 r1 => ?_
  have hl1 : F1 l = some (.lst xs) := s1.ef l _ upd_same
  refine q v (without F1 l) H1 ⟨fun a o g => ?_, s1.eh, fun a o g => ?_, fun a ha => ?_⟩ (Rp.lend (F := without F1 l) without_same (fun b u g nb => by rw [without_ne nb]; exact g) d v hd hl1 r1)
  · have na : a ≠ l := by rintro rfl; rw [h3] at g; cases g
    rw [without_ne na]
    exact s1.ef a o (ef a o g)
  · by_cases na : a = l
    · subst na; rw [without_same] at g; cases g
    · rw [without_ne na] at g; exact s1.sub a o g
  · by_cases na : a = l
    · subst na; rw [without_same, h3]
    · rw [without_ne na, s1.ag a ha, upd_ne na]

/-! ## built-in functions -/
def RCb (K : PySem.W.Frag) (mg : Str → Option Value) (r : List V → Hp → VK → Prop) (ds : List D) (z : D) : Prop := ∀ F H vs Q, Ex F H → RpA K mg F vs ds → (∀ v F' H', Stp F H F' H' → Rp K mg F' v z → Q v H') → r vs H Q
theorem de_callB {f : Str} {p0 : Pos} {id : String} {rr : List V → Hp → VK → Prop} (B : Bx X N sc) (hc : CallR X (.builtin id) rr) (hm : X.mg f = none) (hv : bootBuiltins f = some (.builtin id)) (ha : DA X W (e :: es) ρ (.ok ds)) (h : RCb X.K X.mg rr ds z)
    (hg : sc.names.lookup f = some .globalImplicit := by rfl) (hn : f ≠ "__name__" := by decide) (hd : (f == ("__debug__" : Str)) = false := by decide) (he : starEach (e :: es) X.env = (false, eval e X.env) :: starEach es X.env := by rfl)
    (hp : (backTo pos (starEach es X.env)).any (·.1) = false := by rfl) : DE X W (.Call (.Name f p0) (e :: es) [] pos) ρ (.ok z) := fun F0 H0 F H σ Q E q =>
  ⟨_, pe_callB hc (show X.env.scope.names.lookup f = _ by rw [B.sc]; exact hg) hm hv pa_w hn hd he hp, ha.use E fun vs F1 H1 s1 r1 => h F1 H1 vs Q s1.sub r1 fun v F2 H2 s2 r2 => q v F2 H2 (s1.trans s2) r2⟩
theorem de_callT {f : Str} {p0 : Pos} {T : String} {rr : List V → Hp → VK → Prop} (B : Bx X N sc) (hc : CallR X (.type T) rr) (hm : X.mg f = none) (hv : bootBuiltins f = some (.type T)) (ha : DA X W (e :: es) ρ (.ok ds)) (h : RCb X.K X.mg rr ds z)
    (hg : sc.names.lookup f = some .globalImplicit := by rfl) (hn : f ≠ "__name__" := by decide) (hd : (f == ("__debug__" : Str)) = false := by decide) (he : starEach (e :: es) X.env = (false, eval e X.env) :: starEach es X.env := by rfl)
    (hp : (backTo pos (starEach es X.env)).any (·.1) = false := by rfl) : DE X W (.Call (.Name f p0) (e :: es) [] pos) ρ (.ok z) := fun F0 H0 F H σ Q E q =>
  ⟨_, pe_callTy hc (show X.env.scope.names.lookup f = _ by rw [B.sc]; exact hg) hm hv pa_w hn hd he hp, ha.use E fun vs F1 H1 s1 r1 => h F1 H1 vs Q s1.sub r1 fun v F2 H2 s2 r2 => q v F2 H2 (s1.trans s2) r2⟩
variable {p0 : Pos} {i j : Int} {f : Str}
/-- a name of Python's own -/
structure Bi (X : Cx) (sc : Scope) (f : Str) (v : Value) : Prop where
  g : sc.names.lookup f = some .globalImplicit
  m : X.mg f = none
  v : bootBuiltins f = some v
  n : f ≠ "__name__"
  d : (f == ("__debug__" : Str)) = false
theorem de_abs (B : Bx X N sc) (hm : X.mg "abs" = none) (ha : DE X W a ρ (.ok (.int i))) (hg : sc.names.lookup ("abs" : Str) = some .globalImplicit := by rfl) (hs : starEach [a] X.env = (false, eval a X.env) :: starEach [] X.env := by rfl) :
    DE X W (.Call (.Name "abs" p0) [a] [] pos) ρ (.ok (.int (if i < 0 then -i else i))) :=
  de_callB B call_abs hm (by decide +kernel) (da_cons ha da_nil hs) (fun F H vs Q e r q => by cases r with | cons r1 r2 => cases r1; cases r2; exact ⟨i, rfl, q _ F H (Stp.refl e) (.int _)⟩) hg (he := hs)
theorem de_int1 (B : Bx X N sc) (hm : X.mg "int" = none) (ha : DE X W a ρ (.ok (.int i))) (hg : sc.names.lookup ("int" : Str) = some .globalImplicit := by rfl) (hs : starEach [a] X.env = (false, eval a X.env) :: starEach [] X.env := by rfl) :
    DE X W (.Call (.Name "int" p0) [a] [] pos) ρ (.ok (.int i)) :=
  de_callT B call_int1 hm (by decide +kernel) (da_cons ha da_nil hs) (fun F H vs Q e r q => by cases r with | cons r1 r2 => cases r1; cases r2; exact .inl ⟨i, rfl, q _ F H (Stp.refl e) (.int _)⟩) hg (he := hs)
theorem de_intB (B : Bx X N sc) (hm : X.mg "int" = none) (ha : DE X W a ρ (.ok (.bl p))) (hg : sc.names.lookup ("int" : Str) = some .globalImplicit := by rfl) (hs : starEach [a] X.env = (false, eval a X.env) :: starEach [] X.env := by rfl) :
    DE X W (.Call (.Name "int" p0) [a] [] pos) ρ (.ok (.int (if p then 1 else 0))) :=
  de_callT B call_int1 hm (by decide +kernel) (da_cons ha da_nil hs) (fun F H vs Q e r q => by cases r with | cons r1 r2 => cases r1; cases r2; exact .inr ⟨p, rfl, q _ F H (Stp.refl e) (.int _)⟩) hg (he := hs)
theorem de_max2 (B : Bd X N sc k W) (hm : X.mg "max" = none) (ha : DE X W a ρ (.ok (.int i))) (hb : DE X W b ρ (.ok (.int j))) (hg : sc.names.lookup ("max" : Str) = some .globalImplicit := by rfl)
    (hs : starEach [a, b] X.env = (false, eval a X.env) :: starEach [b] X.env := by rfl) (hs2 : starEach [b] X.env = (false, eval b X.env) :: starEach [] X.env := by rfl) (hp : (backTo pos (starEach [b] X.env)).any (·.1) = false := by rfl) :
    DE X W (.Call (.Name "max" p0) [a, b] [] pos) ρ (.ok (.int (if j > i then j else i))) :=
  de_callB B.toBx (call_max2 B.calm) hm (by decide +kernel) (da_cons ha (da_cons hb da_nil hs2) hs) (fun F H vs Q e r q => by
    cases r with
    | cons r1 r2 => cases r1; cases r2 with | cons r2 r3 => cases r2; cases r3; exact ⟨i, j, rfl, q _ F H (Stp.refl e) (.int _)⟩) hg (he := hs) (hp := hp)
theorem de_min2 (B : Bd X N sc k W) (hm : X.mg "min" = none) (ha : DE X W a ρ (.ok (.int i))) (hb : DE X W b ρ (.ok (.int j))) (hg : sc.names.lookup ("min" : Str) = some .globalImplicit := by rfl)
    (hs : starEach [a, b] X.env = (false, eval a X.env) :: starEach [b] X.env := by rfl) (hs2 : starEach [b] X.env = (false, eval b X.env) :: starEach [] X.env := by rfl) (hp : (backTo pos (starEach [b] X.env)).any (·.1) = false := by rfl) :
    DE X W (.Call (.Name "min" p0) [a, b] [] pos) ρ (.ok (.int (if j < i then j else i))) :=
  de_callB B.toBx (call_min2 B.calm) hm (by decide +kernel) (da_cons ha (da_cons hb da_nil hs2) hs) (fun F H vs Q e r q => by
    cases r with
    | cons r1 r2 => cases r1; cases r2 with | cons r2 r3 => cases r2; cases r3; exact ⟨i, j, rfl, q _ F H (Stp.refl e) (.int _)⟩) hg (he := hs) (hp := hp)
/-- len, of a list or a tuple -/
theorem de_len (B : Bx X N sc) (hm : X.mg "len" = none) (ha : DE X W a ρ (.ok x)) (hx : seqD x = some ds) (hg : sc.names.lookup ("len" : Str) = some .globalImplicit := by rfl) (hs : starEach [a] X.env = (false, eval a X.env) :: starEach [] X.env := by rfl) :
    DE X W (.Call (.Name "len" p0) [a] [] pos) ρ (.ok (.int (ds.length : Int))) :=
  de_callB B call_len_seq hm (by decide +kernel) (da_cons ha da_nil hs) (fun F H vs Q e r q => by
    cases r with
    | cons r1 r2 =>
      cases r2
      cases x <;> simp [seqD] at hx
      · subst hx
        cases r1 with
        | tup h1 h2 => exact ⟨_, _, rfl, .inr (ex_t e h1), q _ F H (Stp.refl e) (by rw [h2.length]; exact .int _)⟩
      · subst hx
        cases r1 with
        | lst h1 h2 => exact ⟨_, _, rfl, .inl (SqL.of (e _ _ h1)), q _ F H (Stp.refl e) (by rw [h2.length]; exact .int _)⟩) hg (he := hs)
theorem de_lenS (B : Bx X N sc) {u : Str} (hm : X.mg "len" = none) (ha : DE X W a ρ (.ok (.str u))) (hu : u.length ≤ sizeLine) (hg : sc.names.lookup ("len" : Str) = some .globalImplicit := by rfl) (hs : starEach [a] X.env = (false, eval a X.env) :: starEach [] X.env := by rfl) :
    DE X W (.Call (.Name "len" p0) [a] [] pos) ρ (.ok (.int (u.length : Int))) :=
  de_callB B call_len_str hm (by decide +kernel) (da_cons ha da_nil hs) (fun F H vs Q e r q => by cases r with | cons r1 r2 => cases r1; cases r2; exact ⟨u, rfl, hu, q _ F H (Stp.refl e) (.int _)⟩) hg (he := hs)
theorem de_sum (B : Bd X N sc k W) {ns : List Int} (hm : X.mg "sum" = none) (ha : DE X W a ρ (.ok (.lst (ns.map D.int)))) (hg : sc.names.lookup ("sum" : Str) = some .globalImplicit := by rfl) (hs : starEach [a] X.env = (false, eval a X.env) :: starEach [] X.env := by rfl) :
    DE X W (.Call (.Name "sum" p0) [a] [] pos) ρ (.ok (.int ns.sum)) :=
  de_callB B.toBx (cr_sum B.calm) hm (by decide +kernel) (da_cons ha da_nil hs) (fun F H vs Q e r q => by
    cases r with
    | cons r1 r2 =>
      cases r2
      cases r1 with
      | lst h1 h2 => rw [h2.ints] at h1; exact ⟨_, ns, rfl, SqL.of (e _ _ h1), q _ F H (Stp.refl e) (.int _)⟩) hg (he := hs)
theorem de_all (B : Bd X N sc k W) {ns : List Bool} (hm : X.mg "all" = none) (ha : DE X W a ρ (.ok (.lst (ns.map D.bl)))) (hg : sc.names.lookup ("all" : Str) = some .globalImplicit := by rfl) (hs : starEach [a] X.env = (false, eval a X.env) :: starEach [] X.env := by rfl) :
    DE X W (.Call (.Name "all" p0) [a] [] pos) ρ (.ok (.bl (ns.all id))) :=
  de_callB B.toBx (cr_all B.calm) hm (by decide +kernel) (da_cons ha da_nil hs) (fun F H vs Q e r q => by
    cases r with
    | cons r1 r2 =>
      cases r2
      cases r1 with
      | lst h1 h2 => rw [h2.bls] at h1; exact ⟨_, ns, rfl, SqL.of (e _ _ h1), q _ F H (Stp.refl e) (.bl _)⟩) hg (he := hs)
theorem de_any (B : Bd X N sc k W) {ns : List Bool} (hm : X.mg "any" = none) (ha : DE X W a ρ (.ok (.lst (ns.map D.bl)))) (hg : sc.names.lookup ("any" : Str) = some .globalImplicit := by rfl) (hs : starEach [a] X.env = (false, eval a X.env) :: starEach [] X.env := by rfl) :
    DE X W (.Call (.Name "any" p0) [a] [] pos) ρ (.ok (.bl (ns.any id))) :=
  de_callB B.toBx (cr_any B.calm) hm (by decide +kernel) (da_cons ha da_nil hs) (fun F H vs Q e r q => by
    cases r with
    | cons r1 r2 =>
      cases r2
      cases r1 with
      | lst h1 h2 => rw [h2.bls] at h1; exact ⟨_, ns, rfl, SqL.of (e _ _ h1), q _ F H (Stp.refl e) (.bl _)⟩) hg (he := hs)
/-- tuple(..) -/
theorem de_tupleL (B : Bx X N sc) (hm : X.mg "tuple" = none) (ha : DE X W a ρ (.ok x)) (hx : seqD x = some ds) (hg : sc.names.lookup ("tuple" : Str) = some .globalImplicit := by rfl) (hs : starEach [a] X.env = (false, eval a X.env) :: starEach [] X.env := by rfl) :
    DE X W (.Call (.Name "tuple" p0) [a] [] pos) ρ (.ok (.tup ds)) :=
  de_callT B call_tuple_of hm (by decide +kernel) (da_cons ha da_nil hs) (fun F H vs Q e r q => by
    cases r with
    | cons r1 r2 =>
      cases r2
      cases x <;> simp [seqD] at hx
      · subst hx
        cases r1 with
        | tup h1 h2 => exact ⟨_, _, rfl, .inr ⟨ex_t e h1, q _ F H (Stp.refl e) (.tup h1 h2)⟩⟩
      · subst hx
        cases r1 with
        | @lst a1 xs1 _ h1 h2 =>
          refine ⟨_, _, rfl, .inl ⟨SqL.of (e _ _ h1), fun p hp => ?_⟩⟩
          have s4 := Stp.new (o := .tup xs1) e hp
          exact q _ _ _ s4 (.tup (SqT.of upd_same) (h2.up s4.ef))) hg (he := hs)
/-- list(..), a new list -/
theorem df_list (B : Bx X N sc) (hm : X.mg "list" = none) (ha : DE X W a ρ (.ok x)) (hx : seqD x = some ds) (hg : sc.names.lookup ("list" : Str) = some .globalImplicit := by rfl) (hs : starEach [a] X.env = (false, eval a X.env) :: starEach [] X.env := by rfl)
    (hp : (backTo pos (starEach [] X.env)).any (·.1) = false := by rfl) :
    DF X W (.Call (.Name "list" p0) [a] [] pos) ρ ds := fun F0 H0 F H σ Q E q =>
  ⟨_, pe_callTy call_list_of (show X.env.scope.names.lookup ("list" : Str) = _ by rw [B.sc]; exact hg) hm (by decide +kernel) (pa_cons pe_w pa_nil hs) (by decide) (by decide) hs hp, ha.use E fun v F1 H1 s1 r1 => by
    cases x <;> simp [seqD] at hx
    · subst hx
      cases r1 with
      | tup h1 h2 => exact ⟨_, _, rfl, .inr (ex_t s1.sub h1), fun p hp => q p _ F1 _ (s1.trans (Stp.newO s1.sub hp)) (s1.fresh hp).2 (s1.fresh hp).1 upd_same h2⟩
    · subst hx
      cases r1 with
      | lst h1 h2 => exact ⟨_, _, rfl, .inl (SqL.of (s1.sub _ _ h1)), fun p hp => q p _ F1 _ (s1.trans (Stp.newO s1.sub hp)) (s1.fresh hp).2 (s1.fresh hp).1 upd_same h2⟩⟩
end
end DL

namespace DL
open PySem PySem.Spec PyProof.Rows L2 Evl
section
variable {X : Cx} {W : WX} {e a b c tg : Expr} {es rest tgs : List Expr} {ρ ρ' ρ1 ρ2 ρ3 : Rho} {N : List Str} {sc : Scope} {k n : Nat} {pos : Pos} {x y z : D} {d : D} {r : R D} {F F' H H' F0 H0 : Hp} {p q s t : Bool} {ct : Ct} {ds : List D} {o : Out} {st : Stmt} {sts body : List Stmt} {js : List Nat}

/-! ## another beginning -/
def over (H0 F1 : Hp) : Hp := fun a => match H0 a with | some o => some o | none => F1 a
theorem over_some {F1 : Hp} {a : Addr} {o : HO} (h : H0 a = some o) : over H0 F1 a = some o := by unfold over; rw [h]
theorem over_none {F1 : Hp} {a : Addr} (h : H0 a = none) : over H0 F1 a = F1 a := by unfold over; rw [h]
theorem Stp.over {F1 H1 : Hp} (a : Stp F0 H0 F1 H1) (e1 : Ex F1 F) (s : Stp F0 H0 F H) : Stp F1 (over H0 F1) F H := by
  refine ⟨e1, fun x o h => ?_, s.sub, fun x hx => ?_⟩
  · cases g : H0 x with
    | some u => rw [over_some g] at h; cases h; exact s.eh x _ g
    | none => rw [over_none g] at h; exact s.sub x o (e1 x o h)
  · cases g : H0 x with
    | some u => rw [s.ag x (by rw [g]; simp), a.ag x (by rw [g]; simp)]
    | none =>
      rw [over_none g] at hx
      cases g2 : F1 x with
      | none => exact absurd g2 hx
      | some u => exact e1 x u g2
theorem Stp.unover {F1 H1 : Hp} (a : Stp F0 H0 F1 H1) (s : Stp F1 (DL.over H0 F1) F H) : Stp F0 H0 F H := by
  refine ⟨a.ef.trans s.ef, fun x o h => s.eh x o (over_some h), s.sub, fun x hx => ?_⟩
  cases g : H0 x with
  | none => exact absurd g hx
  | some u => rw [s.ag x (by rw [over_some g]; simp), a.ag x hx]
theorem EnvS.over {K : PySem.W.Frag} {mg : Str → Option Value} {F1 H1 : Hp} {σ : L2.St} (a : Stp F0 H0 F1 H1) (e1 : Ex F1 F) (E : EnvS K mg F0 H0 F H σ ρ) : EnvS K mg F1 (DL.over H0 F1) F H σ ρ :=
  ⟨a.over e1 E.st, E.len, E.vals, fun i ds h => by
    obtain ⟨l, xs, h1, h2, h3, h4, h5⟩ := E.owns i ds h
    refine ⟨l, xs, h1, ?_, h3, h4, h5⟩
    rw [over_none h2]
    exact (match g : F1 l with
    | none => rfl
    | some u => by rw [e1 l u g] at h3; cases h3), E.dist⟩
theorem EnvS.unover {K : PySem.W.Frag} {mg : Str → Option Value} {F1 H1 : Hp} {σ : L2.St} (a : Stp F0 H0 F1 H1) (E : EnvS K mg F1 (DL.over H0 F1) F H σ ρ) : EnvS K mg F0 H0 F H σ ρ :=
  ⟨a.unover E.st, E.len, E.vals, fun i ds h => by
    obtain ⟨l, xs, h1, h2, h3, h4, h5⟩ := E.owns i ds h
    refine ⟨l, xs, h1, ?_, h3, h4, h5⟩
    exact (match g : H0 l with
    | none => rfl
    | some u => by rw [over_some g] at h2; cases h2), E.dist⟩
theorem EnvS.setAny {K : PySem.W.Frag} {mg : Str → Option Value} {σ : L2.St} (E : EnvS K mg F0 H0 F H σ ρ) (i : Nat) (v : Option V) : EnvS K mg F0 H0 F H (σ.set i v) (ρ.set i .any) := by
  have ne : ∀ (j : Nat) (s : Sl), (ρ.set i .any)[j]? = some s → s ≠ .any → i ≠ j ∧ ρ[j]? = some s := fun j s h hs => by
    by_cases q : i = j
    · subst q
      have hi : i < ρ.length := by simpa using lt_of_get h
      rw [List.getElem?_set_self hi] at h
      exact absurd (Option.some.inj h).symm hs
    · rw [List.getElem?_set_ne q] at h; exact ⟨q, h⟩
  refine ⟨E.st, by simp [E.len], fun j d h => ?_, fun j ds h => ?_, fun j m ds es hn h1 h2 => ?_⟩
  · obtain ⟨q, h⟩ := ne j _ h (by simp)
    rw [List.getElem?_set_ne q]; exact E.vals j d h
  · obtain ⟨q, h⟩ := ne j _ h (by simp)
    rw [List.getElem?_set_ne q]; exact E.owns j ds h
  · obtain ⟨q1, h1⟩ := ne j _ h1 (by simp)
    obtain ⟨q2, h2⟩ := ne m _ h2 (by simp)
    rw [List.getElem?_set_ne q1, List.getElem?_set_ne q2]; exact E.dist j m ds es hn h1 h2

/-! ## targets -/
def Agr (js : List Nat) (σ' σ : L2.St) : Prop := σ'.length = σ.length ∧ ∀ i, i ∉ js → σ'[i]? = σ[i]?
def DG (X : Cx) (tg : Expr) (d : D) (ρ ρ' : Rho) (js : List Nat) : Prop := ∀ F0 H0 F H σ v Q, EnvS X.K X.mg F0 H0 F H σ ρ → Rp X.K X.mg F v d →
  (∀ F' H' σ', Stp F H F' H' → EnvS X.K X.mg F0 H0 F' H' σ' ρ' → Agr js σ' σ → Q σ' H') → wG X tg v σ H Q
def DGs (X : Cx) (tgs : List Expr) (ds : List D) (ρ ρ' : Rho) (js : List Nat) : Prop := ∀ F0 H0 F H σ vs Q, EnvS X.K X.mg F0 H0 F H σ ρ → RpA X.K X.mg F vs ds →
  (∀ F' H' σ', Stp F H F' H' → EnvS X.K X.mg F0 H0 F' H' σ' ρ' → Agr js σ' σ → Q σ' H') → wGs X tgs vs σ H Q
theorem dg_name (B : Bx X N sc) (i : Nat) {s : Str} (hN : N[i]? = some s := by rfl) (hx : Loc sc s := by first | exact Or.inl rfl | exact Or.inr rfl) (hf : X.fn s = true ∨ sc.names.lookup s = some .local := by first | exact Or.inl rfl | exact Or.inr rfl | (apply Or.inl; apply_assumption)) :
    DG X (.Name s pos) d ρ (ρ.set i (.val d)) [i] := fun F0 H0 F H σ v Q E r q => by
  refine ⟨_, pg_name (i := i) (by rw [B.n]; exact B.nd) (by rw [B.n]; exact hN) (by rw [B.sc]; exact hx) (by rw [B.sc]; exact hf), ?_⟩
  exact q F H _ (Stp.refl E.sub) (E.setVal r) ⟨by simp, fun j hj => List.getElem?_set_ne (by simpa using Ne.symm (show j ≠ i by simpa using hj))⟩
theorem dgs_nil : DGs X [] [] ρ ρ [] := fun F0 H0 F H σ vs Q E r q => by cases r; exact ⟨_, pgs_nil, rfl, q F H σ (Stp.refl E.sub) E ⟨rfl, fun _ _ => rfl⟩⟩
theorem dgs_cons {ks : List Nat} (h1 : DG X tg d ρ ρ1 js) (h2 : DGs X tgs ds ρ1 ρ2 ks) (hs : (assignEach (tg :: tgs) X.env).map (·.2) = assign tg X.env :: (assignEach tgs X.env).map (·.2) := by rfl) : DGs X (tg :: tgs) (d :: ds) ρ ρ2 (js ++ ks) :=
  fun F0 H0 F H σ vs Q E r q => by
    cases r with
    | cons r1 r2 =>
      refine ⟨_, pgs_cons pg_w pgs_w hs, _, _, rfl, h1 F0 H0 F H σ _ _ E r1 fun F1 H1 σ1 s1 E1 a1 => h2 F0 H0 F1 H1 σ1 _ _ E1 (r2.up s1.ef) fun F2 H2 σ2 s2 E2 a2 => q F2 H2 σ2 (s1.trans s2) E2 ⟨by rw [a2.1, a1.1], fun i hi => ?_⟩⟩
      simp only [List.mem_append, not_or] at hi
      rw [a2.2 i hi.2, a1.2 i hi.1]
theorem dg_tup {j : Nat} (B : Bd X N sc k W) (hd : seqD d = some ds) (h : DGs X tgs ds ρ ρ' js) (hl : (assignEach tgs X.env).length = ds.length := by rfl) (hst : (assignEach tgs X.env).findIdx? (·.1) = none := by rfl) : DG X (.Tuple tgs j pos) d ρ ρ' js :=
  fun F0 H0 F H σ v Q E r q => by
    cases d <;> simp [seqD] at hd
    · subst hd
      cases r with
      | tup h1 h2 => exact ⟨_, pg_tup B.calm pgs_w hl hst, _, _, rfl, ex_t E.sub h1, h2.length, h F0 H0 F H σ _ Q E h2 q⟩
    · subst hd
      cases r with
      | lst h1 h2 => exact ⟨_, pg_lst B.calm pgs_w hl hst, _, _, rfl, SqL.of (E.sub _ _ h1), h2.length, h F0 H0 F H σ _ Q E h2 q⟩

/-! ## small statements -/
theorem ds_set (B : Bx X N sc) (i : Nat) {s : Str} {p' : Pos} (he : DE X W e ρ (.ok d)) (hN : N[i]? = some s := by rfl) (hx : Loc sc s := by first | exact Or.inl rfl | exact Or.inr rfl) (hf : X.fn s = true ∨ sc.names.lookup s = some .local := by first | exact Or.inl rfl | exact Or.inr rfl | (apply Or.inl; apply_assumption))
    (hs : swapsWith e (some (.Name s p')) pos.line X.env = pure false := by rfl) : DS X W (.Assign [.Name s p'] e pos) ρ (.nx (ρ.set i (.val d))) := fun F0 H0 F H σ Dn E q =>
  ⟨_, ps_set (i := i) (by rw [B.n]; exact B.nd) (by rw [B.n]; exact hN) (by rw [B.sc]; exact hx) pe_w hs (by rw [B.sc]; exact hf), he.use E fun v F1 H1 s1 r1 => q F1 H1 _ ((E.step s1).setVal r1)⟩
/-- a new list of our own -/
theorem EnvS.own1 {K : PySem.W.Frag} {mg : Str → Option Value} {σ : L2.St} {l : Addr} {xs : List V} {i : Nat} (E : EnvS K mg F0 H0 F H σ ρ) (s : Stp F H F' H') (hF : F' l = none) (hH : H l = none) (hl : H' l = some (.lst xs)) (r : RpA K mg F' xs ds) :
    EnvS K mg F0 H0 F' H' (σ.set i (some (.ref l))) (ρ.set i (.own ds)) := by
  refine (E.step s).setOwn ?_ hF hl (fun j es h z => ?_) r
  · cases g : H0 l with
    | none => rfl
    | some u => rw [E.st.eh l u g] at hH; cases hH
  · obtain ⟨l2, ys, g1, g2, g3, g4, g5⟩ := E.owns j es h
    rw [g1] at z
    cases z
    rw [g4] at hH; cases hH
theorem ds_own (B : Bx X N sc) (i : Nat) {s : Str} {p' : Pos} (he : DF X W e ρ ds) (hN : N[i]? = some s := by rfl) (hx : Loc sc s := by first | exact Or.inl rfl | exact Or.inr rfl) (hf : X.fn s = true ∨ sc.names.lookup s = some .local := by first | exact Or.inl rfl | exact Or.inr rfl | (apply Or.inl; apply_assumption))
    (hs : swapsWith e (some (.Name s p')) pos.line X.env = pure false := by rfl) : DS X W (.Assign [.Name s p'] e pos) ρ (.nx (ρ.set i (.own ds))) := fun F0 H0 F H σ Dn E q =>
  ⟨_, ps_set (i := i) (by rw [B.n]; exact B.nd) (by rw [B.n]; exact hN) (by rw [B.sc]; exact hx) pe_w hs (by rw [B.sc]; exact hf), he F0 H0 F H σ _ E fun l xs F1 H1 s1 hF hH hl r1 => q F1 H1 _ (E.own1 s1 hF hH hl r1)⟩
theorem ds_asg (he : DE X W e ρ (.ok d)) (hg : DG X tg d ρ ρ' js) (hs : swapsWithSole [tg] e pos.line X.env = pure false := by rfl) (hw : swappedStores [tg] e X.env = pure none := by rfl) (h1 : (assignEach [tg] X.env).map (·.2) = [assign tg X.env] := by rfl) :
    DS X W (.Assign [tg] e pos) ρ (.nx ρ') := fun F0 H0 F H σ Dn E q =>
  ⟨_, ps_asg pe_w pg_w hs hw h1, he.use E fun v F1 H1 s1 r1 => hg F0 H0 F1 H1 σ v _ (E.step s1) r1 fun F2 H2 σ2 s2 E2 _ => q F2 H2 σ2 E2⟩
/-- a, b = x, y -/
theorem ds_par (B : Bd X N sc k W) (i j : Nat) {s u : Str} {px py pt pt2 : Pos} {kt k2 : Nat} (he : DA X W [a, b] ρ (.ok [x, y])) (hij : i ≠ j := by decide) (hi : N[i]? = some s := by rfl) (hj : N[j]? = some u := by rfl)
    (hx : sc.names.lookup s = some .local := by rfl) (hy : sc.names.lookup u = some .local := by rfl)
    (hw : swappedStores [.Tuple [.Name s px, .Name u py] kt pt] (.Tuple [a, b] k2 pt2) X.env = pure (some [s, u])) (hs : swapsWithSole [.Tuple [.Name s px, .Name u py] kt pt] (.Tuple [a, b] k2 pt2) pos.line X.env = pure false := by rfl) :
    DS X W (.Assign [.Tuple [.Name s px, .Name u py] kt pt] (.Tuple [a, b] k2 pt2) pos) ρ (.nx ((ρ.set i (.val x)).set j (.val y))) := fun F0 H0 F H σ Dn E q =>
  ⟨_, ps_par B.calm (by rw [B.n]; exact B.nd) (by rw [B.n]; exact hi) (by rw [B.n]; exact hj) hij (by rw [B.sc]; exact hx) (by rw [B.sc]; exact hy) pa_w hw hs, he.use E fun vs F1 H1 s1 r1 => by
    cases r1 with
    | cons r1 r2 =>
      cases r2 with
      | cons r2 r3 =>
        cases r3
        exact ⟨_, _, rfl, q F1 H1 _ (((E.step s1).setVal r1).setVal r2)⟩⟩
theorem ds_ret (he : DE X W e ρ (.ok d)) : DS X W (.Return (some e) pos) ρ (.rt d) := fun F0 H0 F H σ Dn E q => ⟨_, ps_ret pe_w, he.use E fun v F1 H1 s1 r1 => q v F1 H1 (E.st.trans s1) r1⟩
theorem ds_retN : DS X W (.Return none pos) ρ (.rt .non) := fun F0 H0 F H σ Dn E q => ⟨_, ps_retN, q _ F H E.st .non⟩
theorem ds_expr (he : DE X W e ρ (.ok d)) (hs : swapsWith e none pos.line X.env = pure false := by rfl) : DS X W (.Expr e pos) ρ (.nx ρ) := fun F0 H0 F H σ Dn E q => ⟨_, ps_expr pe_w hs, he.use E fun v F1 H1 s1 r1 => q F1 H1 σ (E.step s1)⟩
/-- what a statement's expression raises -/
theorem ds_exprX {f : Str} {fs : List (Str × D)} (he : DE X W e ρ (.ex f fs)) (hs : swapsWith e none pos.line X.env = pure false := by rfl) : DS X W (.Expr e pos) ρ (.ex f fs ρ) := fun F0 H0 F H σ Dn E q =>
  ⟨_, ps_expr pe_w hs, he F0 H0 F H σ _ E fun cls dd F1 H1 s1 r1 => q cls dd F1 H1 σ (E.step s1) r1⟩
theorem ds_retX {f : Str} {fs : List (Str × D)} (he : DE X W e ρ (.ex f fs)) : DS X W (.Return (some e) pos) ρ (.ex f fs ρ) := fun F0 H0 F H σ Dn E q =>
  ⟨_, ps_ret pe_w, he F0 H0 F H σ _ E fun cls dd F1 H1 s1 r1 => q cls dd F1 H1 σ (E.step s1) r1⟩
theorem ds_setX {s : Str} {p' : Pos} {f : Str} {fs : List (Str × D)} (B : Bx X N sc) (i : Nat) (he : DE X W e ρ (.ex f fs)) (hN : N[i]? = some s := by rfl) (hx : Loc sc s := by first | exact Or.inl rfl | exact Or.inr rfl) (hf : X.fn s = true ∨ sc.names.lookup s = some .local := by first | exact Or.inl rfl | exact Or.inr rfl | (apply Or.inl; apply_assumption))
    (hs : swapsWith e (some (.Name s p')) pos.line X.env = pure false := by rfl) : DS X W (.Assign [.Name s p'] e pos) ρ (.ex f fs ρ) := fun F0 H0 F H σ Dn E q =>
  ⟨_, ps_set (i := i) (by rw [B.n]; exact B.nd) (by rw [B.n]; exact hN) (by rw [B.sc]; exact hx) pe_w hs (by rw [B.sc]; exact hf), he F0 H0 F H σ _ E fun cls dd F1 H1 s1 r1 => q cls dd F1 H1 σ (E.step s1) r1⟩
theorem ds_if {tb eb : List Stmt} (ht : DT X W c ρ (.ok p)) (ha : p = true → DSs X W tb ρ o) (hb : p = false → DSs X W eb ρ o) : DS X W (.If c tb eb pos) ρ o := fun F0 H0 F H σ Dn E q =>
  ⟨_, ps_if pt_w pss_w pss_w, ht.use E fun F1 H1 s1 => by
    cases p with
    | true => exact iteT (ha rfl F0 H0 F1 H1 σ Dn (E.step s1) q)
    | false => exact iteF (hb rfl F0 H0 F1 H1 σ Dn (E.step s1) q)⟩
theorem ds_pass : DS X W (.Pass pos) ρ (.nx ρ) := fun F0 H0 F H σ Dn E q => ⟨_, ps_pass, q F H σ E⟩
theorem ds_break : DS X W (.Break pos) ρ (.bk ρ) := fun F0 H0 F H σ Dn E q => ⟨_, ps_break, q F H σ E⟩
theorem ds_cont : DS X W (.Continue pos) ρ (.ct ρ) := fun F0 H0 F H σ Dn E q => ⟨_, ps_continue, q F H σ E⟩
theorem ds_doc {u : Str} {j : Nat} {p' : Pos} : DS X W (.Expr (.Constant (.str u) j p') pos) ρ (.nx ρ) := fun F0 H0 F H σ Dn E q => ⟨_, ps_doc, q F H σ E⟩

/-! ## blocks -/
theorem dss_nil : DSs X W [] ρ (.nx ρ) := fun F0 H0 F H σ Dn E q => ⟨_, pss_nil, q F H σ E⟩
theorem dss_cons (h1 : DS X W st ρ (.nx ρ1)) (h2 : DSs X W sts ρ1 o) : DSs X W (st :: sts) ρ o := fun F0 H0 F H σ Dn E q =>
  ⟨_, pss_cons ps_w pss_w, h1 F0 H0 F H σ { Dn with nx := wSs X sts Dn } E fun F1 H1 σ1 E1 => h2 F0 H0 F1 H1 σ1 Dn E1 q⟩
/-- what leaves the block here -/
def Out.leaves : Out → Bool
  | .nx _ => false
  | _ => true
theorem PostS.nx_irr {K : PySem.W.Frag} {mg : Str → Option Value} {Dn : Ends} {g : L2.St → Hp → Prop} (ho : o.leaves = true) (q : PostS K mg W F0 H0 Dn o) : PostS K mg W F0 H0 { Dn with nx := g } o := by
  cases o with
  | nx _ => simp [Out.leaves] at ho
  | rt _ => exact q
  | bk _ => exact q
  | ct _ => exact q
  | ex _ _ _ => exact q
theorem dss_stop (h1 : DS X W st ρ o) (ho : o.leaves = true := by rfl) : DSs X W (st :: sts) ρ o := fun F0 H0 F H σ Dn E q =>
  ⟨_, pss_cons ps_w (pss_never), h1 F0 H0 F H σ { Dn with nx := tNever Dn } E (PostS.nx_irr ho q)⟩
theorem dss_one (h1 : DS X W st ρ o) : DSs X W [st] ρ o := fun F0 H0 F H σ Dn E q => ⟨_, pss_one ps_w, h1 F0 H0 F H σ Dn E q⟩
theorem dss_weak (h : Le ρ ρ') (h2 : DSs X W sts ρ' o) : DSs X W sts ρ o := fun F0 H0 F H σ Dn E q => h2 F0 H0 F H σ Dn (E.weaken h) q
theorem ds_weak (h : Le ρ ρ') (h2 : DS X W st ρ' o) : DS X W st ρ o := fun F0 H0 F H σ Dn E q => h2 F0 H0 F H σ Dn (E.weaken h) q
theorem dss_weakO (h : DSs X W sts ρ (.nx ρ1)) (hl : Le ρ1 ρ2) : DSs X W sts ρ (.nx ρ2) := fun F0 H0 F H σ Dn E q => h F0 H0 F H σ Dn E fun F1 H1 σ1 E1 => q F1 H1 σ1 (E1.weaken hl)
theorem ds_weakO (h : DS X W st ρ (.nx ρ1)) (hl : Le ρ1 ρ2) : DS X W st ρ (.nx ρ2) := fun F0 H0 F H σ Dn E q => h F0 H0 F H σ Dn E fun F1 H1 σ1 E1 => q F1 H1 σ1 (E1.weaken hl)
theorem DSs.of_eq {o' : Out} (h : DSs X W sts ρ o) (q : o = o') : DSs X W sts ρ o' := q ▸ h
theorem DS.of_eq {o' : Out} (h : DS X W st ρ o) (q : o = o') : DS X W st ρ o' := q ▸ h
/-- an own list is finished -/
theorem dss_freeze (i : Nat) (hi : ρ[i]? = some (Sl.own ds)) (h : DSs X W sts (ρ.set i (.val (.lst ds))) o) : DSs X W sts ρ o := fun F0 H0 F H σ Dn E q => by
  obtain ⟨F1, E1, _⟩ := E.freeze hi
  exact h F0 H0 F1 H σ Dn E1 q
theorem ds_freeze (i : Nat) (hi : ρ[i]? = some (Sl.own ds)) (h : DS X W st (ρ.set i (.val (.lst ds))) o) : DS X W st ρ o := fun F0 H0 F H σ Dn E q => by
  obtain ⟨F1, E1, _⟩ := E.freeze hi
  exact h F0 H0 F1 H σ Dn E1 q
/-- by cases outside -/
theorem dss_by {P1 : Prop} [Decidable P1] (h1 : P1 → DSs X W sts ρ o) (h2 : ¬ P1 → DSs X W sts ρ o) : DSs X W sts ρ o := if h : P1 then h1 h else h2 h

/-! ## own lists changed -/
/-- a method's call with arguments, as it stands -/
def BmOk (X : Cx) (o : Expr) (name : Str) (apos cpos : Pos) (e : Expr) (es : List Expr) : Prop := attributeBase o name X.env (eval o X.env) = eval o X.env ∧
  ((backTo cpos (starEach (e :: es) X.env)).all (fun x => !x.1) && (backToKw cpos (keywordEach [] X.env)).all (fun x => x.1.isSome) && decide ((e :: es).length + ([] : List Keyword).length + (if ([] : List Keyword).isEmpty then 0 else 1) < 30)) = true ∧
  (apos.endLine == cpos.line) = true ∧ starEach (e :: es) X.env = (false, eval e X.env) :: starEach es X.env ∧ (backTo cpos (starEach es X.env)).any (·.1) = false
def Bm0Ok (X : Cx) (o : Expr) (name : Str) (apos cpos : Pos) : Prop := attributeBase o name X.env (eval o X.env) = eval o X.env ∧ (apos.endLine == cpos.line) = true
theorem ds_app (B : Bx X N sc) (i : Nat) {s : Str} {p1 p2 p3 : Pos} (he : DE X W e ρ (.ok d)) (hi : ρ[i]? = some (Sl.own ds) := by rfl) (hz : ds.length < sizeLine) (hN : N[i]? = some s := by rfl)
    (hv : Vis sc s := by first | exact Or.inl rfl | exact Or.inr (Or.inl rfl) | exact Or.inr (Or.inr rfl)) (hd : (s == ("__debug__" : Str)) = false := by decide) (hcd : (s == ("__classdict__" : Str)) = false := by decide)
    (bm : BmOk X (.Name s p1) "append" p2 p3 e [] := by exact ⟨rfl, rfl, rfl, rfl, rfl⟩) (hs : swapsWith (.Call (.Attribute (.Name s p1) "append" p2) [e] [] p3) none pos.line X.env = pure false := by rfl) :
    DS X W (.Expr (.Call (.Attribute (.Name s p1) "append" p2) [e] [] p3) pos) ρ (.nx (ρ.set i (.own (ds ++ [d])))) := fun F0 H0 F H σ Dn E q => by
  obtain ⟨l, xs, h1, h2, h3, h4, h5⟩ := E.owns i ds hi
  refine ⟨_, ps_expr (pe_bm PySem.F.plainAttrs_list PySem.F.slot_list_append PySem.F.type_list_append mt_append (pe_var (i := i) (by rw [B.n]; exact hN) (by rw [B.sc]; exact hv) hd hcd) (pa_cons pe_w pa_nil bm.2.2.2.1) bm.1 bm.2.1 bm.2.2.1 bm.2.2.2.1 bm.2.2.2.2) hs, ?_⟩
  refine ⟨_, h1, .inl ⟨rfl, xs, SqL.of h4⟩, he.use E fun v F1 H1 s1 r1 => ?_⟩
  refine ⟨l, xs, v, rfl, rfl, s1.eh l _ h4, by rw [h5.length]; exact hz, ?_⟩
  exact q F1 _ σ ((E.step s1).mutOwn hi h1 ((h5.up s1.ef).append (.cons r1 .nil)))
theorem ds_pop (B : Bx X N sc) (i : Nat) {s : Str} {p1 p2 p3 : Pos} (hi : ρ[i]? = some (Sl.own ds) := by rfl) (hz : ds ≠ []) (hN : N[i]? = some s := by rfl)
    (hv : Vis sc s := by first | exact Or.inl rfl | exact Or.inr (Or.inl rfl) | exact Or.inr (Or.inr rfl)) (hd : (s == ("__debug__" : Str)) = false := by decide) (hcd : (s == ("__classdict__" : Str)) = false := by decide)
    (bm : Bm0Ok X (.Name s p1) "pop" p2 p3 := by exact ⟨rfl, rfl⟩) (hs : swapsWith (.Call (.Attribute (.Name s p1) "pop" p2) [] [] p3) none pos.line X.env = pure false := by rfl) :
    DS X W (.Expr (.Call (.Attribute (.Name s p1) "pop" p2) [] [] p3) pos) ρ (.nx (ρ.set i (.own ds.dropLast))) := fun F0 H0 F H σ Dn E q => by
  obtain ⟨l, xs, h1, h2, h3, h4, h5⟩ := E.owns i ds hi
  refine ⟨_, ps_expr (pe_bm0 PySem.F.plainAttrs_list PySem.F.slot_list_pop PySem.F.type_list_pop mt_pop (pe_var (i := i) (by rw [B.n]; exact hN) (by rw [B.sc]; exact hv) hd hcd) bm.1 bm.2) hs, ?_⟩
  have hl := h5.length
  have hpos : 0 < ds.length := List.length_pos_iff.mpr hz
  have hlt : xs.length - 1 < xs.length := by omega
  refine ⟨_, h1, .inl ⟨rfl, xs, SqL.of h4⟩, l, xs, xs[xs.length - 1], rfl, rfl, h4, List.getElem?_eq_getElem hlt, ?_⟩
  exact q F _ σ (E.mutOwn hi h1 h5.dropLast)
theorem ds_setI (B : Bx X N sc) (i : Nat) {s : Str} {p1 p2 : Pos} {m : Nat} {ix : Int} (he : DE X W e ρ (.ok d)) (hb : DE X W b ρ (.ok (.int ix))) (hm : ixN ds.length ix = some m) (hi : ρ[i]? = some (Sl.own ds) := by rfl) (hN : N[i]? = some s := by rfl)
    (hv : Vis sc s := by first | exact Or.inl rfl | exact Or.inr (Or.inl rfl) | exact Or.inr (Or.inr rfl)) (hd : (s == ("__debug__" : Str)) = false := by decide) (hcd : (s == ("__classdict__" : Str)) = false := by decide)
    (hs : swapsWithSole [.Subscript (.Name s p1) b p2] e pos.line X.env = pure false := by rfl) (hw : swappedStores [.Subscript (.Name s p1) b p2] e X.env = pure none := by rfl) (h1 : (assignEach [.Subscript (.Name s p1) b p2] X.env).map (·.2) = [assign (.Subscript (.Name s p1) b p2) X.env] := by rfl)
    (ha : ∀ v, assign (.Subscript (.Name s p1) b p2) X.env v = (do
      let ov ← holding [v] (eval (.Name s p1) X.env)
      let iv ← holding [v, ov] (eval b X.env)
      standAt p2
      holding [v, ov, iv] (setItem ov iv v)
      release [v, ov, iv] []) := by intro _; rfl) :
    DS X W (.Assign [.Subscript (.Name s p1) b p2] e pos) ρ (.nx (ρ.set i (.own (ds.set m d)))) := fun F0 H0 F H σ Dn E q => by
  obtain ⟨l, xs, g1, g2, g3, g4, g5⟩ := E.owns i ds hi
  refine ⟨_, ps_asg pe_w (pg_sub (pe_var (i := i) (by rw [B.n]; exact hN) (by rw [B.sc]; exact hv) hd hcd) pe_w set_list ha) hs hw h1, ?_⟩
  refine he.use E fun v F1 H1 s1 r1 => ⟨_, g1, hb.use (E.step s1) fun v2 F2 H2 s2 r2 => ?_⟩
  cases r2
  refine ⟨l, xs, ix, m, rfl, rfl, s2.eh l _ (s1.eh l _ g4), by rw [g5.length]; exact hm, ?_⟩
  exact q F2 _ σ (((E.step s1).step s2).mutOwn hi g1 (((g5.up s1.ef).up s2.ef).set (r1.up s2.ef) m))
end
end DL

namespace DL
open PySem PySem.Spec PyProof.Rows L2 Evl

/-! ## what is walked -/
def ItD (K : PySem.W.Frag) (mg : Str → Option Value) (J : It) (items : List D) (F : Hp) : Prop := ∀ F2 H2, Ex F F2 → Ex F2 H2 →
  (∀ (i : Nat) (d : D), items[i]? = some d → J.go i H2 ∧ ∀ x H3, J.yld i H2 x H3 → ∃ F3, Stp F2 H2 F3 H3 ∧ Rp K mg F3 x d) ∧ J.stop items.length H2
section
variable {X : Cx} {W : WX} {e e2 a b c tg elt : Expr} {es rest tgs ifs : List Expr} {ρ ρ' ρ1 ρ2 ρ3 : Rho} {N : List Str} {sc : Scope} {k n : Nat} {pos : Pos} {x y z : D} {d : D} {r : R D} {F F' H H' F0 H0 : Hp} {p q s t : Bool} {ct : Ct} {ds items : List D} {o : Out} {st : Stmt} {sts body : List Stmt} {js : List Nat}
def DI (X : Cx) (W : WX) (tg e : Expr) (ρ : Rho) (items : List D) : Prop := ∀ F0 H0 F H σ R, EnvS X.K X.mg F0 H0 F H σ ρ → (∀ J F' H', Stp F H F' H' → ItD X.K X.mg J items F' → R J H') → wI X tg e σ H R
theorem di_seq (he : DE X W e ρ (.ok x)) (hx : seqD x = some ds) : DI X W tg e ρ ds := fun F0 H0 F H σ R E q => by
  cases x <;> simp [seqD] at hx
  · subst hx
    refine ⟨_, pi_tup pe_w, he.use E fun v F1 H1 s1 r1 => ?_⟩
    cases r1 with
    | tup h1 h2 =>
      rename_i a xs
      refine ⟨a, rfl, ⟨xs, ex_t s1.sub h1⟩, q _ F1 H1 s1 fun F2 H2 e1 e2 => ⟨fun i d hi => ?_, ⟨xs, ex_t (e1.trans e2) h1, by rw [h2.length]; exact Nat.le_refl _⟩⟩⟩
      obtain ⟨v, g1, g2⟩ := h2.get hi
      refine ⟨⟨xs, v, ex_t (e1.trans e2) h1, g1⟩, fun x H3 hy => ?_⟩
      obtain ⟨e3, hy⟩ := hy
      have e4 := hy xs (ex_t (e1.trans e2) h1)
      rw [g1] at e4
      cases e4
      rw [e3]
      exact ⟨F2, Stp.refl e2, g2.up e1⟩
  · subst hx
    refine ⟨_, pi_list pe_w, he.use E fun v F1 H1 s1 r1 => ?_⟩
    cases r1 with
    | lst h1 h2 =>
      rename_i a xs
      refine ⟨a, rfl, ⟨xs, SqL.of (s1.sub _ _ h1)⟩, q _ F1 H1 s1 fun F2 H2 e1 e2 => ⟨fun i d hi => ?_, ⟨xs, SqL.of (e2 _ _ (e1 _ _ h1)), by rw [h2.length]; exact Nat.le_refl _⟩⟩⟩
      obtain ⟨v, g1, g2⟩ := h2.get hi
      refine ⟨⟨xs, v, SqL.of (e2 _ _ (e1 _ _ h1)), g1⟩, fun x H3 hy => ?_⟩
      obtain ⟨e3, hy⟩ := hy
      have e4 := hy xs (SqL.of (e2 _ _ (e1 _ _ h1)))
      rw [g1] at e4
      cases e4
      rw [e3]
      exact ⟨F2, Stp.refl e2, g2.up e1⟩
/-- lo, lo + 1, .. -/
def rngD (lo : Int) (n : Nat) : List D := (List.range n).map fun (i : Nat) => D.int (lo + (i : Int))
theorem rngD_length (lo : Int) (n : Nat) : (rngD lo n).length = n := by unfold rngD; simp
theorem itd_rng {K : PySem.W.Frag} {mg : Str → Option Value} {lo : Int} {n : Nat} : ItD K mg (Itr lo n) (rngD lo n) F := fun F2 H2 e1 e2 => by
  refine ⟨fun i d hi => ?_, by rw [rngD_length]; exact Nat.le_refl n⟩
  have hl := lt_of_get hi
  rw [rngD_length] at hl
  unfold rngD at hi
  rw [List.getElem?_map, List.getElem?_range hl] at hi
  simp only [Option.map_some, Option.some.injEq] at hi
  subst hi
  refine ⟨hl, fun x H3 hy => ?_⟩
  obtain ⟨e3, e4⟩ := hy
  subst e3 e4
  exact ⟨F2, Stp.refl e2, .int _⟩
theorem di_range1 {p0 : Pos} {i : Int} (B : Bx X N sc) (hm : X.mg "range" = none) (he : DE X W a ρ (.ok (.int i))) (h : -(2 ^ 62) ≤ i ∧ i < 2 ^ 62) (hg : sc.names.lookup ("range" : Str) = some .globalImplicit := by rfl)
    (hs : starEach [a] X.env = [(false, eval a X.env)] := by rfl) : DI X W tg (.Call (.Name "range" p0) [a] [] pos) ρ (rngD 0 i.toNat) := fun F0 H0 F H σ R E q =>
  ⟨_, pi_range1 (show X.env.scope.names.lookup _ = _ by rw [B.sc]; exact hg) hm (pa_cons pe_w pa_nil (by rw [hs] <;> rfl)) hs, he.use E fun v F1 H1 s1 r1 => by cases r1; exact ⟨i, rfl, h.1, h.2, q _ F1 H1 s1 itd_rng⟩⟩
theorem di_range2 {p0 : Pos} {i j : Int} (B : Bx X N sc) (hm : X.mg "range" = none) (he : DE X W a ρ (.ok (.int i))) (hb : DE X W b ρ (.ok (.int j))) (h : -(2 ^ 62) ≤ i ∧ i < 2 ^ 62 ∧ -(2 ^ 62) ≤ j ∧ j < 2 ^ 62)
    (hg : sc.names.lookup ("range" : Str) = some .globalImplicit := by rfl) (hs : starEach [a, b] X.env = [(false, eval a X.env), (false, eval b X.env)] := by rfl) (hs2 : starEach [b] X.env = [(false, eval b X.env)] := by rfl) :
    DI X W tg (.Call (.Name "range" p0) [a, b] [] pos) ρ (rngD i (j - i).toNat) := fun F0 H0 F H σ R E q =>
  ⟨_, pi_range2 (show X.env.scope.names.lookup _ = _ by rw [B.sc]; exact hg) hm (pa_cons pe_w (pa_cons pe_w pa_nil (by rw [hs2] <;> rfl)) (by rw [hs, hs2])) hs hs2, he.use E fun v F1 H1 s1 r1 => by
    cases r1
    exact hb.use (E.step s1) fun v2 F2 H2 s2 r2 => by cases r2; exact ⟨i, j, rfl, h, q _ F2 H2 (s1.trans s2) itd_rng⟩⟩
/-- zip of two lists, or of two tuples -/
def zipD : List D → List D → List D
  | x :: xs, y :: ys => .tup [x, y] :: zipD xs ys
  | _, _ => []
theorem zipD_get : ∀ {xs ys : List D} {i : Nat} {d : D}, (zipD xs ys)[i]? = some d → ∃ x y, xs[i]? = some x ∧ ys[i]? = some y ∧ d = .tup [x, y]
  | [], _, _, _, h => by simp [zipD] at h
  | _ :: _, [], _, _, h => by simp [zipD] at h
  | x :: xs, y :: ys, 0, d, h => by simp [zipD] at h; exact ⟨x, y, by simp, by simp, h.symm⟩
  | x :: xs, y :: ys, i + 1, d, h => by
    obtain ⟨u, v, h1, h2, h3⟩ := zipD_get (xs := xs) (ys := ys) (i := i) (by simpa [zipD] using h)
    exact ⟨u, v, by simpa using h1, by simpa using h2, h3⟩
theorem zipD_length : ∀ (xs ys : List D), xs.length ≤ (zipD xs ys).length ∨ ys.length ≤ (zipD xs ys).length
  | [], _ => .inl (Nat.zero_le _)
  | _ :: _, [] => .inr (Nat.zero_le _)
  | x :: xs, y :: ys => by
    rcases zipD_length xs ys with h | h
    · exact .inl (by simp [zipD]; exact h)
    · exact .inr (by simp [zipD]; exact h)
theorem di_zip {p0 tpos : Pos} {elts : List Expr} {kk : Nat} {es : List D} (B : Bx X N sc) (hm : X.mg "zip" = none) (he : DE X W e ρ (.ok x)) (hb : DE X W e2 ρ (.ok y)) (hxy : (x = .lst ds ∧ y = .lst es) ∨ (x = .tup ds ∧ y = .tup es)) (hg : sc.names.lookup ("zip" : Str) = some .globalImplicit := by rfl)
    (hs : starEach [e, e2] X.env = (false, eval e X.env) :: starEach [e2] X.env := by rfl) (hs2 : starEach [e2] X.env = (false, eval e2 X.env) :: starEach [] X.env := by rfl) (hpl : (backTo pos (starEach [e2] X.env)).any (·.1) = false := by rfl) :
    DI X W (.Tuple elts kk tpos) (.Call (.Name "zip" p0) [e, e2] [] pos) ρ (zipD ds es) := fun F0 H0 F H σ R E q =>
  ⟨_, RZ.pi_zipA (show X.env.scope.names.lookup _ = _ by rw [B.sc]; exact hg) hm (pa_cons pe_w (pa_cons pe_w pa_nil hs2) hs) hs hpl, he.use E fun v F1 H1 s1 r1 => hb.use (E.step s1) fun v2 F2 H2 s2 r2 => by
    have st := s1.trans s2
    rcases hxy with ⟨rfl, rfl⟩ | ⟨rfl, rfl⟩
    · cases r1 with
      | @lst a xs _ h1 h2 =>
        cases r2 with
        | @lst b ys _ g1 g2 =>
          have k1 := s2.ef _ _ h1
          have k2 := h2.up s2.ef
          refine ⟨a, b, xs, ys, rfl, .inl ⟨SqL.of (s2.sub _ _ k1), SqL.of (s2.sub _ _ g1), q _ F2 H2 st fun F3 H3 e1 e2 => ⟨fun i d hi => ?_, xs, ys, SqL.of (e2 _ _ (e1 _ _ k1)), SqL.of (e2 _ _ (e1 _ _ g1)), ?_⟩⟩⟩
          · obtain ⟨u, w, i1, i2, rfl⟩ := zipD_get hi
            obtain ⟨uv, j1, j2⟩ := k2.get i1
            obtain ⟨wv, j3, j4⟩ := g2.get i2
            refine ⟨⟨xs, ys, uv, wv, SqL.of (e2 _ _ (e1 _ _ k1)), SqL.of (e2 _ _ (e1 _ _ g1)), j1, j3⟩, fun x H4 hy => ?_⟩
            obtain ⟨T, x', y', rfl, hT, rfl, hx, hy⟩ := hy
            have m1 := hx xs (SqL.of (e2 _ _ (e1 _ _ k1)))
            have m2 := hy ys (SqL.of (e2 _ _ (e1 _ _ g1)))
            rw [j1] at m1; rw [j3] at m2
            cases m1; cases m2
            have s4 := Stp.new (o := .tup [uv, wv]) e2 hT
            exact ⟨_, s4, .tup (SqT.of upd_same) (.cons ((j2.up e1).up s4.ef) (.cons ((j4.up e1).up s4.ef) .nil))⟩
          · rw [k2.length, g2.length]; exact zipD_length ds es
    · cases r1 with
      | @tup a xs _ h1 h2 =>
        cases r2 with
        | @tup b ys _ g1 g2 =>
          have k1 := ex_t s2.ef h1
          have k2 := h2.up s2.ef
          refine ⟨a, b, xs, ys, rfl, .inr ⟨ex_t s2.sub k1, ex_t s2.sub g1, q _ F2 H2 st fun F3 H3 e1 e2 => ⟨fun i d hi => ?_, xs, ys, ex_t (e1.trans e2) k1, ex_t (e1.trans e2) g1, ?_⟩⟩⟩
          · obtain ⟨u, w, i1, i2, rfl⟩ := zipD_get hi
            obtain ⟨uv, j1, j2⟩ := k2.get i1
            obtain ⟨wv, j3, j4⟩ := g2.get i2
            refine ⟨⟨xs, ys, uv, wv, ex_t (e1.trans e2) k1, ex_t (e1.trans e2) g1, j1, j3⟩, fun x H4 hy => ?_⟩
            obtain ⟨T, x', y', rfl, hT, rfl, hx, hy⟩ := hy
            have m1 := hx xs (ex_t (e1.trans e2) k1)
            have m2 := hy ys (ex_t (e1.trans e2) g1)
            rw [j1] at m1; rw [j3] at m2
            cases m1; cases m2
            have s4 := Stp.new (o := .tup [uv, wv]) e2 hT
            exact ⟨_, s4, .tup (SqT.of upd_same) (.cons ((j2.up e1).up s4.ef) (.cons ((j4.up e1).up s4.ef) .nil))⟩
          · rw [k2.length, g2.length]; exact zipD_length ds es⟩

/-! ## for -/
inductive DFor (X : Cx) (W : WX) (tg : Expr) (body : List Stmt) : List D → Rho → Out → Prop
  | nil {ρ : Rho} : DFor X W tg body [] ρ (.nx ρ)
  | step {d : D} {ds : List D} {ρ ρ1 ρ2 ρ3 : Rho} {js : List Nat} {o : Out} (h1 : DG X tg d ρ ρ1 js) (h2 : DSs X W body ρ1 (.nx ρ2)) (hl : Le ρ2 ρ3) (h3 : DFor X W tg body ds ρ3 o) : DFor X W tg body (d :: ds) ρ o
  | cont {d : D} {ds : List D} {ρ ρ1 ρ2 ρ3 : Rho} {js : List Nat} {o : Out} (h1 : DG X tg d ρ ρ1 js) (h2 : DSs X W body ρ1 (.ct ρ2)) (hl : Le ρ2 ρ3) (h3 : DFor X W tg body ds ρ3 o) : DFor X W tg body (d :: ds) ρ o
  | brk {d : D} {ds : List D} {ρ ρ1 ρ2 : Rho} {js : List Nat} (h1 : DG X tg d ρ ρ1 js) (h2 : DSs X W body ρ1 (.bk ρ2)) : DFor X W tg body (d :: ds) ρ (.nx ρ2)
  | ret {d : D} {ds : List D} {ρ ρ1 : Rho} {js : List Nat} {r : D} (h1 : DG X tg d ρ ρ1 js) (h2 : DSs X W body ρ1 (.rt r)) : DFor X W tg body (d :: ds) ρ (.rt r)
  | exc {d : D} {ds : List D} {ρ ρ1 ρ2 : Rho} {js : List Nat} {c : Str} {fs : List (Str × D)} (h1 : DG X tg d ρ ρ1 js) (h2 : DSs X W body ρ1 (.ex c fs ρ2)) : DFor X W tg body (d :: ds) ρ (.ex c fs ρ2)
  | weak {ds : List D} {ρ ρ1 : Rho} {o : Out} (hl : Le ρ ρ1) (h : DFor X W tg body ds ρ1 o) : DFor X W tg body ds ρ o
theorem drop_get {α : Type} {l : List α} {i : Nat} {a : α} {r : List α} (h : l.drop i = a :: r) : l[i]? = some a ∧ l.drop (i + 1) = r := by
  constructor
  · have := congrArg (fun l => l[0]?) h
    simpa using this
  · have := congrArg List.tail h
    simpa using this
theorem ds_for (B : Bd X N sc k W) (hi : DI X W tg e ρ items) (h : DFor X W tg body items ρ o) (hs : ∀ x, foldedSetIterable e X.env x = pure x := by intro _; rfl) : DS X W (.For tg e body [] pos) ρ o := fun F0 H0 F H σ Dn E q => by
  refine ⟨_, ps_for B.po B.calm pi_w pg_w pss_w hs, hi F0 H0 F H σ _ E fun J F1 H1 s1 hJ => ?_⟩
  have S1 : Stp F0 H0 F1 H1 := E.st.trans s1
  refine ⟨fun i m σ2 H2 => m = items.length - i ∧ i ≤ items.length ∧ ∃ F2 ρ2, EnvS X.K X.mg F0 H0 F2 H2 σ2 ρ2 ∧ Ex F1 F2 ∧ DFor X W tg body (items.drop i) ρ2 o, ⟨items.length, by simp, Nat.zero_le _, F1, ρ, E.step s1, Ex.refl _, by simpa using h⟩, ?_⟩
  rintro i m σ2 H2 ⟨rfl, hil, F2, ρ2, E2, e12, hd⟩
  obtain ⟨jg, js⟩ := hJ F2 H2 e12 E2.sub
  clear h
  generalize hr : items.drop i = rest at hd
  induction hd generalizing F2 with
  | nil =>
    have hn : items.length ≤ i := by
      have := congrArg List.length hr
      simp at this; omega
    have : i = items.length := by omega
    subst this
    exact .inl ⟨js, q F2 H2 σ2 E2⟩
  | @weak ds ρ4 ρ5 o4 hl _ ih => exact ih q F2 (E2.weaken hl) e12 jg hr
  | @step d ds ρ4 ρ5 ρ6 ρ7 js1 o4 h1 h2 hl h3 _ =>
    obtain ⟨g1, g2⟩ := drop_get hr
    obtain ⟨hg, hy⟩ := jg i d g1
    refine .inr ⟨hg, fun σ' H' => ∃ F' ρ', EnvS X.K X.mg F0 H0 F' H' σ' ρ' ∧ Ex F1 F' ∧ DFor X W tg body (items.drop (i + 1)) ρ' o4, fun σ' H' hN => ⟨items.length - (i + 1), ?_, rfl, ?_, hN⟩, fun x H3 yl => ?_⟩
    · have := lt_of_get g1; omega
    · have := lt_of_get g1; omega
    · obtain ⟨F3, s3, r3⟩ := hy x H3 yl
      have E3 := (E2.step s3).over S1 (e12.trans s3.ef)
      refine h1 _ _ F3 H3 σ2 x _ E3 r3 fun F4 H4 σ4 s4 E4 _ => h2 _ _ F4 H4 σ4 _ E4 fun F5 H5 σ5 E5 => ?_
      refine ⟨F5, ρ7, (E5.unover S1).weaken hl, E5.st.ef, by rw [g2]; exact h3⟩
  | @cont d ds ρ4 ρ5 ρ6 ρ7 js1 o4 h1 h2 hl h3 _ =>
    obtain ⟨g1, g2⟩ := drop_get hr
    obtain ⟨hg, hy⟩ := jg i d g1
    refine .inr ⟨hg, fun σ' H' => ∃ F' ρ', EnvS X.K X.mg F0 H0 F' H' σ' ρ' ∧ Ex F1 F' ∧ DFor X W tg body (items.drop (i + 1)) ρ' o4, fun σ' H' hN => ⟨items.length - (i + 1), ?_, rfl, ?_, hN⟩, fun x H3 yl => ?_⟩
    · have := lt_of_get g1; omega
    · have := lt_of_get g1; omega
    · obtain ⟨F3, s3, r3⟩ := hy x H3 yl
      have E3 := (E2.step s3).over S1 (e12.trans s3.ef)
      refine h1 _ _ F3 H3 σ2 x _ E3 r3 fun F4 H4 σ4 s4 E4 _ => h2 _ _ F4 H4 σ4 _ E4 fun F5 H5 σ5 E5 => ?_
      refine ⟨F5, ρ7, (E5.unover S1).weaken hl, E5.st.ef, by rw [g2]; exact h3⟩
  | @brk d ds ρ4 ρ5 ρ6 js1 h1 h2 =>
    obtain ⟨g1, g2⟩ := drop_get hr
    obtain ⟨hg, hy⟩ := jg i d g1
    refine .inr ⟨hg, fun _ _ => False, fun _ _ z => z.elim, fun x H3 yl => ?_⟩
    obtain ⟨F3, s3, r3⟩ := hy x H3 yl
    have E3 := (E2.step s3).over S1 (e12.trans s3.ef)
    exact h1 _ _ F3 H3 σ2 x _ E3 r3 fun F4 H4 σ4 s4 E4 _ => h2 _ _ F4 H4 σ4 _ E4 fun F5 H5 σ5 E5 => q F5 H5 σ5 (E5.unover S1)
  | @ret d ds ρ4 ρ5 js1 r4 h1 h2 =>
    obtain ⟨g1, g2⟩ := drop_get hr
    obtain ⟨hg, hy⟩ := jg i d g1
    refine .inr ⟨hg, fun _ _ => False, fun _ _ z => z.elim, fun x H3 yl => ?_⟩
    obtain ⟨F3, s3, r3⟩ := hy x H3 yl
    have E3 := (E2.step s3).over S1 (e12.trans s3.ef)
    exact h1 _ _ F3 H3 σ2 x _ E3 r3 fun F4 H4 σ4 s4 E4 _ => h2 _ _ F4 H4 σ4 _ E4 fun v F5 H5 S5 r5 => q v F5 H5 (S1.unover S5) r5
  | @exc d ds ρ4 ρ5 ρ6 js1 c4 fs4 h1 h2 =>
    obtain ⟨g1, g2⟩ := drop_get hr
    obtain ⟨hg, hy⟩ := jg i d g1
    refine .inr ⟨hg, fun _ _ => False, fun _ _ z => z.elim, fun x H3 yl => ?_⟩
    obtain ⟨F3, s3, r3⟩ := hy x H3 yl
    have E3 := (E2.step s3).over S1 (e12.trans s3.ef)
    exact h1 _ _ F3 H3 σ2 x _ E3 r3 fun F4 H4 σ4 s4 E4 _ => h2 _ _ F4 H4 σ4 _ E4 fun cls dd F5 H5 σ5 E5 r5 => q cls dd F5 H5 σ5 (E5.unover S1) r5
/-- a loop as a fold: the state b as slots; each turn from env b to env (f b a) -/
theorem DFor.fold {α β : Type} (env : β → Rho) (g : α → D) (f : β → α → β) : ∀ (l : List α) (b : β),
    (∀ b a, a ∈ l → ∃ ρ1 js ρ2, DG X tg (g a) (env b) ρ1 js ∧ DSs X W body ρ1 (.nx ρ2) ∧ Le ρ2 (env (f b a))) → DFor X W tg body (l.map g) (env b) (.nx (env (l.foldl f b)))
  | [], b, _ => .nil
  | a :: l, b, h => by
    obtain ⟨ρ1, js, ρ2, h1, h2, h3⟩ := h b a List.mem_cons_self
    exact .step h1 h2 h3 (DFor.fold env g f l (f b a) fun b c hc => h b c (List.mem_cons_of_mem _ hc))

/-! ## while -/
inductive DWh (X : Cx) (W : WX) (c : Expr) (body : List Stmt) : Nat → Rho → Out → Prop
  | stop {ρ : Rho} (ht : DT X W c ρ (.ok false)) : DWh X W c body 0 ρ (.nx ρ)
  | step {n : Nat} {ρ ρ1 ρ2 : Rho} {o : Out} (ht : DT X W c ρ (.ok true)) (h : DSs X W body ρ (.nx ρ1)) (hl : Le ρ1 ρ2) (h2 : DWh X W c body n ρ2 o) : DWh X W c body (n + 1) ρ o
  | cont {n : Nat} {ρ ρ1 ρ2 : Rho} {o : Out} (ht : DT X W c ρ (.ok true)) (h : DSs X W body ρ (.ct ρ1)) (hl : Le ρ1 ρ2) (h2 : DWh X W c body n ρ2 o) : DWh X W c body (n + 1) ρ o
  | brk {ρ ρ1 : Rho} (ht : DT X W c ρ (.ok true)) (h : DSs X W body ρ (.bk ρ1)) : DWh X W c body 0 ρ (.nx ρ1)
  | ret {ρ : Rho} {d : D} (ht : DT X W c ρ (.ok true)) (h : DSs X W body ρ (.rt d)) : DWh X W c body 0 ρ (.rt d)
  | exc {ρ ρ1 : Rho} {f : Str} {fs : List (Str × D)} (ht : DT X W c ρ (.ok true)) (h : DSs X W body ρ (.ex f fs ρ1)) : DWh X W c body 0 ρ (.ex f fs ρ1)
theorem ds_while (B : Bd X N sc k W) (h : ∃ n, DWh X W c body n ρ o) : DS X W (.While c body [] pos) ρ o := fun F0 H0 F H σ Dn E q => by
  obtain ⟨n0, h⟩ := h
  refine ⟨_, ps_while B.po pt_w pss_w, fun n σ1 H1 => ∃ F1 ρ1, EnvS X.K X.mg F0 H0 F1 H1 σ1 ρ1 ∧ DWh X W c body n ρ1 o, ⟨n0, F, ρ, E, h⟩, ?_⟩
  rintro m σ1 H1 ⟨F1, ρ1, E1, hw⟩
  cases hw with
  | stop ht => exact ht.use E1 fun F2 H2 s2 => iteF (q F2 H2 σ1 (E1.step s2))
  | @step n4 _ _ _ _ ht hb hl h2 => exact ht.use E1 fun F2 H2 s2 => iteT ⟨fun σ' H' => ∃ F3 ρ3, EnvS X.K X.mg F0 H0 F3 H' σ' ρ3 ∧ DWh X W c body n4 ρ3 o, fun σ' H' ⟨F3, ρ3, E3, e3⟩ => ⟨_, Nat.lt_succ_self _, F3, ρ3, E3, e3⟩, hb _ _ F2 H2 σ1 _ (E1.step s2) fun F3 H3 σ3 E3 => ⟨F3, _, E3.weaken hl, h2⟩⟩
  | @cont n4 _ _ _ _ ht hb hl h2 => exact ht.use E1 fun F2 H2 s2 => iteT ⟨fun σ' H' => ∃ F3 ρ3, EnvS X.K X.mg F0 H0 F3 H' σ' ρ3 ∧ DWh X W c body n4 ρ3 o, fun σ' H' ⟨F3, ρ3, E3, e3⟩ => ⟨_, Nat.lt_succ_self _, F3, ρ3, E3, e3⟩, hb _ _ F2 H2 σ1 _ (E1.step s2) fun F3 H3 σ3 E3 => ⟨F3, _, E3.weaken hl, h2⟩⟩
  | brk ht hb => exact ht.use E1 fun F2 H2 s2 => iteT ⟨fun _ _ => False, fun _ _ z => z.elim, hb _ _ F2 H2 σ1 _ (E1.step s2) fun F3 H3 σ3 E3 => q F3 H3 σ3 E3⟩
  | ret ht hb => exact ht.use E1 fun F2 H2 s2 => iteT ⟨fun _ _ => False, fun _ _ z => z.elim, hb _ _ F2 H2 σ1 _ (E1.step s2) fun v F3 H3 s3 r3 => q v F3 H3 s3 r3⟩
  | exc ht hb => exact ht.use E1 fun F2 H2 s2 => iteT ⟨fun _ _ => False, fun _ _ z => z.elim, hb _ _ F2 H2 σ1 _ (E1.step s2) fun cls dd F3 H3 σ3 E3 r3 => q cls dd F3 H3 σ3 E3 r3⟩
end

/-! ## comprehensions -/
structure BA where
  s : Shared
  H : Hp
  C : Addr
  cl : List (Str × Addr)
  fp : List Addr
abbrev XB (X : Cx) (scope : Scope) (q : BA) : Cx := X.blk q.s q.H scope (compEnvC scope q.cl q.C X.env) q.fp
abbrev WF : WX := fun _ _ _ _ => False
def wipeR (ρ : Rho) : List Nat → Rho
  | [] => ρ
  | v :: vs => (wipeR ρ vs).set v .any
section
variable {X : Cx} {W : WX} {e a b c tg elt : Expr} {es rest tgs ifs : List Expr} {ρ ρ' ρ1 ρ2 ρ3 : Rho} {N : List Str} {sc scope : Scope} {k n : Nat} {pos : Pos} {x y z : D} {d : D} {r : R D} {F F' H H' F0 H0 : Hp} {p q s t : Bool} {ct : Ct} {ds items ys : List D} {o : Out} {st : Stmt} {sts body : List Stmt} {js vs : List Nat}
theorem EnvS.wipe {K : PySem.W.Frag} {mg : Str → Option Value} {σ : L2.St} (E : EnvS K mg F0 H0 F H σ ρ) : ∀ vs : List Nat, EnvS K mg F0 H0 F H (wipe σ vs) (wipeR ρ vs)
  | [] => E
  | v :: vs => (E.wipe vs).setAny v none
theorem wipe_get {τ : L2.St} : ∀ {vs : List Nat} {i : Nat}, (L2.wipe τ vs)[i]? = if i ∈ vs then (τ[i]?).map (fun _ => none) else τ[i]?
  | [], i => by simp [L2.wipe]
  | v :: vs, i => by
    unfold L2.wipe
    by_cases hv : v = i
    · subst hv
      simp only [List.mem_cons, true_or, if_true]
      by_cases hl : v < (L2.wipe τ vs).length
      · rw [List.getElem?_set_self hl]
        rw [L2.wipe_length] at hl
        rw [List.getElem?_eq_getElem hl]; rfl
      · rw [List.getElem?_eq_none (by simpa using hl)]
        rw [L2.wipe_length] at hl
        rw [List.getElem?_eq_none (by omega)]; rfl
    · rw [List.getElem?_set_ne hv, wipe_get]
      have : (i ∈ v :: vs) ↔ i ∈ vs := by simp [Ne.symm hv]
      by_cases hm : i ∈ vs
      · rw [if_pos hm, if_pos (this.mpr hm)]
      · rw [if_neg hm, if_neg (fun z => hm (this.mp z))]
theorem wipe_again {σ σ2 : L2.St} (ag : Agr js σ2 (L2.wipe σ vs)) (hj : ∀ i ∈ js, i ∈ vs) : L2.wipe σ2 vs = L2.wipe σ vs := by
  have hl : σ2.length = σ.length := by rw [ag.1, L2.wipe_length]
  have h := ag.2
  apply List.ext_getElem?
  intro i
  rw [wipe_get, wipe_get]
  by_cases hm : i ∈ vs
  · rw [if_pos hm, if_pos hm]
    by_cases hi : i < σ.length
    · rw [List.getElem?_eq_getElem (show i < σ2.length by omega), List.getElem?_eq_getElem hi]; rfl
    · rw [List.getElem?_eq_none (by omega), List.getElem?_eq_none (by omega)]
  · rw [if_neg hm, if_neg hm, h i (fun z => hm (hj i z)), wipe_get, if_neg hm]
theorem Bg.blk (B : Bg X N sc k W) (q : BA) : Bg (XB X scope q) N (relS scope sc) k WF :=
  { n := B.n, sc := (by have := B.sc; subst this; rfl), nd := B.nd, calm := B.calm, room := B.room, tk := takes0, po := PassesOwn.never, gd := B.gd }
inductive DLc (X : Cx) (scope : Scope) (vs : List Nat) (tg : Expr) (ifs : List Expr) (elt : Expr) (ρw : Rho) : List D → List D → Prop
  | nil : DLc X scope vs tg ifs elt ρw [] []
  | take {d y : D} {ds ys : List D} {ρ1 : Rho} {js : List Nat} (h1 : ∀ q, DG (XB X scope q) tg d ρw ρ1 js) (hj : ∀ i ∈ js, i ∈ vs) (h2 : ∀ q, DTs (XB X scope q) WF ifs ρ1 (.ok true)) (h3 : ∀ q, DE (XB X scope q) WF elt ρ1 (.ok y)) (r : DLc X scope vs tg ifs elt ρw ds ys) : DLc X scope vs tg ifs elt ρw (d :: ds) (y :: ys)
  | skip {d : D} {ds ys : List D} {ρ1 : Rho} {js : List Nat} (h1 : ∀ q, DG (XB X scope q) tg d ρw ρ1 js) (hj : ∀ i ∈ js, i ∈ vs) (h2 : ∀ q, DTs (XB X scope q) WF ifs ρ1 (.ok false)) (r : DLc X scope vs tg ifs elt ρw ds ys) : DLc X scope vs tg ifs elt ρw (d :: ds) ys
theorem DLc.length (h : DLc X scope vs tg ifs elt ρ ds ys) : ys.length ≤ ds.length := by
  induction h with
  | nil => exact Nat.le_refl _
  | take _ _ _ _ _ ih => simpa using ih
  | skip _ _ _ _ ih => exact Nat.le_succ_of_le ih
def wGB (X : Cx) (scope : Scope) (tg : Expr) : TG := fun v σ H Q => ∀ q, wG (XB X scope q) tg v σ H Q
def wTB (X : Cx) (scope : Scope) (es : List Expr) : TT := fun σ H Q => ∀ q, wTs (XB X scope q) es σ H Q
def wEB (X : Cx) (scope : Scope) (e : Expr) : TE := fun σ H Q => ∀ q, wE (XB X scope q) e σ H Q
theorem pg_wb (q : BA) : PG (XB X scope q) tg (wGB X scope tg) := ⟨fun pins s σ H v u Q I r h => pg_w.run pins s σ H v u Q I r (h q)⟩
theorem pts_wb (q : BA) : PTs (XB X scope q) es (wTB X scope es) := ⟨fun pins s σ H Q I h => pts_w.run pins s σ H Q I (h q)⟩
theorem pe_wb (q : BA) : PE (XB X scope q) e (wEB X scope e) := ⟨fun pins s σ H Q I h => pe_w.run pins s σ H Q I (h q)⟩
theorem dts_nil : DTs X W [] ρ (.ok true) := fun F0 H0 F H σ Q E q => ⟨_, pts_nil, q F H (Stp.refl E.sub)⟩
theorem dts_one (h : DT X W c ρ (.ok p)) : DTs X W [c] ρ (.ok p) := fun F0 H0 F H σ Q E q => ⟨_, pts_one pt_w, h.use E q⟩
/-- the reading of a comprehension -/
theorem lc_read (hi : DI X W tg e ρ items) (h : DLc X scope vs tg ifs elt (wipeR ρ vs) items ys) (hz : items.length < sizeLine) {σ : L2.St} {Q : VK} (E : EnvS X.K X.mg F0 H0 F H σ ρ) (q : PostL X.K X.mg F H Q ys) :
    tLc (wI X tg e) (wGB X scope tg) (wTB X scope ifs) (wEB X scope elt) vs σ H Q := by
  refine hi F0 H0 F H σ _ E fun J F1 H1 s1 hJ L hL => ?_
  have hLF : F1 L = none := by
    cases g : F1 L with
    | none => rfl
    | some u => rw [s1.sub L u g] at hL; cases hL
  have hLH : H L = none := by
    cases g : H L with
    | none => rfl
    | some u => rw [s1.eh L u g] at hL; cases hL
  have Ew := (E.step s1).wipe vs
  refine ⟨fun i m H2 => m = items.length - i ∧ i ≤ items.length ∧ ∃ F2 acc done rest, Stp F1 H1 F2 H2 ∧ F2 L = none ∧ H2 L = some (.lst acc) ∧ RpA X.K X.mg F2 acc done ∧ done ++ rest = ys ∧ done.length ≤ i ∧ DLc X scope vs tg ifs elt (wipeR ρ vs) (items.drop i) rest,
    ⟨items.length, by simp, Nat.zero_le _, F1, [], [], ys, Stp.newO s1.sub hL, hLF, upd_same, .nil, by simp, Nat.le_refl _, by simpa using h⟩, ?_⟩
  rintro i m H2 ⟨rfl, hil, F2, acc, done, rest, s2, f2, h2, r2, e2, dl, hd⟩
  obtain ⟨jg, jst⟩ := hJ F2 H2 s2.ef s2.sub
  have turn : ∀ (d : D) (dr : List D), items.drop i = d :: dr → ∀ (ρ1 : Rho) (js : List Nat), (∀ q, DG (XB X scope q) tg d (wipeR ρ vs) ρ1 js) → (∀ i ∈ js, i ∈ vs) → ∀ (b : Bool) (rest2 : List D), (∀ q, DTs (XB X scope q) WF ifs ρ1 (.ok b)) →
      (b = true → ∃ y, (∀ q, DE (XB X scope q) WF elt ρ1 (.ok y)) ∧ rest = y :: rest2) → (b = false → rest = rest2) → DLc X scope vs tg ifs elt (wipeR ρ vs) dr rest2 →
      (J.stop i H2 ∧ Q (.ref L) H2) ∨ (J.go i H2 ∧ ∃ Nx : Hp → Prop, (∀ H', Nx H' → ∃ m', m' < items.length - i ∧ (fun i m H2 => m = items.length - i ∧ i ≤ items.length ∧ ∃ F2 acc done rest, Stp F1 H1 F2 H2 ∧ F2 L = none ∧ H2 L = some (.lst acc) ∧ RpA X.K X.mg F2 acc done ∧ done ++ rest = ys ∧ done.length ≤ i ∧ DLc X scope vs tg ifs elt (wipeR ρ vs) (items.drop i) rest) (i + 1) m' H') ∧
        ∀ x H', J.yld i H2 x H' → wGB X scope tg x (L2.wipe σ vs) H' fun σ2 H3 => L2.wipe σ2 vs = L2.wipe σ vs ∧ wTB X scope ifs σ2 H3 fun b H4 =>
          if b = true then wEB X scope elt σ2 H4 fun y H5 => ∃ acc, H5 L = some (.lst acc) ∧ acc.length < sizeLine ∧ Nx (upd H5 L (.lst (acc ++ [y]))) else Nx H4) := by
    intro d dr hdr ρ1 js g1 gj b rest2 g2 gy gn gd
    obtain ⟨i1, i2⟩ := drop_get hdr
    have hlt := lt_of_get i1
    obtain ⟨hg, hy⟩ := jg i d i1
    refine .inr ⟨hg, fun H' => i + 1 ≤ items.length ∧ ∃ F2 acc done rest, Stp F1 H1 F2 H' ∧ F2 L = none ∧ H' L = some (.lst acc) ∧ RpA X.K X.mg F2 acc done ∧ done ++ rest = ys ∧ done.length ≤ i + 1 ∧ DLc X scope vs tg ifs elt (wipeR ρ vs) (items.drop (i + 1)) rest,
      fun H' hn => ⟨items.length - (i + 1), by omega, rfl, hn⟩, fun x H3 yl qq => ?_⟩
    obtain ⟨F3, s3, r3⟩ := hy x H3 yl
    have E3 := (Ew.step s2).step s3
    refine g1 qq _ _ F3 H3 _ x _ E3 r3 fun F4 H4 σ4 s4 E4 a4 => ⟨wipe_again a4 gj, fun qq2 => ?_⟩
    refine g2 qq2 _ _ F4 H4 σ4 _ E4 fun F5 H5 s5 => ?_
    have s25 := (s3.trans s4).trans s5
    have hl5 : H5 L = some (.lst acc) := s25.eh L _ h2
    have hf5 : F5 L = none := by rw [s25.ag L (by rw [h2]; simp), f2]
    cases b with
    | false =>
      refine iteF ?_
      show _ ∧ _
      exact ⟨by omega, F5, acc, done, rest2, s2.trans s25, hf5, hl5, r2.up s25.ef, by rw [← gn rfl]; exact e2, by omega, by rw [i2]; exact gd⟩
    | true =>
      obtain ⟨y, g3, er⟩ := gy rfl
      refine iteT fun qq3 => (g3 qq3).use (E4.step s5) fun v F6 H6 s6 r6 => ?_
      have s26 := s25.trans s6
      have hl6 : H6 L = some (.lst acc) := s26.eh L _ h2
      have hf6 : F6 L = none := by rw [s26.ag L (by rw [h2]; simp), f2]
      refine ⟨acc, hl6, by have := r2.length; omega, by omega, F6, acc ++ [v], done ++ [y], rest2, ⟨(s2.trans s26).ef, fun a o g => ?_, fun a o g => ?_, (s2.trans s26).ag⟩, hf6, upd_same, (r2.up s26.ef).append (.cons r6 .nil), by rw [← e2, er]; simp, by simp; omega, by rw [i2]; exact gd⟩
      · rw [upd_ne (by rintro rfl; rw [hL] at g; cases g)]; exact (s2.trans s26).eh a o g
      · rw [upd_ne (by rintro rfl; rw [hf6] at g; cases g)]; exact s26.sub a o g
  generalize hr : items.drop i = it at hd
  cases hd with
  | nil =>
    have hn : items.length ≤ i := by
      have := congrArg List.length hr
      simp at this; omega
    have : i = items.length := by omega
    subst this
    refine .inl ⟨jst, q L acc F2 H2 (s1.trans s2) f2 hLH h2 ?_⟩
    rw [List.append_nil] at e2
    rw [← e2]; exact r2
  | take g1 gj g2 g3 gd => exact turn _ _ hr _ _ g1 gj true _ g2 (fun _ => ⟨_, g3, rfl⟩) (fun z => nomatch z) gd
  | skip g1 gj g2 gd => exact turn _ _ hr _ _ g1 gj false _ g2 (fun z => nomatch z) (fun _ => rfl) gd
end
end DL

namespace DL
open PySem PySem.Spec PyProof.Rows L2 Evl
section
variable {X : Cx} {W : WX} {e a b c tg elt : Expr} {es rest tgs ifs : List Expr} {ρ ρ' ρ1 ρ2 ρ3 : Rho} {N : List Str} {sc scope : Scope} {k n : Nat} {pos : Pos} {x y z : D} {d : D} {r : R D} {F F' H H' F0 H0 : Hp} {p q s t : Bool} {ct : Ct} {ds items ys : List D} {o : Out} {st : Stmt} {sts body : List Stmt} {js vs : List Nat}
/-- [elt for tg in e if ..] -/
theorem df_lc (B : Bg X N sc k W) (own : List (Str × Nat)) (hi : DI X W tg e ρ items) (h : DLc X scope (own.map (·.2)) tg ifs elt (wipeR ρ (own.map (·.2))) items ys) (hz : items.length < sizeLine) (ok : BlkOk N sc scope own)
    (hs : ∀ x, foldedSetIterable e X.env x = pure x := by intro _; rfl) : DF X W (.ListComp elt [⟨tg, e, ifs, 0⟩] scope pos) ρ ys := fun F0 H0 F H σ Q E q =>
  ⟨_, pe_lc B.calm (by rw [B.n]; exact B.nd) pi_w (by rw [B.n, B.sc]; exact ok) (fun s H C cl fp => pg_wb ⟨s, H, C, cl, fp⟩) (fun s H C cl fp => pts_wb ⟨s, H, C, cl, fp⟩) (fun s H C cl fp => pe_wb ⟨s, H, C, cl, fp⟩) hs, lc_read hi h hz E q⟩
/-- y = [..], y a local of its own; a list of our own -/
theorem ds_ownLc (B : Bg X N sc k W) (i : Nat) {u : Str} {p' : Pos} (own : List (Str × Nat)) {cpos : Pos} (hi : DI X W tg e ρ items) (h : DLc X scope (own.map (·.2)) tg ifs elt (wipeR ρ (own.map (·.2))) items ys) (hz : items.length < sizeLine) (ok : BlkOk N sc scope own)
    (hN : N[i]? = some u := by rfl) (hl : sc.names.lookup u = some .local := by rfl) (hk : sc.kind = .function := by rfl) (hln : (p'.line == cpos.line) = true := by rfl) (hsc : (scope.names.any fun (n, k) => n == u && (k == .local || k == .cell)) = false := by decide +kernel)
    (hs : ∀ x, foldedSetIterable e X.env x = pure x := by intro _; rfl) : DS X W (.Assign [.Name u p'] (.ListComp elt [⟨tg, e, ifs, 0⟩] scope cpos) pos) ρ (.nx (ρ.set i (.own ys))) := fun F0 H0 F H σ Dn E q =>
  ⟨_, ps_setLc (i := i) B.calm (by rw [B.n]; exact B.nd) (by rw [B.n]; exact hN) (by rw [B.sc]; exact hl) (sw_true (by rw [B.sc]; exact hk) (by rw [B.sc]; exact hl) hln hsc) pi_w (by rw [B.n, B.sc]; exact ok) (fun s H C cl fp => pg_wb ⟨s, H, C, cl, fp⟩)
    (fun s H C cl fp => pts_wb ⟨s, H, C, cl, fp⟩) (fun s H C cl fp => pe_wb ⟨s, H, C, cl, fp⟩) hs, lc_read hi h hz E fun l xs F1 H1 s1 hF hH hl r1 => q F1 H1 _ (E.own1 s1 hF hH hl r1)⟩
theorem own_val {i : Nat} {u : Out} (h : DS X W st ρ (.nx (ρ.set i (.own ys)))) (hi : i < ρ.length := by decide) : DS X W st ρ (.nx (ρ.set i (.val (.lst ys)))) := fun F0 H0 F H σ Dn E q =>
  h F0 H0 F H σ Dn E fun F1 H1 σ1 E1 => by
    obtain ⟨F2, E2, _⟩ := E1.freeze (i := i) (ds := ys) (by rw [List.getElem?_set_self hi])
    rw [List.set_set] at E2
    exact q F2 H1 σ1 E2

/-! ## exceptions of one's own without more -/
structure ExC (K : PySem.W.Frag) (mg : Str → Option Value) (c : Str) : Prop where
  ex : ∃ C, mg c = some (.ref C) ∧ PySem.W.excIn K C [.type "ValueError", .type "Exception", .type "BaseException", .type "object"] "ValueError.__new__" = true ∧ PySem.W.keepIn K (.ref C) = true ∧ PySem.W.subIn K (.ref C) (.type "BaseException") = some true ∧
    PySem.W.typeIn K (.ref C) = some (.type "type")
theorem ds_raise {u m : Str} {j : Nat} {p1 p2 p3 : Pos} (B : Bd X N sc k W) (hc : ExC X.K X.mg u) (hg : sc.names.lookup u = some .globalImplicit := by rfl) (hd : (u == ("__debug__" : Str)) = false := by decide) :
    DS X W (.Raise (some (.Call (.Name u p1) [.Constant (.str m) j p2] [] p3)) none pos) ρ (.ex u [] ρ) := fun F0 H0 F H σ Dn E q => by
  obtain ⟨C, g, x1, k1, b1, t1⟩ := hc.ex
  refine ⟨_, ps_raise B.calm B.tk (pmk_own PySem.F.excBase_ValueError x1 g k1 (raises_own b1 t1) (show X.env.scope.names.lookup u = _ by rw [B.sc]; exact hg) hd), ?_⟩
  exact q _ _ F H σ E ⟨C, g, rfl, fun z => absurd rfl z⟩

/-! ## a def by its body -/
def OutIs : Out → R D → Prop
  | .rt d, .ok d' => d = d'
  | .nx _, .ok .non => True
  | .ex c fs _, .ex c' fs' => c = c' ∧ fs = fs'
  | _, _ => False
def startR (N : List Str) (ds : List D) : Rho := ds.map Sl.val ++ List.replicate (N.length - ds.length) .any
theorem start_env {K : PySem.W.Frag} {mg : Str → Option Value} {vs : List V} (he : Ex F H) (r : RpA K mg F vs ds) : EnvS K mg F H F H (L2.start N vs) (startR N ds) := by
  have hl := r.length
  have nown : ∀ (i : Nat) (es : List D), (startR N ds)[i]? ≠ some (Sl.own es) := fun i es h => by
    unfold startR at h
    by_cases hi : i < ds.length
    · rw [List.getElem?_append_left (by simpa using hi), List.getElem?_map] at h
      cases g : ds[i]? with
      | none => rw [g] at h; cases h
      | some u => rw [g] at h; cases h
    · rw [List.getElem?_append_right (by simpa using Nat.le_of_not_lt hi), List.getElem?_replicate] at h
      split at h <;> cases h
  refine ⟨Stp.refl he, by unfold L2.start startR; simp [hl], fun i d h => ?_, fun i es h => absurd h (nown i es), fun i j ds es _ h => absurd h (nown i ds)⟩
  unfold startR at h
  by_cases hi : i < ds.length
  · rw [List.getElem?_append_left (by simpa using hi), List.getElem?_map] at h
    cases g : ds[i]? with
    | none => rw [g] at h; cases h
    | some u =>
      rw [g] at h
      cases h
      obtain ⟨v, g1, g2⟩ := r.get g
      refine ⟨v, ?_, g2⟩
      unfold L2.start
      rw [List.getElem?_append_left (by rw [List.length_map, hl]; exact hi), List.getElem?_map, g1] <;> rfl
  · rw [List.getElem?_append_right (by simpa using Nat.le_of_not_lt hi), List.getElem?_replicate] at h
    split at h <;> cases h
/-- a body's promise -/
def BodyOk (X : Cx) (N : List Str) (sc : Scope) (k : Nat) (W : WX) (body : List Stmt) (n : Nat) (c : Ct) : Prop := ∀ ds r, ds.length = n → c ds r → ∃ o, OutIs o r ∧ DSs X W body (startR N ds) o
theorem fn_ok {P : Program} {w : World} {K : PySem.W.Frag} {mg : Str → Option Value} {base : Heap} {x qual : Str} {st : Stmt} {f : Addr} {fd : FuncData} {N ps : List Str} {k n : Nat} {c : Ct} (Fu : L2.Fun K x qual st f fd) (S : FnScope N ps (defScope st)) (hn : ps.length = n)
    (hb : ∀ X W, Bg X N (defScope st) k W → X.prog = P → X.w = w → X.K = K → X.mg = mg → X.base = base → (∀ s, X.fn s = true) → BodyOk X N (defScope st) k W (defBody st) n c) : FnG P w K mg base (k + 1) f fd ps (spOf K mg n c) := by
  obtain ⟨oc, od, kV, doc, pm, an, cdv, ct, osl, rfl, lk, hcd⟩ := Fu.ex
  refine fng_of lk hcd S (fun vs H Q E h => ?_) fun A outer s H vs Q E hg hr h => ?_
  · obtain ⟨F, ds, r, _, hr, hl, _⟩ := h
    rw [hr.length, hl, hn]
  · obtain ⟨F, ds, r, he, hrp, hl, hc, post⟩ := h
    have B : Bg (cxOf (L2.CX P w) P w K mg base N qual (defScope st) f cdv A outer s H E) N (defScope st) k (fun cls d _ H => E cls d H) :=
      { n := rfl, sc := rfl, nd := S.nd, calm := rfl, room := hr, tk := takes_of rfl rfl rfl rfl, po := passes_of (K := fun e s'' => L2.CX P w outer H s E e s'') rfl, gd := hg }
    obtain ⟨o, ho, hd⟩ := hb _ _ B rfl rfl rfl rfl rfl (fun _ => rfl) ds r hl hc
    refine ⟨_, pss_w, hd F H F H (L2.start N vs) _ (start_env he hrp) ?_⟩
    cases o with
    | rt d =>
      cases r with
      | ok d' => cases (show d = d' from ho); exact fun v F' H' s2 r2 => post v F' H' s2 r2
      | ex c fs => exact (show False from ho).elim
    | nx ρ =>
      cases r with
      | ok d' =>
        cases d' <;> first | exact (show False from ho).elim | exact fun F' H' σ' E' => post _ F' H' E'.st .non
      | ex c fs => exact (show False from ho).elim
    | bk ρ => cases r <;> exact (show False from ho).elim
    | ct ρ => cases r <;> exact (show False from ho).elim
    | ex c fs ρ =>
      cases r with
      | ok d' => exact (show False from ho).elim
      | ex c' fs' =>
        obtain ⟨h1, h2⟩ := (show c = c' ∧ fs = fs' from ho)
        subst h1 h2
        exact fun cls dd F' H' σ' E' r2 => post cls dd F' H' E'.st r2
/-- .. as a caller knows it -/
theorem fn_known {P : Program} {w : World} {K : PySem.W.Frag} {mg : Str → Option Value} {base : Heap} {x qual : Str} {st : Stmt} {f : Addr} {fd : FuncData} {N ps : List Str} {k n : Nat} {c : Ct} (Fu : L2.Fun K x qual st f fd) (hm : mg x = some (.ref f)) (S : FnScope N ps (defScope st)) (hn : ps.length = n) (hbi : Binds K fd ps [])
    (hb : ∀ X W, Bg X N (defScope st) k W → X.prog = P → X.w = w → X.K = K → X.mg = mg → X.base = base → (∀ s, X.fn s = true) → BodyOk X N (defScope st) k W (defBody st) n c) : Fn P w K mg base x (k + 1) n c :=
  ⟨f, fd, ps, hm, Fu.kp, hbi, hn, fn_ok Fu S hn hb⟩
end
end DL

namespace DL
open PySem PySem.Spec PyProof.Rows L2 Evl
section
variable {X : Cx} {W : WX} {e a b c tg elt : Expr} {es rest tgs ifs : List Expr} {ρ ρ' ρ1 ρ2 ρ3 : Rho} {N : List Str} {sc scope : Scope} {k n : Nat} {pos p0 : Pos} {x y z : D} {d : D} {r : R D} {F F' H H' F0 H0 : Hp} {p q s t : Bool} {ct : Ct} {ds items ys : List D} {o : Out} {st : Stmt} {sts body : List Stmt} {js vs : List Nat}
mutual
theorem nodict_py : ∀ (d : D), PyData.hasDict d.py = false
  | .non => by simp [D.py, PyData.hasDict]
  | .bl _ => by simp [D.py, PyData.hasDict]
  | .int _ => by simp [D.py, PyData.hasDict]
  | .str _ => by simp [D.py, PyData.hasDict]
  | .tup ds => by simp [D.py, PyData.hasDict, nodict_pyAll ds]
  | .lst ds => by simp [D.py, PyData.hasDict, nodict_pyAll ds]
  | .scr _ => by simp [D.py, PyData.hasDict]
  | .obj _ _ => by simp [D.py, PyData.hasDict]
theorem nodict_pyAll : ∀ (ds : List D), PyData.hasDictAll (pyAll ds) = false
  | [] => by simp [pyAll, PyData.hasDictAll]
  | d :: ds => by simp [pyAll, PyData.hasDictAll, nodict_py d, nodict_pyAll ds]
end
/-- what repr gives -/
def D.rep (d : D) : Str := d.py.shown
def isRef : D → Bool
  | .tup _ => true
  | .lst _ => true
  | _ => false
theorem call_repr_D (hg : X.A.guards = some []) (hu : X.A.units + 70 < cLine) (hx : Sh x) (h0 : isRef x = true) (h1 : x.py.showable = true) (h2 : x.rep.length ≤ sizeLine) :
    CallR X (.builtin "repr") (fun xs H Q => ∃ v, xs = [v] ∧ Rp X.K X.mg H v x ∧ Q (.str x.rep) H) := by
  intro pins s σ H xs us Q I r h
  obtain ⟨v, rfl, rx, q⟩ := h
  obtain ⟨u, rfl, ru⟩ := vals1 r
  obtain ⟨as, rd⟩ := Dp.reads I x.py v u (Rp.dp x v hx.1 rx) ru
  have fin : ∀ h' u tk, (∀ b o, s.heap.get? b = some o → h'.get? b = some o) → EP X pins σ Q (.str x.py.shown u) { s with heap := h', toks := tk } := fun h' u tk hk => ⟨.str x.rep, H, I.kept (h' := h') (t' := tk) hk, ⟨u, rfl⟩, q⟩
  have hd := dep_py x
  have h64 := hx.2
  have isr : ∃ a, u = .ref a := by
    cases rx <;> simp [isRef] at h0 <;> exact ⟨_, ru⟩
  obtain ⟨a, rfl⟩ := isr
  exact repr_of_reads' rd h1 (fun z => by rw [nodict_py] at z; cases z) hg (by omega) (fun _ _ e => e) fin h2
theorem de_repr (B : Bg X N sc k W) (hm : X.mg "repr" = none) (ha : DE X W a ρ (.ok x)) (hx : Sh x) (h0 : isRef x = true) (h1 : x.py.showable = true) (h2 : x.rep.length ≤ sizeLine) (hg : sc.names.lookup ("repr" : Str) = some .globalImplicit := by rfl)
    (hs : starEach [a] X.env = (false, eval a X.env) :: starEach [] X.env := by rfl) : DE X W (.Call (.Name "repr" p0) [a] [] pos) ρ (.ok (.str x.rep)) :=
  de_callB B.toBx (call_repr_D B.gd (by have := B.room.un; omega) hx h0 h1 h2) hm (by decide +kernel) (da_cons ha da_nil hs) (fun F H vs Q e r q => by
    cases r with | cons r1 r2 => cases r2; exact ⟨_, rfl, r1.up e, q _ F H (Stp.refl e) (.str _)⟩) hg (he := hs)

/-! ## sizes of what is shown -/
mutual
def D.wt : D → Nat
  | .non => 10
  | .bl _ => 10
  | .int _ => 2000
  | .str x => 10 * x.length + 10
  | .tup ds => wtAll ds + 10
  | .lst ds => wtAll ds + 10
  | .scr _ => 10
  | .obj _ _ => 10
def wtAll : List D → Nat
  | [] => 0
  | d :: ds => d.wt + 2 + wtAll ds
end

/-! ## isinstance -/
/-- a type's name -/
def tyD : D → Option String
  | .non => some "NoneType"
  | .bl _ => some "bool"
  | .int _ => some "int"
  | .str _ => some "str"
  | .tup _ => some "tuple"
  | .lst _ => some "list"
  | _ => none
theorem tyX_rp {K : PySem.W.Frag} {mg : Str → Option Value} {v : V} {T : String} (h : tyD x = some T) (r : Rp K mg H v x) : TyX K H v (.type T) := by
  cases r <;> simp [tyD] at h <;> subst h
  · exact .base .non
  · exact .base (.bl _)
  · exact .base (.int _)
  · exact .base (.str _)
  · rename_i a xs ds h1 h2
    rcases h1 with (h1 | ⟨o, h1⟩) | ⟨o, its, n, h1, h3, _⟩
    · exact .base (.tup h1)
    · exact .fTuple h1
    · exact .kTuple h1 h3
  · rename_i a xs ds h1 h2
    exact .base (.lst h1)
theorem de_isi {u T : String} {nm : Str} {p1 : Pos} (B : Bx X N sc) (hm : X.mg "isinstance" = none) (hm2 : X.mg nm = none) (ha : DE X W a ρ (.ok x)) (hx : tyD x = some T) (hv : bootBuiltins nm = some (.type u)) (hk : kitB T u = some p) (hg : sc.names.lookup ("isinstance" : Str) = some .globalImplicit := by rfl)
    (hg2 : sc.names.lookup nm = some .globalImplicit := by rfl) (hn : nm ≠ "__name__" := by decide) (hd : (nm == ("__debug__" : Str)) = false := by decide)
    (hs : starEach [a, .Name nm p1] X.env = (false, eval a X.env) :: starEach [.Name nm p1] X.env := by rfl) (hs2 : starEach [.Name nm p1] X.env = (false, eval (.Name nm p1) X.env) :: starEach [] X.env := by rfl)
    (hp : (backTo pos (starEach [.Name nm p1] X.env)).any (·.1) = false := by rfl) : DE X W (.Call (.Name "isinstance" p0) [a, .Name nm p1] [] pos) ρ (.ok (.bl p)) := fun F0 H0 F H σ Q E q =>
  ⟨_, pe_callB call_isi (show X.env.scope.names.lookup _ = _ by rw [B.sc]; exact hg) hm (by decide +kernel) (pa_cons pe_w (pa_cons (pe_bltn (v := .ty u) (show X.env.scope.names.lookup _ = _ by rw [B.sc]; exact hg2) hm2 hv rfl hn hd) pa_nil hs2) hs) (by decide) (by decide) hs hp,
    ha.use E fun v F1 H1 s1 r1 => ⟨v, .ty u, .type T, .type u, p, rfl, .ty u, tyX_rp hx (r1.up s1.sub), kit_ty hk, q _ F1 H1 s1 (.bl _)⟩⟩
theorem dt_isi {u T : String} {nm : Str} {p1 : Pos} (B : Bx X N sc) (hm : X.mg "isinstance" = none) (hm2 : X.mg nm = none) (ha : DE X W a ρ (.ok x)) (hx : tyD x = some T) (hv : bootBuiltins nm = some (.type u)) (hk : kitB T u = some p) (hg : sc.names.lookup ("isinstance" : Str) = some .globalImplicit := by rfl)
    (hg2 : sc.names.lookup nm = some .globalImplicit := by rfl) (hn : nm ≠ "__name__" := by decide) (hd : (nm == ("__debug__" : Str)) = false := by decide)
    (hs : starEach [a, .Name nm p1] X.env = (false, eval a X.env) :: starEach [.Name nm p1] X.env := by rfl) (hs2 : starEach [.Name nm p1] X.env = (false, eval (.Name nm p1) X.env) :: starEach [] X.env := by rfl)
    (hp : (backTo pos (starEach [.Name nm p1] X.env)).any (·.1) = false := by rfl) : DT X W (.Call (.Name "isinstance" p0) [a, .Name nm p1] [] pos) ρ (.ok p) :=
  dt_val (de_isi B hm hm2 ha hx hv hk hg hg2 hn hd hs hs2 hp)

/-! ## x in a list or tuple of flat things -/
def flD : D → Option V := sD
def valsD : List D → Option (List V)
  | [] => some []
  | d :: ds => match sD d, valsD ds with
    | some v, some vs => some (v :: vs)
    | _, _ => none
theorem valsD_rp {K : PySem.W.Frag} {mg : Str → Option Value} : ∀ {ds : List D} {vs ws : List V}, valsD ds = some ws → RpA K mg H vs ds → vs = ws
  | [], _, _, h, .nil => by simp [valsD] at h; exact h.symm
  | d :: ds, _, ws, h, .cons r t => by
    unfold valsD at h
    cases g : sD d with
    | none => rw [g] at h; cases h
    | some v =>
      cases g2 : valsD ds with
      | none => rw [g, g2] at h; cases h
      | some us =>
        rw [g, g2] at h
        cases h
        rw [sD_rp g r, valsD_rp g2 t]
theorem rop_in {K : PySem.W.Frag} {mg : Str → Option Value} {v : V} {us : List V} {neg : Bool} (hx : sD x = some v) (hv : flatV v = true) (hy : seqD y = some ds) (hus : valsD ds = some us) (hf : us.all flatV = true) : ROp K mg (rIn K neg) x y (.bl (if neg then !inV v us else inV v us)) :=
  fun F H vx vy Q e rx ry q => by
    cases sD_rp hx rx
    cases y <;> simp [seqD] at hy
    · subst hy
      cases ry with
      | tup h1 h2 => rw [valsD_rp hus h2] at h1; exact ⟨_, us, rfl, .inr (ex_t e h1), hv, hf, q _ F H (Stp.refl e) (.bl _)⟩
    · subst hy
      cases ry with
      | lst h1 h2 => rw [valsD_rp hus h2] at h1; exact ⟨_, us, rfl, .inl (SqL.of (e _ _ h1)), hv, hf, q _ F H (Stp.refl e) (.bl _)⟩
theorem dt_in {v : V} {us : List V} (ha : DE X W a ρ (.ok x)) (hb : DE X W b ρ (.ok y)) (hx : sD x = some v) (hv : flatV v = true) (hy : seqD y = some ds) (hus : valsD ds = some us) (hf : us.all flatV = true) (hm : behindInMarks .In b = false := by rfl) :
    DT X W (.Compare a [.In] [b] pos) ρ (.ok (inV v us)) := dt_cmp op_in_seq ha hb (rop_in (neg := false) hx hv hy hus hf) hm
theorem dt_notIn {v : V} {us : List V} (ha : DE X W a ρ (.ok x)) (hb : DE X W b ρ (.ok y)) (hx : sD x = some v) (hv : flatV v = true) (hy : seqD y = some ds) (hus : valsD ds = some us) (hf : us.all flatV = true) (hm : behindInMarks .NotIn b = false := by rfl) :
    DT X W (.Compare a [.NotIn] [b] pos) ρ (.ok (!inV v us)) := dt_cmp op_notIn_seq ha hb (rop_in (neg := true) hx hv hy hus hf) hm
theorem de_in {v : V} {us : List V} (ha : DE X W a ρ (.ok x)) (hb : DE X W b ρ (.ok y)) (hx : sD x = some v) (hv : flatV v = true) (hy : seqD y = some ds) (hus : valsD ds = some us) (hf : us.all flatV = true) (hm : behindInMarks .In b = false := by rfl) :
    DE X W (.Compare a [.In] [b] pos) ρ (.ok (.bl (inV v us))) := de_cmp op_in_seq ha hb (rop_in (neg := false) hx hv hy hus hf) hm
end
end DL

namespace DL
open PySem PySem.Spec PyProof.Rows L2 Evl HT
/-! ## t[::-1] of a tuple -/
theorem filterMap_eq {α β : Type} {f g : α → Option β} : ∀ (l : List α), (∀ a ∈ l, f a = g a) → l.filterMap f = l.filterMap g
  | [], _ => rfl
  | a :: l, h => by rw [List.filterMap_cons, List.filterMap_cons, h a List.mem_cons_self, filterMap_eq l fun b hb => h b (List.mem_cons_of_mem _ hb)]
theorem rev_pick (xs : Array Value) : ((List.range xs.size).filterMap fun (k : Nat) => xs[(((xs.size : Int) - 1) + (k : Int) * (-1)).toNat]?).toArray = xs.toList.reverse.toArray := by
  congr 1
  apply List.ext_getElem?
  intro i
  have e : (List.range xs.size).filterMap (fun (k : Nat) => xs[(((xs.size : Int) - 1) + (k : Int) * (-1)).toNat]?) = (List.range xs.size).map (fun k => xs.toList.reverse.getD k Value.none) := by
    rw [← List.filterMap_eq_map]
    apply filterMap_eq
    intro k hk
    have hk' : k < xs.size := List.mem_range.mp hk
    have h1 : (((xs.size : Int) - 1) + (k : Int) * (-1)).toNat = xs.size - 1 - k := by omega
    rw [h1]
    have h2 : xs.size - 1 - k < xs.size := by omega
    rw [Array.getElem?_eq_getElem h2]
    simp only [Function.comp]
    rw [List.getD_eq_getElem?_getD, List.getElem?_reverse (by simpa using hk'), Array.length_toList, List.getElem?_eq_getElem (by simpa using h2)]
    simp
  rw [e, List.getElem?_map]
  by_cases hi : i < xs.size
  · rw [List.getElem?_range hi]
    have : i < xs.toList.reverse.length := by simpa using hi
    rw [List.getElem?_eq_getElem this]
    simp [this, hi]
  · rw [List.getElem?_eq_none (by simpa using hi), List.getElem?_eq_none (by simpa using hi)]; rfl
section
variable {prog : Program} {w : World} {A : Around} {E : Value → Shared → Prop} {s : Shared}
theorem adjust_rev (n : Nat) : Builtin.Slice.sliceAdjust none none (-1) (n : Int) = ((n : Int) - 1, -1) := by
  unfold Builtin.Slice.sliceAdjust
  simp
theorem places_rev (n : Nat) : Builtin.Slice.slicePlaces ((n : Int) - 1) (-1) (-1) = n := by
  unfold Builtin.Slice.slicePlaces
  have h1 : ¬ ((-1 : Int) > 0) := by omega
  simp only [h1, if_false]
  by_cases h : ((n : Int) - 1) > -1
  · rw [if_pos h]; simp
  · rw [if_neg h]; omega
theorem getItem_tuple_rev {t sl : Addr} {items : Array Value} {vl vu vs : Value} {Q : Value → Shared → Prop} (ht : IsTup s.heap t items) (hs : s.heap.IsSliceOf sl vl vu vs) (pl : IsPart vl none) (pu : IsPart vu none) (ps : IsPart vs (some (-1)))
    (h : Q (.ref s.heap.objs.size) { s with heap := s.heap.push { cls := .type "tuple", data := .seq items.toList.reverse.toArray } }) (hsz : items.size ≤ sizeLine) : wpAny (model prog w) A (getItem (.ref t) (.ref sl)) Q E s := by
  have room : sizeOk (.seq items.toList.reverse.toArray) := by
    show items.toList.reverse.toArray.size ≤ sizeLine
    simpa using hsz
  obtain ⟨os, hos, hcs, hds⟩ := id hs
  have isSl : s.TypeIs (.ref sl) "slice" := ⟨os, hos, hcs⟩
  unfold getItem
  try with_reducible refine wpAny_holding ?_
  first | refine wpAny_bind (wpAny_pure ?_) | skip
  refine wpAny_bind (wpAny_sequenceKey ht.typeIs (by decide) ?_)
  refine wpAny_bind (wpAny_callSpecial?_slot (name := Str.ofString "__getitem__") ht.typeIs PyProof.Rows.slot_tuple_getitem (wpAny_call_entry PyProof.Rows.slot_tuple_getitem ht.typeIs entry_tuple_getitem ?_ (args_tuple_getitem _ _)))
  show wpAny _ _ (Builtin.Tuple.tupleItemsOf (.ref t) >>= _) _ _ s
  refine wpAny_bind (tupleItemsOf_ ht ?_)
  refine wpAny_bind (wpAny_typeOf isSl ?_)
  rw [if_pos (by decide)]
  refine wpAny_bind ?_
  unfold Builtin.Slice.sliceApplied Builtin.Slice.sliceFields
  refine wpAny_bind (wpAny_bind (wpAny_field hos hds (x := vl) rfl (wpAny_bind (wpAny_field hos hds (x := vu) rfl (wpAny_bind (wpAny_field hos hds (x := vs) rfl (wpAny_pure ?_)))))))
  refine wpAny_bind (slicePart_ ps ?_)
  show wpAny _ _ (if ((-1 : Int) == 0) = true then _ else _) _ _ s
  rw [if_neg (by decide)]
  refine wpAny_bind (slicePart_ pl (wpAny_bind (slicePart_ pu (wpAny_bind (wpAny_pure ?_)))))
  show wpAny _ _ (match Builtin.Slice.sliceAdjust none none (-1) (items.size : Int) with | (lo, hi) => pure (lo, (-1 : Int), Builtin.Slice.slicePlaces lo hi (-1))) _ _ s
  rw [adjust_rev]
  show wpAny _ _ (pure (((items.size : Int) - 1), (-1 : Int), Builtin.Slice.slicePlaces ((items.size : Int) - 1) (-1) (-1))) _ _ s
  rw [places_rev]
  refine wpAny_pure ?_
  have no1 : ¬ ((((items.size : Int) - 1) == 0 && (-1 : Int) == 1 && items.size == items.size) = true) := by
    simp
  show wpAny _ _ (if (((items.size : Int) - 1) == 0 && (-1 : Int) == 1 && items.size == items.size) = true then _ else _) _ _ s
  rw [if_neg no1, rev_pick]
  first
    | exact wpAny_bind (m := Builtin.Tuple.tupleExact _) (wpAny_newObj_type (wpAny_pure ⟨_, rfl, wpAny_pure h⟩) room)
    | exact wpAny_bind (m := Builtin.Tuple.tupleExact _) (wpAny_newObj_type (wpAny_bind (wpAny_pure (wpAny_pure ⟨_, rfl, wpAny_pure h⟩))) room)
    | exact wpAny_bind (wpAny_bind (m := Builtin.Tuple.tupleExact _) (wpAny_newObj_type (wpAny_pure (wpAny_pure ⟨_, rfl, wpAny_pure h⟩)) room))
    | exact wpAny_bind (wpAny_bind (m := Builtin.Tuple.tupleExact _) (wpAny_newObj_type (wpAny_pure ⟨_, rfl, wpAny_pure h⟩) room))
end
def tRevT (K : PySem.W.Frag) (te : TE) : TE := fun σ H Q => te σ H fun x H1 => ∃ a xs, x = .ref a ∧ SqT K H1 a xs ∧ ∀ p, H1 p = none → Q (.ref p) (upd H1 p (.tup xs.reverse))
theorem pe_revT {X : Cx} {e : Expr} {te : TE} {k : Nat} {p1 p2 p3 pos : Pos} (he : PE X e te) : PE X (.Subscript e (.Slice none none (some (.UnaryOp .USub (.Constant (.int 1) k p1) p2)) p3) pos) (tRevT X.K te) := by
  constructor
  intro pins s σ H Q I h
  refine Subscript_ (thn (he.run pins s σ H _ I h) fun v s1 hh => ?_)
  obtain ⟨x, H1, I1, r1, a, xs, ex, hx, q⟩ := hh
  subst ex
  cases r1
  have stepP : PO X (some (.UnaryOp .USub (.Constant (.int 1) k p1) p2)) (tPart (tUn (rU fun i => .int (-i)) (tC (.int 1)))) := po_some (pe_un un_neg pe_int)
  refine wpAny_Slice (thn (po_none.run pins s1 σ H1 (fun o H2 => o = none ∧ H2 = H1) I1 ⟨rfl, rfl⟩) fun vl s2 h2 => ?_)
  obtain ⟨l, H2, I2, pl, el, e2⟩ := h2
  subst el e2
  refine thn (po_none.run pins s2 σ H2 (fun o H3 => o = none ∧ H3 = H2) I2 ⟨rfl, rfl⟩) fun vu s3 h3 => ?_
  obtain ⟨u, H3, I3, pu, eu, e3⟩ := h3
  subst eu e3
  refine thn (stepP.run pins s3 σ H3 (fun o H4 => o = some (-1) ∧ H4 = H3) I3 ⟨1, rfl, -1, rfl, rfl, rfl⟩) fun vs s4 h4 => ?_
  obtain ⟨o, H4, I4, ps, eo, e4⟩ := h4
  subst eo e4
  have I5 : Inv X pins σ H4 { s4 with heap := s4.heap.push { cls := .type "slice", data := .fields #[vl, vu, vs] } } := I4.kept (t' := s4.toks) fun b ob q => Heap.get?_push_of_some _ q
  obtain ⟨its, r, ht, hz⟩ := I5.tuple hx
  have hlen := r.length
  show wpAny (model X.prog X.w) X.A (subscriptTail e (.Slice none none (some (.UnaryOp .USub (.Constant (.int 1) k p1) p2)) p3) (.ref a) (.ref s4.heap.objs.size)) (EP X pins σ Q) X.xe { s4 with heap := s4.heap.push { cls := .type "slice", data := .fields #[vl, vu, vs] } }
  refine tail_any (ops := [.ref a, .ref s4.heap.objs.size]) ht.typeIs PyProof.Rows.slot_tuple_getitem.lookup ?_ (by with_unfolding_all rfl)
  refine getItem_tuple_rev ht (Heap.IsSliceOf.new _ vl vu vs) pl pu ps ?_ (by rw [List.size_toArray]; omega)
  refine ⟨.ref _, _, I5.laid (t' := s4.toks) (o := .tup xs.reverse) (fun b ob q => Heap.get?_push_of_some _ q) (Nat.le_refl _) ?_, rfl, q _ (I5.hok.fresh (Nat.le_refl _))⟩
  exact ⟨by rw [List.length_reverse]; exact hz, its.reverse, r.reverse, IsTup.new _ _⟩
theorem de_revT {X : Cx} {W : WX} {a : Expr} {ρ : Rho} {ds : List D} {j : Nat} {q1 q2 q3 pos : Pos} (ha : DE X W a ρ (.ok (.tup ds))) : DE X W (.Subscript a (.Slice none none (some (.UnaryOp .USub (.Constant (.int 1) j q1) q2)) q3) pos) ρ (.ok (.tup ds.reverse)) :=
  fun F0 H0 F H σ Q E q => ⟨_, pe_revT pe_w, ha.use E fun v1 F1 H1 s1 r1 => by
    cases r1 with
    | @tup a1 xs1 _ h1 h2 =>
      refine ⟨_, _, rfl, ex_t s1.sub h1, fun p hp => ?_⟩
      have s2 := Stp.new (o := .tup xs1.reverse) s1.sub hp
      exact q _ _ _ (s1.trans s2) (.tup (SqT.of upd_same) (h2.reverse.up s2.ef))⟩
end DL

namespace DL
open PySem PySem.Spec PyProof.Rows L2 Evl
/-- Python's own names are not bound in the module -/
structure Py (mg : Str → Option Value) : Prop where
  abs : mg "abs" = none
  all : mg "all" = none
  any : mg "any" = none
  bool : mg "bool" = none
  dict : mg "dict" = none
  divmod : mg "divmod" = none
  enumerate : mg "enumerate" = none
  int : mg "int" = none
  isinstance : mg "isinstance" = none
  len : mg "len" = none
  list : mg "list" = none
  max : mg "max" = none
  min : mg "min" = none
  range : mg "range" = none
  repr : mg "repr" = none
  sorted : mg "sorted" = none
  str : mg "str" = none
  sum : mg "sum" = none
  tuple : mg "tuple" = none
  type : mg "type" = none
  zip : mg "zip" = none
  ValueError : mg "ValueError" = none
section
variable {X : Cx} {W : WX} {e a b c tg elt : Expr} {es rest tgs ifs : List Expr} {ρ ρ' ρ1 ρ2 ρ3 : Rho} {N : List Str} {sc scope : Scope} {k n : Nat} {pos p0 : Pos} {x y z : D} {d : D} {r : R D} {F F' H H' F0 H0 : Hp} {p q s t : Bool} {ct : Ct} {ds items ys : List D} {o : Out} {st : Stmt} {sts body tb eb b' : List Stmt} {bs : List (List Stmt)} {js vs : List Nat} {fin : Out → Prop}
/-! ## a body, statement by statement, by ways -/
def DK (X : Cx) (W : WX) (fin : Out → Prop) : List (List Stmt) → Rho → Prop
  | [], ρ => fin (.nx ρ)
  | b :: bs, ρ => (∃ ρ1, DSs X W b ρ (.nx ρ1) ∧ DK X W fin bs ρ1) ∨ (∃ o, o.leaves = true ∧ fin o ∧ DSs X W b ρ o)
theorem dk_fin (h : fin (.nx ρ)) : DK X W fin [] ρ := h
theorem dk_nil (h : DK X W fin bs ρ) : DK X W fin ([] :: bs) ρ := .inl ⟨ρ, dss_nil, h⟩
theorem dk_cons (h1 : DS X W st ρ (.nx ρ1)) (h : DK X W fin (sts :: bs) ρ1) : DK X W fin ((st :: sts) :: bs) ρ := by
  rcases h with ⟨ρ2, h2, h3⟩ | ⟨o, h2, h3, h4⟩
  · exact .inl ⟨ρ2, dss_cons h1 h2, h3⟩
  · exact .inr ⟨o, h2, h3, dss_cons h1 h4⟩
theorem dk_leave (h1 : DS X W st ρ o) (h2 : fin o) (hl : o.leaves = true := by rfl) : DK X W fin ((st :: sts) :: bs) ρ := .inr ⟨o, hl, h2, dss_stop h1 hl⟩
theorem dk_if (ht : DT X W c ρ (.ok p)) (ha : p = true → DK X W fin (tb :: sts :: bs) ρ) (hb : p = false → DK X W fin (eb :: sts :: bs) ρ) : DK X W fin ((.If c tb eb pos :: sts) :: bs) ρ := by
  cases p with
  | true =>
    have i : ∀ {o : Out}, DSs X W tb ρ o → DS X W (.If c tb eb pos) ρ o := fun g => ds_if ht (fun _ => g) fun z => nomatch z
    rcases ha rfl with ⟨ρ1, h1, ⟨ρ2, h2, h3⟩ | ⟨o, h2, h3, h4⟩⟩ | ⟨o, h2, h3, h4⟩
    · exact .inl ⟨ρ2, dss_cons (i h1) h2, h3⟩
    · exact .inr ⟨o, h2, h3, dss_cons (i h1) h4⟩
    · exact .inr ⟨o, h2, h3, dss_stop (i h4) h2⟩
  | false =>
    have i : ∀ {o : Out}, DSs X W eb ρ o → DS X W (.If c tb eb pos) ρ o := fun g => ds_if ht (fun z => nomatch z) fun _ => g
    rcases hb rfl with ⟨ρ1, h1, ⟨ρ2, h2, h3⟩ | ⟨o, h2, h3, h4⟩⟩ | ⟨o, h2, h3, h4⟩
    · exact .inl ⟨ρ2, dss_cons (i h1) h2, h3⟩
    · exact .inr ⟨o, h2, h3, dss_cons (i h1) h4⟩
    · exact .inr ⟨o, h2, h3, dss_stop (i h4) h2⟩
theorem dk_weak (hl : Le ρ ρ1) (h : DK X W fin (b' :: bs) ρ1) : DK X W fin (b' :: bs) ρ := by
  rcases h with ⟨ρ2, h2, h3⟩ | ⟨o, h2, h3, h4⟩
  · exact .inl ⟨ρ2, dss_weak hl h2, h3⟩
  · exact .inr ⟨o, h2, h3, dss_weak hl h4⟩
theorem dk_freeze (i : Nat) (hi : ρ[i]? = some (Sl.own ds) := by rfl) (h : DK X W fin (b' :: bs) (ρ.set i (.val (.lst ds)))) : DK X W fin (b' :: bs) ρ := by
  rcases h with ⟨ρ2, h2, h3⟩ | ⟨o, h2, h3, h4⟩
  · exact .inl ⟨ρ2, dss_freeze i hi h2, h3⟩
  · exact .inr ⟨o, h2, h3, dss_freeze i hi h4⟩
theorem dk_done (h : DK X W fin [sts] ρ) : ∃ o, fin o ∧ DSs X W sts ρ o := by
  rcases h with ⟨ρ2, h2, h3⟩ | ⟨o, h2, h3, h4⟩
  · exact ⟨_, h3, h2⟩
  · exact ⟨o, h3, h4⟩
/-- the body of a loop's turn that goes on -/
theorem dk_turn (h : DK X W (fun o => o = .nx ρ1) [sts] ρ) : DSs X W sts ρ (.nx ρ1) := by
  obtain ⟨o, rfl, h⟩ := dk_done h
  exact h
theorem dk_is (h : DK X W (fun o' => o' = o) [sts] ρ) : DSs X W sts ρ o := by
  obtain ⟨o', e1, h1⟩ := dk_done h
  rw [e1] at h1
  exact h1
end
end DL

namespace DL
open PySem PySem.Spec PyProof.Rows L2 Evl
section
variable {X : Cx} {W : WX} {e a b c tg elt : Expr} {es rest tgs ifs : List Expr} {ρ ρ' ρ1 ρ2 ρ3 : Rho} {N : List Str} {sc scope : Scope} {k n : Nat} {pos p0 : Pos} {x y z : D} {d : D} {r : R D} {F F' H H' F0 H0 : Hp} {p q s t : Bool} {ct : Ct} {ds items ys : List D} {o : Out} {st : Stmt} {sts body tb eb b' : List Stmt} {bs : List (List Stmt)} {js vs : List Nat} {fin : Out → Prop}
theorem do_none : DO X W none ρ none := True.intro
theorem do_some {i : Int} (h : DE X W e ρ (.ok (.int i))) : DO X W (some e) ρ (some i) := h
theorem dlc_map {α : Type} {ρw : Rho} {g f : α → D} : ∀ (l : List α), (∀ a ∈ l, ∃ ρ1 js, (∀ q, DG (XB X scope q) tg (g a) ρw ρ1 js) ∧ (∀ i ∈ js, i ∈ vs) ∧ (∀ q, DTs (XB X scope q) WF ifs ρ1 (.ok true)) ∧ ∀ q, DE (XB X scope q) WF elt ρ1 (.ok (f a))) → DLc X scope vs tg ifs elt ρw (l.map g) (l.map f)
  | [], _ => .nil
  | a :: l, h => by
    obtain ⟨ρ1, js, h1, h2, h3, h4⟩ := h a List.mem_cons_self
    exact .take h1 h2 h3 h4 (dlc_map l fun c hc => h c (List.mem_cons_of_mem _ hc))
theorem dlc_filter {α : Type} {ρw : Rho} {g f : α → D} {pr : α → Bool} : ∀ (l : List α), (∀ a ∈ l, ∃ ρ1 js, (∀ q, DG (XB X scope q) tg (g a) ρw ρ1 js) ∧ (∀ i ∈ js, i ∈ vs) ∧ (∀ q, DTs (XB X scope q) WF ifs ρ1 (.ok (pr a))) ∧ (pr a = true → ∀ q, DE (XB X scope q) WF elt ρ1 (.ok (f a)))) → DLc X scope vs tg ifs elt ρw (l.map g) ((l.filter pr).map f)
  | [], _ => .nil
  | a :: l, h => by
    obtain ⟨ρ1, js, h1, h2, h3, h4⟩ := h a List.mem_cons_self
    have ih := dlc_filter (f := f) l fun c hc => h c (List.mem_cons_of_mem _ hc)
    cases hp : pr a with
    | true =>
      rw [List.filter_cons, if_pos hp]
      exact .take h1 h2 (fun q => by rw [← hp]; exact h3 q) (h4 hp) ih
    | false =>
      rw [List.filter_cons, if_neg (by rw [hp]; exact Bool.false_ne_true)]
      exact .skip h1 h2 (fun q => by rw [← hp]; exact h3 q) ih
theorem DLc.of_items {ρw : Rho} {items' : List D} (h : DLc X scope vs tg ifs elt ρw items ys) (e : items = items') : DLc X scope vs tg ifs elt ρw items' ys := e ▸ h
theorem DLc.of_ys {ρw : Rho} {ys' : List D} (h : DLc X scope vs tg ifs elt ρw items ys) (e : ys = ys') : DLc X scope vs tg ifs elt ρw items ys' := e ▸ h
theorem DF.of_eq {ds' : List D} (h : DF X W e ρ ds) (q : ds = ds') : DF X W e ρ ds' := q ▸ h
/-- a turn that goes on -/
def Goes (ρT : Rho) : Out → Prop := fun o => (∃ ρ', o = .nx ρ' ∧ Le ρ' ρT) ∨ (∃ ρ', o = .ct ρ' ∧ Le ρ' ρT)
theorem goes_nx {ρT : Rho} (h : Le ρ ρT) : Goes ρT (.nx ρ) := .inl ⟨ρ, rfl, h⟩
theorem goes_ct {ρT : Rho} (h : Le ρ ρT) : Goes ρT (.ct ρ) := .inr ⟨ρ, rfl, h⟩
theorem DFor.go {ρT : Rho} (h1 : DG X tg d ρ ρ1 js) (h2 : DK X W (Goes ρT) [body] ρ1) (h3 : DFor X W tg body ds ρT o) : DFor X W tg body (d :: ds) ρ o := by
  obtain ⟨o2, h4, h5⟩ := dk_done h2
  rcases h4 with ⟨ρ', rfl, hl⟩ | ⟨ρ', rfl, hl⟩
  · exact .step h1 h5 hl h3
  · exact .cont h1 h5 hl h3
/-- a loop as a fold, with what holds ahead of each turn -/
theorem DFor.foldP {α β : Type} (env : β → Rho) (g : α → D) (f : β → α → β) (P : List α → β → Prop) : ∀ (l pre : List α) (b : β), P pre b →
    (∀ pre' a post b, pre ++ l = pre' ++ a :: post → P pre' b → (∃ ρ1 js, DG X tg (g a) (env b) ρ1 js ∧ DK X W (Goes (env (f b a))) [body] ρ1) ∧ P (pre' ++ [a]) (f b a)) →
    DFor X W tg body (l.map g) (env b) (.nx (env (l.foldl f b))) ∧ P (pre ++ l) (l.foldl f b)
  | [], pre, b, h0, _ => ⟨.nil, by simpa using h0⟩
  | a :: l, pre, b, h0, h => by
    obtain ⟨⟨ρ1, js, h1, h2⟩, h4⟩ := h pre a l b rfl h0
    obtain ⟨g1, g2⟩ := DFor.foldP env g f P l (pre ++ [a]) (f b a) h4 (fun pre' c post b' e => h pre' c post b' (by rw [← e]; simp))
    exact ⟨.go h1 h2 g1, by simpa using g2⟩
/-- a while's turn -/
theorem DWh.go {ρT : Rho} {m : Nat} (ht : DT X W c ρ (.ok true)) (h2 : DK X W (Goes ρT) [body] ρ) (h3 : DWh X W c body m ρT o) : DWh X W c body (m + 1) ρ o := by
  obtain ⟨o2, h4, h5⟩ := dk_done h2
  rcases h4 with ⟨ρ', rfl, hl⟩ | ⟨ρ', rfl, hl⟩
  · exact .step ht h5 hl h3
  · exact .cont ht h5 hl h3
/-- a while that comes to an end: the state b as slots, f its turn, g its end, m what falls -/
theorem DWh.loop {β : Type} (env : β → Rho) (f g : β → β) (m : β → Nat) (P : β → Prop)
    (h : ∀ b, P b → (DT X W c (env b) (.ok false) ∧ g b = b) ∨ (DT X W c (env b) (.ok true) ∧ DK X W (Goes (env (f b))) [body] (env b) ∧ m (f b) < m b ∧ P (f b) ∧ g b = g (f b))) : ∀ b, P b → ∃ n, DWh X W c body n (env b) (.nx (env (g b))) := by
  intro b
  induction hm : m b using Nat.strongRecOn generalizing b with
  | _ k ih =>
    intro hP
    rcases h b hP with ⟨h1, h2⟩ | ⟨h1, h2, h3, h4, h5⟩
    · exact ⟨0, by rw [h2]; exact .stop h1⟩
    · obtain ⟨n, hn⟩ := ih (m (f b)) (by omega) (f b) rfl h4
      exact ⟨n + 1, by rw [h5]; exact .go h1 h2 hn⟩
/-- divisors that are written -/
theorem divW {i j : Int} (h : (decide (0 < j) && decide (j < 1073741824)) = true) : CDivW i j := by
  rw [Bool.and_eq_true] at h
  have h1 := of_decide_eq_true h.1
  have h2 := of_decide_eq_true h.2
  exact wide_div (b := 30) h1 (by omega) (by decide) (by decide)
/-- the ints' sizes: |i| < 2 ^ n -/
def Sm (n : Nat) (i : Int) : Prop := i.natAbs < 2 ^ n
theorem Sm.mul {i j : Int} {n m : Nat} (hi : Sm n i) (hj : Sm m j) (h0 : 0 < n := by decide) (h1 : 0 < m := by decide) (h : n + m ≤ 1000000 := by decide) : IntMulOk i j := (wide_mul hi hj h0 h1 h).ok
end
end DL

namespace DL
open PySem PySem.Spec PyProof.Rows L2 Evl
section
variable {X : Cx} {W : WX} {e e2 a b c tg elt : Expr} {es rest tgs ifs : List Expr} {ρ ρ' ρ1 ρ2 ρ3 : Rho} {N : List Str} {sc scope : Scope} {k n : Nat} {pos p0 : Pos} {x y z : D} {d : D} {r : R D} {F F' H H' F0 H0 : Hp} {p q s t : Bool} {ct : Ct} {ds items ys : List D} {o : Out} {st : Stmt} {sts body tb eb b' : List Stmt} {bs : List (List Stmt)} {js vs : List Nat} {fin : Out → Prop}
/-! ## places -/
theorem atI_m1 {xs : List Int} (h : xs ≠ []) : atI (xs.map D.int) (-1) = some (D.int (xs.getLastD 0)) := by
  have e : xs = xs.dropLast ++ [xs.getLastD 0] := by
    have q : xs.getLastD 0 = xs.getLast h := by
      cases xs with
      | nil => exact absurd rfl h
      | cons a l => rfl
    rw [q]
    exact (List.dropLast_concat_getLast h).symm
  conv => lhs; rw [e]
  rw [List.map_append]
  exact atI_last _ _
theorem atI_map {α : Type} {g : α → D} {xs : List α} {i : Int} {a : α} (h0 : 0 ≤ i) (h : xs[i.toNat]? = some a) : atI (xs.map g) i = some (g a) := by
  have := atI_nat (xs := xs.map g) (j := i.toNat) (v := g a) (by rw [List.getElem?_map, h]; rfl)
  rwa [Int.toNat_of_nonneg h0] at this
theorem atI_ints {xs : List Int} {i : Int} (h0 : 0 ≤ i) (h : i < (xs.length : Int)) : atI (xs.map D.int) i = some (D.int (xs.getD i.toNat 0)) := by
  refine atI_map h0 ?_
  have hl : i.toNat < xs.length := by omega
  rw [List.getElem?_eq_getElem hl, List.getD_eq_getElem?_getD, List.getElem?_eq_getElem hl]; rfl
/-- the same kind, other items -/
def reseq : D → List D → D
  | .tup _, ds => .tup ds
  | _, ds => .lst ds
theorem de_slQ {lo hi : Option Expr} {l u : Option Int} {p2 : Pos} (ha : DE X W a ρ (.ok x)) (hx : seqD x = some ds) (hl : DO X W lo ρ l) (hu : DO X W hi ρ u) : DE X W (.Subscript a (.Slice lo hi none p2) pos) ρ (.ok (reseq x (DL.cutD ds l u))) := by
  cases x <;> simp [seqD] at hx
  · subst hx; exact de_slT ha hl hu
  · subst hx; exact (df_slL ha hl hu).de
theorem zipOk {es : List D} (hx : seqD x = some ds) : (x = .lst ds ∧ reseq x es = .lst es) ∨ (x = .tup ds ∧ reseq x es = .tup es) := by
  cases x <;> simp [seqD] at hx
  · subst hx; exact .inr ⟨rfl, rfl⟩
  · subst hx; exact .inl ⟨rfl, rfl⟩
theorem cut_from {α : Type} {g : α → D} (xs : List α) (m : Nat) : DL.cutD (xs.map g) (some (m : Int)) none = (xs.drop m).map g := by
  unfold DL.cutD
  rw [List.length_map, HT.sIx_nat, HT.sIx_none, ← List.map_drop, ← List.map_take]
  congr 1
  by_cases h : m ≤ xs.length
  · rw [Nat.min_eq_left h, List.take_of_length_le (by rw [List.length_drop]; omega)]
  · rw [Nat.min_eq_right (by omega), List.drop_eq_nil_of_le (Nat.le_refl _), List.drop_eq_nil_of_le (by omega)]; simp
theorem cut_to {α : Type} {g : α → D} (xs : List α) (m : Int) (h0 : 0 ≤ m) : DL.cutD (xs.map g) none (some m) = (xs.take m.toNat).map g := by
  unfold DL.cutD
  rw [HT.sIx_none, List.drop_zero, List.length_map]
  have : HT.sIx xs.length xs.length (some m) = min m.toNat xs.length := by
    have := HT.sIx_nat xs.length xs.length m.toNat
    rw [Int.toNat_of_nonneg h0] at this
    exact this
  rw [this, Nat.sub_zero, ← List.map_take]
  congr 1
  by_cases h : xs.length ≤ m.toNat
  · rw [Nat.min_eq_right h, List.take_of_length_le h, List.take_of_length_le (Nat.le_refl _)]
  · rw [Nat.min_eq_left (by omega)]
theorem zipD_map {α β : Type} {f : α → D} {g : β → D} : ∀ (xs : List α) (ys : List β), zipD (xs.map f) (ys.map g) = (xs.zip ys).map fun p => .tup [f p.1, g p.2]
  | [], _ => by simp [zipD]
  | _ :: _, [] => by simp [zipD]
  | x :: xs, y :: ys => by simp [zipD, zipD_map xs ys]
/-! ## shapes of data -/
theorem plain_map {α : Type} {g : α → D} (h : ∀ a, (g a).plain = true) : ∀ l : List α, plainAll (l.map g) = true
  | [] => rfl
  | a :: l => by simp [plainAll, h a, plain_map h l]
theorem dep_map {α : Type} {g : α → D} {m : Nat} (h : ∀ a, (g a).dep ≤ m) : ∀ l : List α, depAll (l.map g) ≤ m
  | [] => Nat.zero_le _
  | a :: l => by simp only [List.map_cons, depAll]; exact Nat.max_le.mpr ⟨h a, dep_map h l⟩
theorem Sh.int {i : Int} : Sh (.int i) := ⟨rfl, Nat.zero_le _⟩
theorem Sh.bl {i : Bool} : Sh (.bl i) := ⟨rfl, Nat.zero_le _⟩
theorem Sh.non : Sh .non := ⟨rfl, Nat.zero_le _⟩
theorem Sh.tup_map {α : Type} {g : α → D} {l : List α} (h : ∀ a, (g a).plain = true) (h2 : ∀ a, (g a).dep ≤ 63) : Sh (.tup (l.map g)) :=
  ⟨by simp [D.plain, plain_map h], by simp [D.dep]; exact dep_map h2 l⟩
theorem Sh.lst_map {α : Type} {g : α → D} {l : List α} (h : ∀ a, (g a).plain = true) (h2 : ∀ a, (g a).dep ≤ 63) : Sh (.lst (l.map g)) :=
  ⟨by simp [D.plain, plain_map h], by simp [D.dep]; exact dep_map h2 l⟩
theorem Sh.tupI {l : List Int} : Sh (.tup (l.map D.int)) := Sh.tup_map (fun _ => rfl) fun _ => Nat.zero_le _
theorem Sh.lstI {l : List Int} : Sh (.lst (l.map D.int)) := Sh.lst_map (fun _ => rfl) fun _ => Nat.zero_le _
theorem eqD_refl (x : D) (h : Sh x) : eqD x x = true := SeqAt.eqv_refl x.py (lay_py x h.1)
/-! ## what is shown -/
theorem shown_ints : ∀ (l : List Int), (∀ z ∈ l, z.natAbs.log2 < 1920) → PyData.showableAll (pyAll (l.map D.int)) = true
  | [], _ => rfl
  | z :: l, h => by
    simp only [List.map_cons, pyAll, PyData.showableAll, D.py, PyData.showable, Bool.and_eq_true, decide_eq_true_eq]
    exact ⟨h z List.mem_cons_self, shown_ints l fun y hy => h y (List.mem_cons_of_mem _ hy)⟩
end
end DL

namespace DL
open PySem PySem.Spec PyProof.Rows L2 Evl
section
variable {X : Cx} {W : WX} {e e2 a b c tg elt : Expr} {es rest tgs ifs : List Expr} {ρ ρ' ρ1 ρ2 ρ3 ρT : Rho} {N : List Str} {sc scope : Scope} {k n : Nat} {pos p0 : Pos} {x y z : D} {d : D} {r : R D} {F F' H H' F0 H0 : Hp} {p q s t : Bool} {ct : Ct} {ds items ys : List D} {o : Out} {st : Stmt} {sts body tb eb b' : List Stmt} {bs : List (List Stmt)} {js vs : List Nat} {fin : Out → Prop}
/-! ## an if whose ways meet again -/
def Meets (ρT : Rho) : Out → Prop := fun o => ∃ ρ', o = .nx ρ' ∧ Le ρ' ρT
theorem meets (h : Le ρ ρT) : Meets ρT (.nx ρ) := ⟨ρ, rfl, h⟩
theorem dk_meet (ht : DT X W c ρ (.ok p)) (ha : p = true → DK X W (Meets ρT) [tb] ρ) (hb : p = false → DK X W (Meets ρT) [eb] ρ) (h : DK X W fin (sts :: bs) ρT) : DK X W fin ((.If c tb eb pos :: sts) :: bs) ρ := by
  refine dk_cons (ρ1 := ρT) (ds_if ht (fun q => ?_) fun q => ?_) h
  · obtain ⟨_, ⟨ρ', rfl, hl⟩, h2⟩ := dk_done (ha q)
    exact dss_weakO h2 hl
  · obtain ⟨_, ⟨ρ', rfl, hl⟩, h2⟩ := dk_done (hb q)
    exact dss_weakO h2 hl
/-! ## what may be shown -/
mutual
def D.fine (m : Nat) : D → Bool
  | .tup ds => fineAll m ds
  | .lst ds => fineAll m ds
  | .scr _ => false
  | .obj _ _ => false
  | .str x => PyData.strOk x && x.cps.toList.all fun c => decide (c < 16 ^ 8)
  | .int i => decide (i.natAbs < 10 ^ m)
  | _ => true
def fineAll (m : Nat) : List D → Bool
  | [] => true
  | d :: ds => d.fine m && fineAll m ds
end
mutual
def D.bulk : D → Nat
  | .tup ds => bulkD ds
  | .lst ds => bulkD ds
  | .str x => x.cps.size
  | _ => 0
def bulkD : List D → Nat
  | [] => 0
  | d :: ds => d.bulk + 1 + bulkD ds
end
variable {m : Nat}
theorem ten570 : (10 : Nat) ^ 570 ≤ 2 ^ 1920 := by decide +kernel
theorem log2_small {n : Nat} (hm : m ≤ 570) (h : n < 10 ^ m) : n.log2 < 1920 := by
  by_cases h0 : n = 0
  · subst h0; decide
  · exact (Nat.log2_lt h0).mpr (Nat.lt_of_lt_of_le h (Nat.le_trans (Nat.pow_le_pow_right (by decide) hm) ten570))
mutual
theorem fine_plain : ∀ d : D, d.fine m = true → d.plain = true
  | .non, _ => rfl
  | .bl _, _ => rfl
  | .int _, _ => rfl
  | .str _, h => by simp only [D.fine, Bool.and_eq_true] at h; simpa [D.plain] using h.1
  | .tup ds, h => by simp only [D.fine] at h; simp only [D.plain]; exact fine_plainAll ds h
  | .lst ds, h => by simp only [D.fine] at h; simp only [D.plain]; exact fine_plainAll ds h
  | .scr _, h => by simp [D.fine] at h
  | .obj _ _, h => by simp [D.fine] at h
theorem fine_plainAll : ∀ ds : List D, fineAll m ds = true → plainAll ds = true
  | [], _ => rfl
  | d :: ds, h => by
    simp only [fineAll, Bool.and_eq_true] at h
    simp only [plainAll, Bool.and_eq_true]
    exact ⟨fine_plain d h.1, fine_plainAll ds h.2⟩
end
mutual
theorem fine_show (hm : m ≤ 570) : ∀ d : D, d.fine m = true → d.py.showable = true
  | .non, _ => rfl
  | .bl _, _ => rfl
  | .int _, h => by simp only [D.fine, decide_eq_true_eq] at h; simp only [D.py, PyData.showable, decide_eq_true_eq]; exact log2_small hm h
  | .str _, _ => rfl
  | .tup ds, h => by simp only [D.fine] at h; simp only [D.py, PyData.showable]; exact fine_showAll hm ds h
  | .lst ds, h => by simp only [D.fine] at h; simp only [D.py, PyData.showable]; exact fine_showAll hm ds h
  | .scr _, h => by simp [D.fine] at h
  | .obj _ _, h => by simp [D.fine] at h
theorem fine_showAll (hm : m ≤ 570) : ∀ ds : List D, fineAll m ds = true → PyData.showableAll (pyAll ds) = true
  | [], _ => rfl
  | d :: ds, h => by
    simp only [fineAll, Bool.and_eq_true] at h
    simp only [pyAll, PyData.showableAll, Bool.and_eq_true]
    exact ⟨fine_show hm d h.1, fine_showAll hm ds h.2⟩
end
mutual
theorem fine_leaves (hm : 0 < m) : ∀ d : D, d.fine m = true → d.py.leavesShort (m + 1) = true
  | .non, _ => rfl
  | .bl _, _ => rfl
  | .int i, h => by
    simp only [D.fine, decide_eq_true_eq] at h
    simp only [D.py, PyData.leavesShort, decide_eq_true_eq]
    have := int_text_length_le10 (k := m) hm h
    show (PySem.Str.ofString (toString i)).length ≤ m + 1
    rw [PySem.ofString_length]; exact this
  | .str _, h => by simp only [D.fine, Bool.and_eq_true] at h; simpa [D.py, PyData.leavesShort] using h.2
  | .tup ds, h => by simp only [D.fine] at h; simp only [D.py, PyData.leavesShort]; exact fine_leavesAll hm ds h
  | .lst ds, h => by simp only [D.fine] at h; simp only [D.py, PyData.leavesShort]; exact fine_leavesAll hm ds h
  | .scr _, h => by simp [D.fine] at h
  | .obj _ _, h => by simp [D.fine] at h
theorem fine_leavesAll (hm : 0 < m) : ∀ ds : List D, fineAll m ds = true → PyData.leavesShortAll (m + 1) (pyAll ds) = true
  | [], _ => rfl
  | d :: ds, h => by
    simp only [fineAll, Bool.and_eq_true] at h
    simp only [pyAll, PyData.leavesShortAll, Bool.and_eq_true]
    exact ⟨fine_leaves hm d h.1, fine_leavesAll hm ds h.2⟩
end
mutual
theorem bulk_py : ∀ d : D, d.py.bulk = d.bulk
  | .non => by simp [D.py, PyData.bulk, D.bulk]
  | .bl _ => by simp [D.py, PyData.bulk, D.bulk]
  | .int _ => by simp [D.py, PyData.bulk, D.bulk]
  | .str _ => by simp [D.py, PyData.bulk, D.bulk]
  | .tup ds => by simp [D.py, PyData.bulk, D.bulk, bulk_pyAll ds]
  | .lst ds => by simp [D.py, PyData.bulk, D.bulk, bulk_pyAll ds]
  | .scr _ => by simp [D.py, PyData.bulk, D.bulk]
  | .obj _ _ => by simp [D.py, PyData.bulk, D.bulk]
theorem bulk_pyAll : ∀ ds : List D, PyData.bulkAll (pyAll ds) = bulkD ds
  | [] => by simp [pyAll, PyData.bulkAll, bulkD]
  | d :: ds => by simp [pyAll, PyData.bulkAll, bulkD, bulk_py d, bulk_pyAll ds]
end
/-- fit to be shown: ints of m digits at most, so many pieces -/
structure ShwM (m : Nat) (x : D) : Prop where
  fine : x.fine m = true
  dep : x.dep ≤ 64
  blk : (m + 3) * x.bulk + (m + 1) ≤ sizeLine
  mr : 7 ≤ m ∧ m ≤ 570
def Shw (x : D) : Prop := ∃ m, ShwM m x
theorem Shw.sh (h : Shw x) : Sh x := let ⟨_, h⟩ := h; ⟨fine_plain x h.fine, h.dep⟩
theorem Shw.len (h : Shw x) : x.rep.length ≤ sizeLine := by
  obtain ⟨m, h⟩ := h
  have g := PyData.shown_le_bulk (m + 1) (by have := h.mr; omega) x.py (fine_leaves (by have := h.mr; omega) x h.fine)
  rw [bulk_py] at g
  exact Nat.le_trans g h.blk
theorem de_rep (B : Bg X N sc k W) (hm : X.mg "repr" = none) (ha : DE X W a ρ (.ok x)) (hx : Shw x) (h0 : isRef x = true := by rfl) (hg : sc.names.lookup ("repr" : Str) = some .globalImplicit := by rfl)
    (hs : starEach [a] X.env = (false, eval a X.env) :: starEach [] X.env := by rfl) : DE X W (.Call (.Name "repr" p0) [a] [] pos) ρ (.ok (.str x.rep)) :=
  de_repr B hm ha hx.sh h0 (let ⟨_, h⟩ := hx; fine_show h.mr.2 x h.fine) hx.len hg hs
theorem fine_map {α : Type} {g : α → D} : ∀ {l : List α}, (∀ a ∈ l, (g a).fine m = true) → fineAll m (l.map g) = true
  | [], _ => rfl
  | a :: l, h => by simp only [List.map_cons, fineAll, Bool.and_eq_true]; exact ⟨h a List.mem_cons_self, fine_map fun b hb => h b (List.mem_cons_of_mem _ hb)⟩
theorem bulk_map {α : Type} {g : α → D} {m : Nat} : ∀ {l : List α}, (∀ a ∈ l, (g a).bulk ≤ m) → bulkD (l.map g) ≤ l.length * (m + 1)
  | [], _ => by simp [bulkD]
  | a :: l, h => by
    have h1 := h a List.mem_cons_self
    have h2 := bulk_map (l := l) fun b hb => h b (List.mem_cons_of_mem _ hb)
    simp only [List.map_cons, bulkD, List.length_cons, Nat.add_mul, Nat.one_mul]
    omega
theorem dep_mapM {α : Type} {g : α → D} {m : Nat} : ∀ {l : List α}, (∀ a ∈ l, (g a).dep ≤ m) → depAll (l.map g) ≤ m
  | [], _ => Nat.zero_le _
  | a :: l, h => by simp only [List.map_cons, depAll]; exact Nat.max_le.mpr ⟨h a List.mem_cons_self, dep_mapM fun b hb => h b (List.mem_cons_of_mem _ hb)⟩
theorem Shw.tup {α : Type} {g : α → D} {l : List α} (m c : Nat) (h1 : ∀ a ∈ l, (g a).fine m = true) (h2 : ∀ a ∈ l, (g a).dep ≤ 63) (h3 : ∀ a ∈ l, (g a).bulk ≤ c) (h4 : (m + 3) * (l.length * (c + 1)) + (m + 1) ≤ 16777216) (hm : 7 ≤ m ∧ m ≤ 570) : Shw (.tup (l.map g)) :=
  ⟨m, by simp only [D.fine]; exact fine_map h1, by simp only [D.dep]; exact Nat.succ_le_succ (dep_mapM h2), by simp only [D.bulk]; exact Nat.le_trans (Nat.add_le_add_right (Nat.mul_le_mul_left _ (bulk_map h3)) _) (by rw [sizeLine_eq]; exact h4), hm⟩
theorem Shw.lst {α : Type} {g : α → D} {l : List α} (m c : Nat) (h1 : ∀ a ∈ l, (g a).fine m = true) (h2 : ∀ a ∈ l, (g a).dep ≤ 63) (h3 : ∀ a ∈ l, (g a).bulk ≤ c) (h4 : (m + 3) * (l.length * (c + 1)) + (m + 1) ≤ 16777216) (hm : 7 ≤ m ∧ m ≤ 570) : Shw (.lst (l.map g)) :=
  ⟨m, by simp only [D.fine]; exact fine_map h1, by simp only [D.dep]; exact Nat.succ_le_succ (dep_mapM h2), by simp only [D.bulk]; exact Nat.le_trans (Nat.add_le_add_right (Nat.mul_le_mul_left _ (bulk_map h3)) _) (by rw [sizeLine_eq]; exact h4), hm⟩
theorem fine_int {m : Nat} {z : Int} (h : z.natAbs < 10 ^ m) : (D.int z).fine m = true := by simp only [D.fine, decide_eq_true_eq]; exact h
theorem Shw.tupI {l : List Int} (h : ∀ z ∈ l, z.natAbs < 10 ^ 12) (h4 : l.length ≤ 1000000) : Shw (.tup (l.map D.int)) :=
  .tup 12 0 (fun a ha => fine_int (h a ha)) (fun _ _ => Nat.zero_le _) (fun _ _ => Nat.le_refl _) (by omega) (by decide)
theorem Shw.lstI {l : List Int} (h : ∀ z ∈ l, z.natAbs < 10 ^ 12) (h4 : l.length ≤ 1000000) : Shw (.lst (l.map D.int)) :=
  .lst 12 0 (fun a ha => fine_int (h a ha)) (fun _ _ => Nat.zero_le _) (fun _ _ => Nat.le_refl _) (by omega) (by decide)
/-- ints of up to 1800 bits -/
theorem two_ten {n z : Nat} (h : z < 2 ^ n) (hn : n ≤ 1800) : z < 10 ^ 570 := Nat.lt_of_lt_of_le h (Nat.le_trans (Nat.pow_le_pow_right (by decide) hn) (by decide +kernel))
theorem Shw.tupW {l : List Int} (h : ∀ z ∈ l, z.natAbs < 2 ^ 1800) (h4 : l.length ≤ 20000) : Shw (.tup (l.map D.int)) :=
  .tup 570 0 (fun a ha => fine_int (two_ten (h a ha) (by decide))) (fun _ _ => Nat.zero_le _) (fun _ _ => Nat.le_refl _) (by omega) (by decide)
theorem Shw.lstW {l : List Int} (h : ∀ z ∈ l, z.natAbs < 2 ^ 1800) (h4 : l.length ≤ 20000) : Shw (.lst (l.map D.int)) :=
  .lst 570 0 (fun a ha => fine_int (two_ten (h a ha) (by decide))) (fun _ _ => Nat.zero_le _) (fun _ _ => Nat.le_refl _) (by omega) (by decide)
end
end DL

namespace DL
open PySem PySem.Spec PyProof.Rows L2 Evl
section
variable {X : Cx} {W : WX} {e e2 a b c tg elt : Expr} {es rest tgs ifs : List Expr} {ρ ρ' ρ1 ρ2 ρ3 ρT : Rho} {N : List Str} {sc scope : Scope} {k n : Nat} {pos p0 : Pos} {x y z : D} {d : D} {r : R D} {F F' H H' F0 H0 : Hp} {p q s t : Bool} {ct : Ct} {ds items ys : List D} {o : Out} {st : Stmt} {sts body tb eb b' : List Stmt} {bs : List (List Stmt)} {js vs : List Nat} {fin : Out → Prop}
/-! ## loops that may be left -/
/-- the same outcome, or slots that know less -/
def Upto (o' o : Out) : Prop := o' = o ∨ ∃ ρ' ρT, o' = .nx ρ' ∧ o = .nx ρT ∧ Le ρ' ρT
theorem ds_forU (B : Bd X N sc k W) (hi : DI X W tg e ρ items) (h : ∃ o', DFor X W tg body items ρ o' ∧ Upto o' o) (hs : ∀ x, foldedSetIterable e X.env x = pure x := by intro _; rfl) : DS X W (.For tg e body [] pos) ρ o := by
  obtain ⟨o', h1, rfl | ⟨ρ', ρT, rfl, rfl, hl⟩⟩ := h
  · exact ds_for B hi h1 hs
  · exact ds_weakO (ds_for B hi h1 hs) hl
/-- how a turn may end: on to b' , left, or away -/
def TurnO {β : Type} (env : β → Rho) (P : β → Prop) (f : β → Out) (tgt : Out) : Out → Prop
  | .nx ρ' => ∃ b', Le ρ' (env b') ∧ P b' ∧ f b' = tgt
  | .ct ρ' => ∃ b', Le ρ' (env b') ∧ P b' ∧ f b' = tgt
  | .bk ρ' => ∃ ρT, tgt = .nx ρT ∧ Le ρ' ρT
  | o => o = tgt
theorem DFor.walk {α β : Type} (env : β → Rho) (g : α → D) (f : List α → β → Out) (P : List α → β → Prop) (h0 : ∀ b, P [] b → f [] b = .nx (env b))
    (h : ∀ a l b, P (a :: l) b → ∃ ρ1 js, DG X tg (g a) (env b) ρ1 js ∧ DK X W (TurnO env (P l) (f l) (f (a :: l) b)) [body] ρ1) : ∀ (l : List α) (b : β), P l b → ∃ o', DFor X W tg body (l.map g) (env b) o' ∧ Upto o' (f l b)
  | [], b, hp => ⟨_, .nil, .inl (h0 b hp).symm⟩
  | a :: l, b, hp => by
    obtain ⟨ρ1, js, h1, h2⟩ := h a l b hp
    obtain ⟨o, h3, h4⟩ := dk_done h2
    cases o with
    | nx ρ' =>
      obtain ⟨b', hl, hP, he⟩ := h3
      obtain ⟨o', g1, g2⟩ := DFor.walk env g f P h0 h l b' hP
      exact ⟨o', .step h1 h4 hl g1, he ▸ g2⟩
    | ct ρ' =>
      obtain ⟨b', hl, hP, he⟩ := h3
      obtain ⟨o', g1, g2⟩ := DFor.walk env g f P h0 h l b' hP
      exact ⟨o', .cont h1 h4 hl g1, he ▸ g2⟩
    | bk ρ' =>
      obtain ⟨ρT, e1, hl⟩ := h3
      exact ⟨_, .brk h1 h4, .inr ⟨ρ', ρT, rfl, e1, hl⟩⟩
    | rt d => exact ⟨_, .ret h1 h4, .inl h3⟩
    | ex c' fs ρ' => exact ⟨_, .exc h1 h4, .inl h3⟩
theorem DFor.of_items {items' : List D} (h : ∃ o', DFor X W tg body items ρ o' ∧ Upto o' o) (e : items = items') : ∃ o', DFor X W tg body items' ρ o' ∧ Upto o' o := e ▸ h
theorem DFor.weakU (hl : Le ρ ρ1) (h : ∃ o', DFor X W tg body items ρ1 o' ∧ Upto o' o) : ∃ o', DFor X W tg body items ρ o' ∧ Upto o' o := by
  obtain ⟨o', h1, h2⟩ := h
  exact ⟨o', .weak hl h1, h2⟩
theorem cut_fromI {α : Type} {g : α → D} (xs : List α) (m : Int) (h0 : 0 ≤ m) : DL.cutD (xs.map g) (some m) none = (xs.drop m.toNat).map g := by
  have := cut_from (g := g) xs m.toNat
  rwa [Int.toNat_of_nonneg h0] at this
end
end DL

namespace DL
open PySem PySem.Spec PyProof.Rows L2 Evl
/-! ## the end -/
/-- tracked at the start: the script, where the module does not hold it -/
def scrH (K : PySem.W.Frag) (a : Addr) (ob : Obj) (xs : List V) : Hp := fun b => if b = a ∧ K.lookup a = none then some (.frz ob (.lst xs)) else none
section
variable {K : PySem.W.Frag} {a b : Addr} {ob : Obj} {xs : List V} {u : HO} {P : Program} {w : World} {h : Heap}
theorem scrH_some (e : scrH K a ob xs b = some u) : b = a ∧ K.lookup a = none ∧ u = .frz ob (.lst xs) := by
  unfold scrH at e
  split at e
  · rename_i q
    cases e
    exact ⟨q.1, q.2, rfl⟩
  · cases e
theorem scrH_none (e : b ≠ a) : scrH K a ob xs b = none := if_neg fun q => e q.1
theorem scrH_held {o : Obj} (e : K.lookup b = some o) : scrH K a ob xs b = none := if_neg fun q => by
  rw [q.1, q.2] at e; cases e
theorem scrH_seq {vs : List Value} (e : ∀ o, K.lookup a = some o → o = { cls := .type "list", data := .seq vs.toArray }) (r : Vals xs vs) (hl : vs.length ≤ sizeLine) : SqL K (scrH K a ob xs) a xs := by
  cases q : K.lookup a with
  | none => exact .inl (.inr ⟨ob, if_pos ⟨rfl, q⟩⟩)
  | some o =>
    have := e o q
    subst this
    exact .inr ⟨_, vs.toArray, _, q, rfl, rfl, rfl, by rw [List.size_toArray]; exact hl, by simpa using r⟩
theorem scrH_ok {vs : List Value} (e : h.get? a = some { cls := .type "list", data := .seq vs.toArray }) (r : Vals xs vs) (hl : xs.length ≤ sizeLine) : HOk P w (scrH K a { cls := .type "list", data := .seq vs.toArray } xs) h := fun b u q => by
  obtain ⟨rfl, _, rfl⟩ := scrH_some q
  exact ⟨e, hl, vs, _, r, e⟩
end
section
variable {P : Program} {w : World} {K : PySem.W.Frag} {mg mb : Str → Option Value} {k : Nat} {fa a : Addr} {fd : FuncData} {x : Str} {ct : Ct} {s1 : Shared} {vs : List Value} {ns : List Int}
theorem Vals.len : ∀ {us : List V} {ws : List Value}, Vals us ws → us.length = ws.length
  | _, _, .nil => rfl
  | _, _, .cons _ t => by rw [List.length_cons, List.length_cons, Vals.len t]
/-- the law's promise, at the caller behind the top -/
theorem at_top (kin : K.In s1.heap) (gl : s1.heap.Ns mainGlobals mg) (bl : s1.heap.Ns builtinsNs mb) (bb : ∀ x : Str, x ≠ "__name__" → mb x = bootBuiltins x) (nl : s1.heap.NoLimit) (gs : s1.gens = #[])
    (ob : s1.heap.get? a = some { cls := .type "list", data := .seq vs.toArray }) (is : IntsAre vs ns) (ln : ns.length ≤ sizeLine) (rm : Room k callerA)
    (G : ∀ base : Heap, K.In base → base.Ns mainGlobals mg → FnG P w K mg base k fa fd [x] (spOf K mg 1 ct)) (bi : ∀ (s : Shared) (u : Value), BindsTo s fd ⟨[u], []⟩ [(x, u)]) (c : ct [.scr ns] (.ok (.bl true))) :
    codeAny (model P w) callerA (.call (.ref fa) ⟨[.ref a], []⟩) (fun r s2 => r = .ok (.ret (.bool true)) ∧ OldK s1.heap s2.heap ∧ s2.os = s1.os ∧ AllBare s2.gens) s1 := by
  have rv : Vals (ns.map V.int) vs := vals_ints is
  have lv : vs.length ≤ sizeLine := by rw [← Vals.len rv, List.length_map]; exact ln
  have hs : SqL K (scrH K a { cls := .type "list", data := .seq vs.toArray } (ns.map V.int)) a (ns.map V.int) := scrH_seq (fun o q => by
    have := kin _ _ q
    rw [ob] at this
    exact (Option.some.inj this).symm) rv lv
  have ok : HOk P w (scrH K a { cls := .type "list", data := .seq vs.toArray } (ns.map V.int)) s1.heap := scrH_ok ob rv (by rw [List.length_map]; exact ln)
  have ends : ∀ b o, (scrH K a { cls := .type "list", data := .seq vs.toArray } (ns.map V.int)) b = some o → b = a ∧ K.lookup a = none ∧ o = .frz { cls := .type "list", data := .seq vs.toArray } (.lst (ns.map V.int)) := fun b o q => scrH_some q
  have held : ∀ b o, K.lookup b = some o → (scrH K a { cls := .type "list", data := .seq vs.toArray } (ns.map V.int)) b = none := fun b o q => scrH_held q
  generalize scrH K a { cls := .type "list", data := .seq vs.toArray } (ns.map V.int) = H at hs ok ends held
  have dictN : ∀ (b : Addr) (o : Obj) es n, s1.heap.get? b = some o → o.data = .dict es n → H b = none := fun b o es n q dq => by
    cases z : H b with
    | none => rfl
    | some u =>
      rw [(ends b u z).1, ob] at q
      cases q
      exact nomatch (show Data.seq vs.toArray _ = Data.dict es n from dq)
  have nsOf : ∀ (b : Addr) (m : Str → Option Value), s1.heap.Ns b m → (hidT s1.heap H).Ns b m := fun b m z => by
    obtain ⟨o, es, n, q, dq, rest⟩ := z
    exact ⟨o, es, n, hidT_get q (dictN b o es n q dq), dq, rest⟩
  have kin2 : K.In (hidT s1.heap H) := fun b o q => hidT_get (kin b o q) (held b o q)
  have nl2 : (hidT s1.heap H).NoLimit := by
    obtain ⟨m, z1, z2⟩ := nl
    exact ⟨m, nsOf _ _ z1, z2⟩
  have env : Env0 P w K mg (hidT s1.heap H) callerA [] s1 H := by
    refine ⟨rfl, ⟨kin2, nsOf _ _ gl, ⟨mb, nsOf _ _ bl, bb⟩, nl2⟩, fun b o q => of_hidT q, ?_, True.intro, fun b q => ?_, ok, .of_eq gs⟩
    · rw [hidT_size]; exact Nat.le_refl _
    · exact nomatch (show b ∈ ([] : List Addr) from q)
  have sp : spOf K mg 1 ct [V.ref a] H (fun v _ => v = .bl true) fun _ _ _ => False := ⟨H, [.scr ns], _, fun _ _ q => q, .cons (.scr hs) .nil, rfl, c, fun v F2 H2 _ r2 => by cases r2; rfl⟩
  have run := (G _ kin2 (nsOf _ _ gl)).run callerA [] s1 H ⟨[.ref a], []⟩ [.ref a] [.ref a] _ _ rfl rm env (bi s1 (.ref a)) (.cons rfl .nil) sp
  refine codeAny_mono run fun r s2 z => ?_
  match r, z with
  | .error e, ⟨_, _, _, _, _, _, _, _, _, _, _, _, f⟩ => exact f.elim
  | .ok (.ret u), ⟨v, H2, os2, bare2, un2, ok2, rel2, val2⟩ =>
    subst val2
    have hu : u = Value.bool true := rel2
    subst hu
    refine ⟨rfl, OldK.of_keep fun b o q => ?_, os2, bare2⟩
    cases z : H b with
    | none => exact un2.keep b o q z (fun y => nomatch (show b ∈ ([] : List Addr) from y)) (fun y => nomatch y)
    | some t =>
      obtain ⟨_, _, rfl⟩ := ends b t z
      obtain ⟨q1, _⟩ := ok b _ z
      obtain ⟨q2, _⟩ := ok2 b _ (un2.frzs b _ _ z)
      rw [q1] at q
      cases q
      exact q2
theorem walk_end {l : PySem.W.OpenLaw} {n : Nat} {q : Program} {loose : List Str} {XP : (Str → Option Value) → Heap → Prop} {YP : World → Heap → Prop} {d : DefRec} {K : Params → PySem.W.Frag}
    (hn : l.most = some n) (hn2 : n ≤ sizeLine) (hdf : d.params.defaults = []) (rm : Room k callerA) (hY : ∀ (w : World) (h : Heap), YP w h → (K w.params).In h)
    (hF : ∀ (w : World) (mg : Str → Option Value) (fa : Addr) (h : Heap), (K w.params).In h → h.Ns mainGlobals mg → mg d.name = some (.ref fa) →
      ∃ fd : FuncData, (∀ (s : Shared) (u : Value), BindsTo s fd ⟨[u], []⟩ [(x, u)]) ∧ ∀ base : Heap, (K w.params).In base → base.Ns mainGlobals mg → FnG l.prog w (K w.params) mg base k fa fd [x] (spOf (K w.params) mg 1 ct))
    (c : ∀ ns : List Int, ns.length ≤ n → (∀ z ∈ ns, Builtin.Int.intBits z ≤ 1048576) → ct [.scr ns] (.ok (.bl true))) : PySem.W.WalkO q loose XP YP l.row.toRowW d [] (fun f vs => PySem.call f vs) := by
  refine Att.attach_callB hn hdf fun w s0 s1 mg mb fa o pm cd doc a vs ns G Y _ _ _ mgf hob hin hlen bits gs => ?_
  obtain ⟨fd, b1, f1⟩ := hF w mg fa _ (hY w _ Y) G.T.g mgf
  exact at_top (hY w _ Y) G.T.g G.T.b G.T.builtins G.T.nolimit gs hob hin (Nat.le_trans hlen hn2) rm f1 b1 (c ns hlen bits)
end
/-! ## what the module's top has left -/
section
variable {K : PySem.W.Frag} {h : Heap} {mg : Str → Option Value}
/-- a constant: a tuple -/
theorem gl_tup {x : Str} {a : Addr} {dd : Option Addr} {its : Array Value} {n : Nat} {sl : Array (Option Value)} {ds : List D} {us : List V} (m : mg x = some (.ref a)) (l : K.lookup a = some ⟨.type "tuple", dd, .seq its n, sl⟩) (hz : its.size ≤ sizeLine) (r : Vals us its.toList) (hr : ∀ H, RpA K mg H us ds) : GlD K mg x (.tup ds) :=
  ⟨.ref a, .ref a, m, rfl, fun H => .tup (.inr ⟨_, its, n, l, rfl, rfl, hz, r⟩) (hr H)⟩
theorem gl_int {x : Str} {i : Int} {t : Nat} (m : mg x = some (.int i t)) : GlD K mg x (.int i) := ⟨.int i, .int i t, m, ⟨t, rfl⟩, fun H => .int i⟩
theorem py_of (X : K.In h) (G : h.Ns mainGlobals mg) (z : ∀ s ∈ (["abs", "all", "any", "bool", "dict", "divmod", "enumerate", "int", "isinstance", "len", "list", "max", "min", "range", "repr", "sorted", "str", "sum", "tuple", "type", "zip", "ValueError"] : List Str), PySem.W.nsIn K mainGlobals s = some none) : Py mg := by
  have f : ∀ s ∈ (["abs", "all", "any", "bool", "dict", "divmod", "enumerate", "int", "isinstance", "len", "list", "max", "min", "range", "repr", "sorted", "str", "sum", "tuple", "type", "zip", "ValueError"] : List Str), mg s = none := fun s hs => PySem.W.mg_none_of X G (z s hs)
  constructor <;> exact f _ (by decide)
end
end DL

namespace DL
open PySem PySem.Spec PyProof.Rows L2 Evl
/-! ## sum, max, min of tuples of ints -/
section
variable {prog : Program} {w : World} {A : Around} {E : Value → Shared → Prop} {s : Shared} {t : Addr} {its : List Value} {ns : List Int} {Q : Value → Shared → Prop}
theorem sumT_raw (hh : A.handled = none) (ht : s.heap.IsTuple t its.toArray) (hi : IntsAre its ns)
    (h : ∀ h' tk u, (∀ b o, s.heap.get? b = some o → h'.get? b = some o) → Q (.int ns.sum u) { s with heap := h', toks := tk }) : wpAny (model prog w) A (call (.builtin "sum") [.ref t]) Q E s := by
  obtain ⟨zs, e⟩ := hi.allInts.items
  have en : numsOf (intItems zs).toList = ns := e ▸ hi.numsOf
  rw [nums_intItems] at en
  rw [e] at ht
  refine PySem.W.ktm_sumG hh ht fun h' tk u hk => ?_
  have g := h h' tk u hk
  rwa [preSum_eq, List.take_of_length_le (by simp), en]
theorem maxT_raw (hh : A.handled = none) (ht : s.heap.IsTuple t its.toArray) (hi : IntsAre its ns) (hne : 0 < ns.length)
    (h : ∀ h' tk M u, (∀ b o, s.heap.get? b = some o → h'.get? b = some o) → M ∈ ns → (∀ a, a ∈ ns → a ≤ M) → Q (.int M u) { s with heap := h', toks := tk }) : wpAny (model prog w) A (call (.builtin "max") [.ref t]) Q E s := by
  obtain ⟨xs, e⟩ := hi.allInts.items
  have en : numsOf (intItems xs).toList = ns := e ▸ hi.numsOf
  rw [nums_intItems] at en
  subst en
  rw [e] at ht
  have sz : 0 < xs.size := by simpa using hne
  obtain ⟨o, ho, hc, n, hd⟩ := id ht
  have lt := Heap.lt_size ho
  refine call_max_walk (wpAny_pyIter_tuple ht ?_)
  refine ⟨s.heap.objs.size, _, _, _, _, _, _, rfl, Walks.tuple (A := A.in1) hh s.heap.objs.size t (Nat.ne_of_lt lt) (intItems xs), ⟨⟨_, Heap.get?_push_size _ rfl, rfl, rfl⟩, ht.at fun o e => Heap.get?_push_of_some _ e⟩, fun b hb => ?_, by simpa [intItems] using sz, CmpOf.ints_gt (numAt xs) (fun _ _ => intItems_at), fun v h' tk hP hk => ?_⟩
  · rcases List.mem_cons.mp hb with rfl | hb
    · exact Heap.lt_size (Heap.get?_push_size _ rfl)
    · rw [List.mem_singleton.mp hb]
      exact Heap.lt_size (Heap.get?_push_of_some _ ho)
  · have hP' : (intItems xs)[argBest (fun i j => decide (numAt xs i > numAt xs j)) (xs.size - 1)]? = some v := by simpa [intItems] using hP
    obtain ⟨u, rfl⟩ := intItems_at hP'
    obtain ⟨h1, h2⟩ := argBest_gt (numAt xs) (xs.size - 1)
    refine h h' tk _ u (fun b o q => ?_) ?_ fun a ha => ?_
    · have bl := Heap.lt_size q
      exact hk b o (fun hb => absurd bl (by rw [List.mem_singleton.mp hb]; exact Nat.lt_irrefl _)) (Heap.get?_push_of_some _ q)
    · rw [numAt_eq]; exact PySem.getD_mem (by rw [List.length_map, Array.length_toList]; omega)
    · obtain ⟨j, hj, rfl⟩ := mem_getD ha
      have hj2 : j < xs.size := by simpa using hj
      rw [← numAt_eq]; exact h2 j (Nat.le_sub_one_of_lt hj2)
theorem minT_raw (hh : A.handled = none) (ht : s.heap.IsTuple t its.toArray) (hi : IntsAre its ns) (hne : 0 < ns.length)
    (h : ∀ h' tk M u, (∀ b o, s.heap.get? b = some o → h'.get? b = some o) → M ∈ ns → (∀ a, a ∈ ns → M ≤ a) → Q (.int M u) { s with heap := h', toks := tk }) : wpAny (model prog w) A (call (.builtin "min") [.ref t]) Q E s := by
  obtain ⟨xs, e⟩ := hi.allInts.items
  have en : numsOf (intItems xs).toList = ns := e ▸ hi.numsOf
  rw [nums_intItems] at en
  subst en
  rw [e] at ht
  have sz : 0 < xs.size := by simpa using hne
  obtain ⟨o, ho, hc, n, hd⟩ := id ht
  have lt := Heap.lt_size ho
  refine call_min_walk (wpAny_pyIter_tuple ht ?_)
  refine ⟨s.heap.objs.size, _, _, _, _, _, _, rfl, Walks.tuple (A := A.in1) hh s.heap.objs.size t (Nat.ne_of_lt lt) (intItems xs), ⟨⟨_, Heap.get?_push_size _ rfl, rfl, rfl⟩, ht.at fun o e => Heap.get?_push_of_some _ e⟩, fun b hb => ?_, by simpa [intItems] using sz, CmpOf.ints_lt (numAt xs) (fun _ _ => intItems_at), fun v h' tk hP hk => ?_⟩
  · rcases List.mem_cons.mp hb with rfl | hb
    · exact Heap.lt_size (Heap.get?_push_size _ rfl)
    · rw [List.mem_singleton.mp hb]
      exact Heap.lt_size (Heap.get?_push_of_some _ ho)
  · have hP' : (intItems xs)[argBest (fun i j => decide (numAt xs i < numAt xs j)) (xs.size - 1)]? = some v := by simpa [intItems] using hP
    obtain ⟨u, rfl⟩ := intItems_at hP'
    obtain ⟨h1, h2⟩ := argBest_lt (numAt xs) (xs.size - 1)
    refine h h' tk _ u (fun b o q => ?_) ?_ fun a ha => ?_
    · have bl := Heap.lt_size q
      exact hk b o (fun hb => absurd bl (by rw [List.mem_singleton.mp hb]; exact Nat.lt_irrefl _)) (Heap.get?_push_of_some _ q)
    · rw [numAt_eq]; exact PySem.getD_mem (by rw [List.length_map, Array.length_toList]; omega)
    · obtain ⟨j, hj, rfl⟩ := mem_getD ha
      have hj2 : j < xs.size := by simpa using hj
      rw [← numAt_eq]; exact h2 j (Nat.le_sub_one_of_lt hj2)
end
section
variable {X : Cx}
/-- of a list or a tuple of ints -/
def SeqI (K : PySem.W.Frag) (H : Hp) (a : Addr) (ns : List Int) : Prop := SqL K H a (ns.map V.int) ∨ SqT K H a (ns.map V.int)
theorem cr_sumQ (hc : X.calm = true) : CallR X (.builtin "sum") (fun vs H Q => ∃ (a : Addr) (ns : List Int), vs = [V.ref a] ∧ SeqI X.K H a ns ∧ Q (.int ns.sum) H) := by
  intro pins s σ H vs us Q I r ⟨a, ns, e, hs, q⟩
  subst e
  rw [Vals.ref1 r]
  rcases hs with hs | hs
  · obtain ⟨its, rv, hl, _⟩ := I.list hs
    exact sum_raw (I.ok.hd hc) hl.isList rv.ints fun h' tk u hk => ⟨.int _, H, I.kept hk, ⟨_, rfl⟩, q⟩
  · obtain ⟨its, rv, hl, _⟩ := I.tuple hs
    exact sumT_raw (I.ok.hd hc) hl rv.ints fun h' tk u hk => ⟨.int _, H, I.kept hk, ⟨_, rfl⟩, q⟩
theorem cr_maxQ (hc : X.calm = true) : CallR X (.builtin "max") (fun vs H Q => ∃ (a : Addr) (ns : List Int) (m : Int), vs = [V.ref a] ∧ SeqI X.K H a ns ∧ m ∈ ns ∧ (∀ y ∈ ns, y ≤ m) ∧ Q (.int m) H) := by
  intro pins s σ H vs us Q I r ⟨a, ns, m, e, hs, hm, hy, q⟩
  subst e
  rw [Vals.ref1 r]
  have hne : 0 < ns.length := List.length_pos_of_mem hm
  rcases hs with hs | hs
  · obtain ⟨its, rv, hl, _⟩ := I.list hs
    exact max_raw (I.ok.hd hc) hl.isList rv.ints hne fun h' tk M u hk h1 h2 => ⟨.int _, H, I.kept hk, ⟨_, rfl⟩, by rw [show M = m from Int.le_antisymm (hy M h1) (h2 m hm)]; exact q⟩
  · obtain ⟨its, rv, hl, _⟩ := I.tuple hs
    exact maxT_raw (I.ok.hd hc) hl rv.ints hne fun h' tk M u hk h1 h2 => ⟨.int _, H, I.kept hk, ⟨_, rfl⟩, by rw [show M = m from Int.le_antisymm (hy M h1) (h2 m hm)]; exact q⟩
theorem cr_minQ (hc : X.calm = true) : CallR X (.builtin "min") (fun vs H Q => ∃ (a : Addr) (ns : List Int) (m : Int), vs = [V.ref a] ∧ SeqI X.K H a ns ∧ m ∈ ns ∧ (∀ y ∈ ns, m ≤ y) ∧ Q (.int m) H) := by
  intro pins s σ H vs us Q I r ⟨a, ns, m, e, hs, hm, hy, q⟩
  subst e
  rw [Vals.ref1 r]
  have hne : 0 < ns.length := List.length_pos_of_mem hm
  rcases hs with hs | hs
  · obtain ⟨its, rv, hl, _⟩ := I.list hs
    exact min_raw (I.ok.hd hc) hl.isList rv.ints hne fun h' tk M u hk h1 h2 => ⟨.int _, H, I.kept hk, ⟨_, rfl⟩, by rw [show M = m from Int.le_antisymm (h2 m hm) (hy M h1)]; exact q⟩
  · obtain ⟨its, rv, hl, _⟩ := I.tuple hs
    exact minT_raw (I.ok.hd hc) hl rv.ints hne fun h' tk M u hk h1 h2 => ⟨.int _, H, I.kept hk, ⟨_, rfl⟩, by rw [show M = m from Int.le_antisymm (h2 m hm) (hy M h1)]; exact q⟩
end
section
variable {X : Cx} {W : WX} {e a b c : Expr} {es : List Expr} {ρ : Rho} {N : List Str} {sc : Scope} {k n : Nat} {pos p0 : Pos} {x y z : D} {F F' H H' : Hp} {ns : List Int} {m : Int}
theorem Rp.seqI {K : PySem.W.Frag} {mg : Str → Option Value} {v : V} (r : Rp K mg F v x) (hx : seqD x = some (ns.map D.int)) (e : Ex F H) : ∃ a, v = .ref a ∧ SeqI K H a ns := by
  cases x <;> simp [seqD] at hx
  · subst hx
    cases r with
    | tup h1 h2 => rw [h2.ints] at h1; exact ⟨_, rfl, .inr (ex_t e h1)⟩
  · subst hx
    cases r with
    | lst h1 h2 => rw [h2.ints] at h1; exact ⟨_, rfl, .inl (SqL.of (e _ _ h1))⟩
theorem de_sumQ (B : Bd X N sc k W) (hm : X.mg "sum" = none) (ha : DE X W a ρ (.ok x)) (hx : seqD x = some (ns.map D.int)) (hg : sc.names.lookup ("sum" : Str) = some .globalImplicit := by rfl) (hs : starEach [a] X.env = (false, eval a X.env) :: starEach [] X.env := by rfl) :
    DE X W (.Call (.Name "sum" p0) [a] [] pos) ρ (.ok (.int ns.sum)) :=
  de_callB B.toBx (cr_sumQ B.calm) hm (by decide +kernel) (da_cons ha da_nil hs) (fun F H vs Q e r q => by
    cases r with | cons r1 r2 => cases r2; obtain ⟨a, rfl, h⟩ := r1.seqI hx e; exact ⟨a, ns, rfl, h, q _ F H (Stp.refl e) (.int _)⟩) hg (he := hs)
theorem de_maxQ (B : Bd X N sc k W) (hm : X.mg "max" = none) (ha : DE X W a ρ (.ok x)) (hx : seqD x = some (ns.map D.int)) (h1 : m ∈ ns) (h2 : ∀ y ∈ ns, y ≤ m) (hg : sc.names.lookup ("max" : Str) = some .globalImplicit := by rfl) (hs : starEach [a] X.env = (false, eval a X.env) :: starEach [] X.env := by rfl) :
    DE X W (.Call (.Name "max" p0) [a] [] pos) ρ (.ok (.int m)) :=
  de_callB B.toBx (cr_maxQ B.calm) hm (by decide +kernel) (da_cons ha da_nil hs) (fun F H vs Q e r q => by
    cases r with | cons r1 r2 => cases r2; obtain ⟨a, rfl, h⟩ := r1.seqI hx e; exact ⟨a, ns, m, rfl, h, h1, h2, q _ F H (Stp.refl e) (.int _)⟩) hg (he := hs)
theorem de_minQ (B : Bd X N sc k W) (hm : X.mg "min" = none) (ha : DE X W a ρ (.ok x)) (hx : seqD x = some (ns.map D.int)) (h1 : m ∈ ns) (h2 : ∀ y ∈ ns, m ≤ y) (hg : sc.names.lookup ("min" : Str) = some .globalImplicit := by rfl) (hs : starEach [a] X.env = (false, eval a X.env) :: starEach [] X.env := by rfl) :
    DE X W (.Call (.Name "min" p0) [a] [] pos) ρ (.ok (.int m)) :=
  de_callB B.toBx (cr_minQ B.calm) hm (by decide +kernel) (da_cons ha da_nil hs) (fun F H vs Q e r q => by
    cases r with | cons r1 r2 => cases r2; obtain ⟨a, rfl, h⟩ := r1.seqI hx e; exact ⟨a, ns, m, rfl, h, h1, h2, q _ F H (Stp.refl e) (.int _)⟩) hg (he := hs)
end
end DL

open PySem PySem.Spec PyProof.Rows L2 Evl DL
local macro_rules | `(tactic| walk_at "le") => `(tactic| (repeat' first | exact DL.Le.nil | apply DL.Le.same | apply DL.Le.any))
namespace Law
def top (i : Nat) : Stmt := PySem.Challenge.pw_fourtouch_k15_curvatures_at_words.main.body.getD i (.Pass ⟨0, 0, 0, 0⟩)
abbrev s_check_word : Stmt := top 6
abbrev N_check_word : List Str := ["word", "letter"]
theorem sc_check_word : FnScope N_check_word ["word"] (defScope s_check_word) := ⟨rfl, rfl, rfl, by decide +kernel, rfl, by decide +kernel, by decide +kernel⟩
abbrev s_is_quadruple : Stmt := top 8
abbrev N_is_quadruple : List Str := ["curvatures", "total", "number"]
theorem sc_is_quadruple : FnScope N_is_quadruple ["curvatures"] (defScope s_is_quadruple) := ⟨rfl, rfl, rfl, by decide +kernel, rfl, by decide +kernel, by decide +kernel⟩
abbrev s_check_quadruple : Stmt := top 9
abbrev N_check_quadruple : List Str := ["curvatures"]
theorem sc_check_quadruple : FnScope N_check_quadruple ["curvatures"] (defScope s_check_quadruple) := ⟨rfl, rfl, rfl, by decide +kernel, rfl, by decide +kernel, by decide +kernel⟩
abbrev s_other_curvature : Stmt := top 10
abbrev N_other_curvature : List Str := ["curvatures", "number"]
theorem sc_other_curvature : FnScope N_other_curvature ["curvatures", "number"] (defScope s_other_curvature) := ⟨rfl, rfl, rfl, by decide +kernel, rfl, by decide +kernel, by decide +kernel⟩
abbrev s_exchange : Stmt := top 11
abbrev N_exchange : List Str := ["curvatures", "number", "changed"]
theorem sc_exchange : FnScope N_exchange ["curvatures", "number"] (defScope s_exchange) := ⟨rfl, rfl, rfl, by decide +kernel, rfl, by decide +kernel, by decide +kernel⟩
abbrev s_curvatures_along : Stmt := top 12
abbrev N_curvatures_along : List Str := ["curvatures", "word", "found", "letter"]
theorem sc_curvatures_along : FnScope N_curvatures_along ["curvatures", "word"] (defScope s_curvatures_along) := ⟨rfl, rfl, rfl, by decide +kernel, rfl, by decide +kernel, by decide +kernel⟩
abbrev s_curvatures_at : Stmt := top 13
abbrev N_curvatures_at : List Str := ["curvatures", "word"]
theorem sc_curvatures_at : FnScope N_curvatures_at ["curvatures", "word"] (defScope s_curvatures_at) := ⟨rfl, rfl, rfl, by decide +kernel, rfl, by decide +kernel, by decide +kernel⟩
abbrev s__law_row : Stmt := top 15
abbrev N__law_row : List Str := ["_law_cell", "_law_many", "_law_row_here", "_law_rest", "_law_mixed", "_law_k"]
theorem sc__law_row : FnScope N__law_row ["_law_cell", "_law_many"] (defScope s__law_row) := ⟨rfl, rfl, rfl, by decide +kernel, rfl, by decide +kernel, by decide +kernel⟩
abbrev s__law_numbers : Stmt := top 16
abbrev N__law_numbers : List Str := ["_law_script", "_law_many", "_law_cells", "_law_each", "_law_numbers_here", "_law_cell", "_law_number"]
theorem sc__law_numbers : FnScope N__law_numbers ["_law_script", "_law_many"] (defScope s__law_numbers) := ⟨rfl, rfl, rfl, by decide +kernel, rfl, by decide +kernel, by decide +kernel⟩
abbrev s__law_word : Stmt := top 17
abbrev N__law_word : List Str := ["_law_numbers_here", "_law_at", "_law_many", "_law_k"]
theorem sc__law_word : FnScope N__law_word ["_law_numbers_here", "_law_at", "_law_many"] (defScope s__law_word) := ⟨rfl, rfl, rfl, by decide +kernel, rfl, by decide +kernel, by decide +kernel⟩
abbrev s__law_reduced : Stmt := top 18
abbrev N__law_reduced : List Str := ["_law_word_here", "_law_found", "_law_turn", "_law_k"]
theorem sc__law_reduced : FnScope N__law_reduced ["_law_word_here"] (defScope s__law_reduced) := ⟨rfl, rfl, rfl, by decide +kernel, rfl, by decide +kernel, by decide +kernel⟩
abbrev s__law_exchange : Stmt := top 19
abbrev N__law_exchange : List Str := ["_law_four", "_law_letter", "_law_total", "_law_changed"]
theorem sc__law_exchange : FnScope N__law_exchange ["_law_four", "_law_letter"] (defScope s__law_exchange) := ⟨rfl, rfl, rfl, by decide +kernel, rfl, by decide +kernel, by decide +kernel⟩
abbrev s__law_quadruple : Stmt := top 20
abbrev N__law_quadruple : List Str := ["_law_numbers_here", "_law_at", "_law_roots", "_law_number", "_law_root", "_law_k", "_law_factor", "_law_turn", "_law_four"]
theorem sc__law_quadruple : FnScope N__law_quadruple ["_law_numbers_here", "_law_at"] (defScope s__law_quadruple) := ⟨rfl, rfl, rfl, by decide +kernel, rfl, by decide +kernel, by decide +kernel⟩
abbrev s__law_fits : Stmt := top 21
abbrev N__law_fits : List Str := ["_law_four", "_law_total", "_law_squares", "_law_number"]
theorem sc__law_fits : FnScope N__law_fits ["_law_four"] (defScope s__law_fits) := ⟨rfl, rfl, rfl, by decide +kernel, rfl, by decide +kernel, by decide +kernel⟩
abbrev s_law : Stmt := top 22
abbrev N_law : List Str := ["_law_script", "_law_numbers_here", "_law_four", "_law_word_here", "_law_rows", "_law_letter", "_law_place", "_law_others", "_law_other", "_law_told", "_law_k", "_law_number"]
theorem sc_law : FnScope N_law ["_law_script"] (defScope s_law) := ⟨rfl, rfl, rfl, by decide +kernel, rfl, by decide +kernel, by decide +kernel⟩
end Law

namespace Law
/-! ### the drawn numbers -/
def ab (i : Int) : Int := if i < 0 then -i else i
def mixS (m : Int) (k : Nat) : Int := (m * 16807 + 271 * ((0 + (k : Int)) + 3)) % 2147483629
def rowStep (cell : Int) (s : Int × Int × List Int) (k : Nat) : Int × Int × List Int :=
  bif decide ((10 : Int) ^ (18 : Int).toNat ≤ ab cell) then (s.1 / 1009, mixS s.2.1 k, s.2.2 ++ [s.1 % 1009]) else (s.1, mixS s.2.1 k, s.2.2 ++ [mixS s.2.1 k / 7 % 1009])
def rowF (cell many : Int) : List Int := ((List.range many.toNat).foldl (rowStep cell) (ab cell, (ab cell * 48271 + 69621) % 2147483647, [])).2.2
abbrev k__law_row : Nat := 1
def ct__law_row : Ct := fun ds r => ∃ cell many : Int, ds = [.int cell, .int many] ∧ 0 ≤ many ∧ many ≤ 100000 ∧ r = .ok (.lst ((rowF cell many).map D.int))
theorem sz5 {n : Nat} (h : n ≤ 100000) : n < sizeLine := Nat.lt_of_le_of_lt h (by decide)
theorem rowStep_app (cell : Int) (s : Int × Int × List Int) (k : Nat) : ∃ z, 0 ≤ z ∧ z < 1009 ∧ (rowStep cell s k).2.2 = s.2.2 ++ [z] := by
  unfold rowStep
  cases decide ((10 : Int) ^ (18 : Int).toNat ≤ ab cell) with
  | true => exact ⟨_, Int.emod_nonneg _ (by decide), Int.emod_lt_of_pos _ (by decide), rfl⟩
  | false => exact ⟨_, Int.emod_nonneg _ (by decide), Int.emod_lt_of_pos _ (by decide), rfl⟩
theorem rowF_len (cell many : Int) : (rowF cell many).length = many.toNat ∧ ∀ z ∈ rowF cell many, 0 ≤ z ∧ z < 1009 := by
  have key : ∀ (l : List Nat) (s : Int × Int × List Int), (l.foldl (rowStep cell) s).2.2.length = s.2.2.length + l.length ∧ ((∀ z ∈ s.2.2, 0 ≤ z ∧ z < 1009) → ∀ z ∈ (l.foldl (rowStep cell) s).2.2, 0 ≤ z ∧ z < 1009) := by
    intro l
    induction l with
    | nil => intro s; exact ⟨by simp, fun h => h⟩
    | cons k l ih =>
      intro s
      obtain ⟨h1, h2⟩ := ih (rowStep cell s k)
      obtain ⟨z, z0, z1, ez⟩ := rowStep_app cell s k
      refine ⟨by rw [List.foldl_cons, h1, ez, List.length_cons, List.length_append]; simp; omega, fun h => h2 fun y hy => ?_⟩
      rw [ez] at hy
      simp only [List.mem_append, List.mem_singleton] at hy
      rcases hy with hy | hy
      · exact h y hy
      · subst hy; exact ⟨z0, z1⟩
  unfold rowF
  obtain ⟨h1, h2⟩ := key (List.range many.toNat) (ab cell, (ab cell * 48271 + 69621) % 2147483647, [])
  exact ⟨by rw [h1]; simp, h2 (by simp)⟩
theorem b__law_row {X : Cx} {W : WX} {k : Nat} (B : Bg X N__law_row (defScope s__law_row) k W) (py : Py X.mg) : BodyOk X N__law_row (defScope s__law_row) k W (defBody s__law_row) 2 ct__law_row := by
  intro ds r hl hc
  obtain ⟨cell, many, rfl, h0, hm, rfl⟩ := hc
  refine dk_done ?_
  -- _law_row_here = []
  refine dk_cons (ds_own B.toBx 2 (df_lst da_nil)) ?_
  -- _law_rest = abs(_law_cell)
  refine dk_cons (ds_set B.toBx 3 (de_abs B.toBx py.abs (de_var B.toBx 0))) ?_
  -- _law_mixed = int(_law_rest * 48271 + 69621) % 2147483647
  refine dk_cons (ds_set B.toBx 4 (de_mod (de_int1 B.toBx py.int (de_add (de_mul (de_var B.toBx 3) de_int (mulR (by decide))) de_int)) de_int (by decide))) ?_
  -- for _law_k in range(_law_many):
  refine dk_cons (ds_for B.toBd (di_range1 B.toBx py.range (de_var B.toBx 1) ⟨by omega, by omega⟩) (DFor.foldP (fun s : Int × Int × List Int => [Sl.val (.int cell), .val (.int many), .own (s.2.2.map D.int), .val (.int s.1), .val (.int s.2.1), .any])
    (fun i : Nat => D.int (0 + (i : Int))) (rowStep cell) (fun pre s => s.2.2.length = pre.length) (List.range many.toNat) [] (ab cell, (ab cell * 48271 + 69621) % 2147483647, []) rfl ?_).1) ?_
  · intro pre k post s hp hs
    have hlen : pre.length < many.toNat := by
      have := congrArg List.length hp
      simp at this; omega
    obtain ⟨z, z0, z1, ez⟩ := rowStep_app cell s k
    refine ⟨⟨_, _, dg_name B.toBx 5, ?_⟩, by rw [ez]; simp [hs]⟩
    -- _law_mixed = int(_law_mixed * 16807 + 271 * (_law_k + 3)) % 2147483629
    refine dk_cons (ds_set B.toBx 4 (de_mod (de_int1 B.toBx py.int (de_add (de_mul (de_var B.toBx 4) de_int (mulR (by decide))) (de_mul de_int (de_add (de_var B.toBx 5) de_int) (mulL (by decide))))) de_int (by decide))) ?_
    -- if abs(_law_cell) >= 10 ** 18:
    refine dk_if (dt_ge (de_abs B.toBx py.abs (de_var B.toBx 0)) (de_pow de_int de_int ⟨by decide, by decide, by decide⟩)) (fun h1 => ?_) (fun h1 => ?_)
    · -- _law_row_here.append(int(_law_rest) % 1009)
      refine dk_cons (ds_app B.toBx 2 (de_mod (de_int1 B.toBx py.int (de_var B.toBx 3)) de_int (by decide)) rfl (by rw [List.length_map, hs]; exact sz5 (by omega))) ?_
      -- _law_rest = _law_rest // 1009
      refine dk_cons (ds_set B.toBx 3 (de_fdiv (de_var B.toBx 3) de_int (divW (by decide)))) ?_
      refine dk_nil (dk_nil (dk_fin (goes_nx ?_)))
      have e : rowStep cell s k = (s.1 / 1009, mixS s.2.1 k, s.2.2 ++ [s.1 % 1009]) := by unfold rowStep; rw [show decide ((10 : Int) ^ (18 : Int).toNat ≤ ab cell) = true from h1]; rfl
      rw [e]
      simp only [List.map_append, List.map_cons, List.map_nil]
      walk_at "le"
    · -- _law_row_here.append(int(_law_mixed // 7) % 1009)
      refine dk_cons (ds_app B.toBx 2 (de_mod (de_int1 B.toBx py.int (de_fdiv (de_var B.toBx 4) de_int (divW (by decide)))) de_int (by decide)) rfl (by rw [List.length_map, hs]; exact sz5 (by omega))) ?_
      refine dk_nil (dk_nil (dk_fin (goes_nx ?_)))
      have e : rowStep cell s k = (s.1, mixS s.2.1 k, s.2.2 ++ [mixS s.2.1 k / 7 % 1009]) := by unfold rowStep; rw [show decide ((10 : Int) ^ (18 : Int).toNat ≤ ab cell) = false from h1]; rfl
      rw [e]
      simp only [List.map_append, List.map_cons, List.map_nil]
      walk_at "le"
  -- return _law_row_here
  refine dk_freeze 2 rfl ?_
  exact dk_leave (ds_ret (de_var B.toBx 2)) rfl

/-! all of them -/
def eachF (ns : List Int) (many : Int) : Int := 1 + many / (if (((ns.take 63).length : Nat) : Int) > 1 then (((ns.take 63).length : Nat) : Int) else 1)
def rawF (ns : List Int) (many : Int) : List Int := (ns.take 63).foldl (fun acc c => acc ++ rowF c (eachF ns many)) []
def numF (ns : List Int) (many : Int) : List Int := (rawF ns many ++ List.replicate (many.toNat - (rawF ns many).length) 0).take many.toNat
abbrev k__law_numbers : Nat := 2
def ct__law_numbers : Ct := fun ds r => ∃ (ns : List Int) (many : Int), ds = [.scr ns, .int many] ∧ 0 ≤ many ∧ many ≤ 10000 ∧ r = .ok (.lst ((numF ns many).map D.int))
theorem cut63 (ns : List Int) : DL.cutD (ns.map D.int) none (some 63) = (ns.take 63).map D.int := by
  unfold DL.cutD
  rw [HT.sIx_none, List.drop_zero, List.length_map]
  have : HT.sIx ns.length ns.length (some 63) = min 63 ns.length := HT.sIx_nat _ _ 63
  rw [this, Nat.sub_zero, ← List.map_take]
  congr 1
  by_cases h : ns.length ≤ 63
  · rw [Nat.min_eq_right h, List.take_of_length_le h, List.take_of_length_le (Nat.le_refl _)]
  · rw [Nat.min_eq_left (by omega)]
theorem cutTo (zs : List Int) (m : Int) (h0 : 0 ≤ m) : DL.cutD (zs.map D.int) none (some m) = (zs.take m.toNat).map D.int := by
  unfold DL.cutD
  rw [HT.sIx_none, List.drop_zero, List.length_map]
  have : HT.sIx zs.length zs.length (some m) = min m.toNat zs.length := by
    have := HT.sIx_nat zs.length zs.length m.toNat
    rw [Int.toNat_of_nonneg h0] at this
    exact this
  rw [this, Nat.sub_zero, ← List.map_take]
  congr 1
  by_cases h : zs.length ≤ m.toNat
  · rw [Nat.min_eq_right h, List.take_of_length_le h, List.take_of_length_le (Nat.le_refl _)]
  · rw [Nat.min_eq_left (by omega)]
theorem eachF_bd (ns : List Int) (many : Int) (h0 : 0 ≤ many) (h1 : many ≤ 10000) : 0 ≤ eachF ns many ∧ eachF ns many ≤ 10001 := by
  unfold eachF
  have hl : (ns.take 63).length ≤ 63 := by rw [List.length_take]; omega
  generalize (ns.take 63).length = n at hl
  by_cases h : ((n : Nat) : Int) > 1
  · rw [if_pos h]
    have h2 : 0 ≤ many / (n : Int) := Int.ediv_nonneg h0 (by omega)
    have h3 : many / (n : Int) ≤ many := Int.ediv_le_self _ h0
    omega
  · rw [if_neg h]; omega
theorem b__law_numbers {X : Cx} {W : WX} {k : Nat} (B : Bg X N__law_numbers (defScope s__law_numbers) k W) (hk : k__law_row ≤ k) (py : Py X.mg) (c__law_row : Fn X.prog X.w X.K X.mg X.base "_law_row" k__law_row 2 ct__law_row) : BodyOk X N__law_numbers (defScope s__law_numbers) k W (defBody s__law_numbers) 2 ct__law_numbers := by
  intro ds r hl hc
  obtain ⟨ns, many, rfl, h0, h1, rfl⟩ := hc
  have hl63 : (ns.take 63).length ≤ 63 := by rw [List.length_take]; omega
  obtain ⟨he0, he1⟩ := eachF_bd ns many h0 h1
  refine dk_done ?_
  -- _law_cells = _law_script[:63]
  refine dk_cons (ds_set B.toBx 2 ((df_slS (de_var B.toBx 0) do_none (do_some de_int)).of_eq (cut63 ns)).de) ?_
  -- _law_each = 1 + _law_many // max(1, len(_law_cells))
  refine dk_cons (ds_set B.toBx 3 ((de_add de_int (de_fdiv (de_var B.toBx 1) (de_max2 B.toBd py.max de_int (de_len B.toBx py.len (de_var B.toBx 2) rfl)) ?_)).ofD (show _ = D.int (eachF ns many) by rw [List.length_map]; rfl))) ?_
  · rw [List.length_map]
    refine wide_div (b := 10) ?_ ?_ (by decide) (by decide)
    · split <;> omega
    · split <;> omega
  -- _law_numbers_here = []
  refine dk_cons (ds_own B.toBx 4 (df_lst da_nil)) ?_
  -- for _law_cell in _law_cells:
  refine dk_cons (ds_for B.toBd (di_seq (de_var B.toBx 2) rfl) (DFor.foldP (fun acc : List Int => [Sl.val (.scr ns), .val (.int many), .val (.lst ((ns.take 63).map D.int)), .val (.int (eachF ns many)), .own (acc.map D.int), .any, .any])
    D.int (fun acc c => acc ++ rowF c (eachF ns many)) (fun pre acc => acc.length = pre.length * (eachF ns many).toNat) (ns.take 63) [] [] (by simp) ?_).1) ?_
  · intro pre c post acc hp hs
    have hpl : pre.length < 63 := by
      have := congrArg List.length hp
      simp at this; omega
    have hrow := (rowF_len c (eachF ns many)).1
    refine ⟨⟨_, _, dg_name B.toBx 5, ?_⟩, by simp only [List.length_append, hs, hrow, List.length_singleton]; rw [Nat.add_mul, Nat.one_mul]⟩
    have hacc : acc.length ≤ 62 * 10001 := by
      rw [hs]
      exact Nat.mul_le_mul (by omega) (by omega)
    -- for _law_number in _law_row(_law_cell, _law_each):
    refine dk_cons (ds_for B.toBd (di_seq (de_call B c__law_row hk (da_cons (de_var B.toBx 5) (da_cons (de_var B.toBx 3) da_nil)) rfl ⟨c, _, rfl, he0, by omega, rfl⟩) rfl) (DFor.foldP (fun ac : List Int => [Sl.val (.scr ns), .val (.int many), .val (.lst ((ns.take 63).map D.int)), .val (.int (eachF ns many)), .own (ac.map D.int), .val (.int c), .any])
      D.int (fun ac z => ac ++ [z]) (fun pre ac => ac.length = acc.length + pre.length) (rowF c (eachF ns many)) [] acc rfl ?_).1) ?_
    · intro pre2 z post2 ac hp2 hs2
      have hpl2 : pre2.length < (rowF c (eachF ns many)).length := by
        have := congrArg List.length hp2
        simp at this; omega
      refine ⟨⟨_, _, dg_name B.toBx 6, ?_⟩, by simp [hs2]; omega⟩
      -- _law_numbers_here.append(_law_number)
      refine dk_cons (ds_app B.toBx 4 (de_var B.toBx 6) rfl (by rw [List.length_map, hs2]; exact Nat.lt_of_le_of_lt (show _ ≤ 16000000 by omega) (by decide))) ?_
      refine dk_nil (dk_fin (goes_nx ?_))
      simp only [List.map_append, List.map_cons, List.map_nil]
      walk_at "le"
    refine dk_nil (dk_fin (goes_nx ?_))
    have e : ∀ (l acc : List Int), l.foldl (fun ac z => ac ++ [z]) acc = acc ++ l := by
      intro l
      induction l with
      | nil => intro acc; simp
      | cons z l ih => intro acc; rw [List.foldl_cons, ih]; simp
    rw [e]
    walk_at "le"
  -- while len(_law_numbers_here) < _law_many:
  have hraw : (rawF ns many).length ≤ 63 * 10001 := by
    have e : ∀ (l acc : List Int), (l.foldl (fun acc c => acc ++ rowF c (eachF ns many)) acc).length = acc.length + l.length * (eachF ns many).toNat := by
      intro l
      induction l with
      | nil => intro acc; simp
      | cons c l ih => intro acc; rw [List.foldl_cons, ih, List.length_append, (rowF_len c (eachF ns many)).1, List.length_cons, Nat.add_mul, Nat.one_mul]; omega
    unfold rawF
    rw [e]
    have := Nat.mul_le_mul hl63 (show (eachF ns many).toNat ≤ 10001 by omega)
    simp only [List.length_nil]; omega
  refine dk_cons (ds_while B.toBd (DWh.loop (fun acc : List Int => [Sl.val (.scr ns), .val (.int many), .val (.lst ((ns.take 63).map D.int)), .val (.int (eachF ns many)), .own (acc.map D.int), .any, .any])
    (fun acc => acc ++ [0]) (fun acc => acc ++ List.replicate (many.toNat - acc.length) 0) (fun acc => many.toNat - acc.length) (fun acc => acc.length ≤ 63 * 10001 + 10000) ?_ (rawF ns many) (by omega))) ?_
  · intro acc hP
    have tst : ∀ {pos : Pos} {p1 p2 p3 p4 : Pos}, DT X W (.Compare (.Call (.Name "len" p1) [.Name "_law_numbers_here" p2] [] p3) [.Lt] [.Name "_law_many" p4] pos) [Sl.val (.scr ns), .val (.int many), .val (.lst ((ns.take 63).map D.int)), .val (.int (eachF ns many)), .own (acc.map D.int), .any, .any] (.ok (decide (((acc.map D.int).length : Int) < many))) :=
      fun {_ _ _ _ _} => dt_lt (de_lend (i := 4) rfl (de_len B.toBx py.len (de_var B.toBx 4) rfl) rfl) (de_var B.toBx 1)
    by_cases hlt : ((acc.length : Nat) : Int) < many
    · refine .inr ⟨tst.ofB (by rw [List.length_map]; exact decide_eq_true hlt), ?_, by simp; omega, by simp; omega, ?_⟩
      · -- _law_numbers_here.append(0)
        refine dk_cons (ds_app B.toBx 4 de_int rfl (by rw [List.length_map]; exact Nat.lt_of_le_of_lt (show _ ≤ 16000000 by omega) (by decide))) ?_
        refine dk_nil (dk_fin (goes_nx ?_))
        simp only [List.map_append, List.map_cons, List.map_nil]
        walk_at "le"
      · have e : many.toNat - acc.length = (many.toNat - (acc ++ [0]).length) + 1 := by simp; omega
        show acc ++ List.replicate (many.toNat - acc.length) 0 = acc ++ [0] ++ List.replicate (many.toNat - (acc ++ [0]).length) 0
        rw [e, List.replicate_succ]; simp
    · refine .inl ⟨tst.ofB (by rw [List.length_map]; exact decide_eq_false hlt), ?_⟩
      have e : many.toNat - acc.length = 0 := by omega
      show acc ++ List.replicate (many.toNat - acc.length) 0 = acc
      rw [e]; simp
  -- return _law_numbers_here[:_law_many]
  refine dk_freeze 4 rfl ?_
  exact dk_leave (ds_ret ((df_slL (de_var B.toBx 4) do_none (do_some (de_var B.toBx 1))).of_eq (cutTo _ _ h0)).de) rfl
theorem numF_len (ns : List Int) (many : Int) (h0 : 0 ≤ many) (h1 : many ≤ 10000) : (numF ns many).length = many.toNat ∧ ∀ z ∈ numF ns many, 0 ≤ z ∧ z < 1009 := by
  unfold numF
  refine ⟨by rw [List.length_take, List.length_append, List.length_replicate]; omega, fun z hz => ?_⟩
  have hz2 := List.mem_of_mem_take hz
  simp only [List.mem_append] at hz2
  rcases hz2 with hz2 | hz2
  · have e : ∀ (l acc : List Int), (∀ z ∈ acc, 0 ≤ z ∧ z < 1009) → ∀ z ∈ l.foldl (fun acc c => acc ++ rowF c (eachF ns many)) acc, 0 ≤ z ∧ z < 1009 := by
      intro l
      induction l with
      | nil => intro acc h; exact h
      | cons c l ih =>
        intro acc h
        refine ih _ fun z hz => ?_
        simp only [List.mem_append] at hz
        rcases hz with hz | hz
        · exact h z hz
        · exact (rowF_len c (eachF ns many)).2 z hz
    exact e (ns.take 63) [] (by simp) z hz2
  · rw [List.mem_replicate] at hz2
    rw [hz2.2]; decide
end Law
namespace Law
/-- the number at a place -/
def nth (zs : List Int) (i : Int) : Int := zs.getD i.toNat 0
structure Drawn (m : Int) (zs : List Int) : Prop where
  len : (zs.length : Int) = m
  bd : ∀ z ∈ zs, 0 ≤ z ∧ z < 1009
theorem drawn (ns : List Int) (m : Int) (h0 : 0 ≤ m) (h1 : m ≤ 10000) : Drawn m (numF ns m) := ⟨by rw [(numF_len ns m h0 h1).1]; omega, (numF_len ns m h0 h1).2⟩
theorem Drawn.at {m : Int} {zs : List Int} (h : Drawn m zs) (i : Int) (h0 : 0 ≤ i := by decide) (h1 : i < m := by decide) : atI (zs.map D.int) i = some (D.int (nth zs i)) := atI_ints h0 (by rw [h.len]; exact h1)
theorem Drawn.sm {m : Int} {zs : List Int} (h : Drawn m zs) (i : Int) (h0 : 0 ≤ i := by decide) (h1 : i < m := by decide) : 0 ≤ nth zs i ∧ nth zs i < 1009 := by
  refine h.bd _ ?_
  have := h.len
  unfold nth
  rw [List.getD_eq_getElem?_getD, List.getElem?_eq_getElem (by omega)]
  exact List.getElem_mem _
theorem mod_bd (a : Int) (m : Int) (h : 0 < m := by decide) : 0 ≤ a % m ∧ a % m < m := ⟨Int.emod_nonneg _ (by omega), Int.emod_lt_of_pos _ h⟩
end Law

namespace Law
/-! ### words, in plain Lean -/
def isWord (l : List Int) : Prop := (∀ z ∈ l, 1 ≤ z ∧ z ≤ 4) ∧ l.length ≤ 10000
/-- a letter put upon a stack -/
def push (a : Int) : List Int → List Int
  | [] => [a]
  | b :: s => bif decide (b = a) then s else a :: b :: s
def stk (s : List Int) (l : List Int) : List Int := l.foldl (fun s a => push a s) s
def redF (l : List Int) : List Int := (stk [] l).reverse
def Red : List Int → Prop
  | a :: b :: s => a ≠ b ∧ Red (b :: s)
  | _ => True
theorem Red.tail {a : Int} : ∀ {s : List Int}, Red (a :: s) → Red s
  | [], _ => True.intro
  | _ :: _, h => h.2
theorem push_pop {a b : Int} {s : List Int} (e : b = a) : push a (b :: s) = s := by
  show (bif decide (b = a) then s else a :: b :: s) = s
  rw [decide_eq_true e]; rfl
theorem push_on {a b : Int} {s : List Int} (e : ¬ b = a) : push a (b :: s) = a :: b :: s := by
  show (bif decide (b = a) then s else a :: b :: s) = _
  rw [decide_eq_false e]; rfl
theorem push_red {a : Int} : ∀ {s : List Int}, Red s → Red (push a s)
  | [], _ => True.intro
  | b :: s, h => by
    by_cases e : b = a
    · rw [push_pop e]; exact h.tail
    · rw [push_on e]; exact ⟨fun q => e q.symm, h⟩
theorem push_twice {a : Int} : ∀ {s : List Int}, Red s → push a (push a s) = s
  | [], _ => push_pop rfl
  | b :: s, h => by
    by_cases e : b = a
    · subst e
      rw [push_pop rfl]
      cases s with
      | nil => rfl
      | cons c s => rw [push_on (fun q => h.1 q.symm)]
    · rw [push_on e, push_pop rfl]
/-- the first two alike neighbours taken away -/
def cut1 : List Int → List Int
  | a :: b :: l => bif decide (a = b) then l else a :: cut1 (b :: l)
  | l => l
theorem cut1_eq {a b : Int} {l : List Int} (e : a = b) : cut1 (a :: b :: l) = l := by
  show (bif decide (a = b) then l else a :: cut1 (b :: l)) = l
  rw [decide_eq_true e]; rfl
theorem cut1_ne {a b : Int} {l : List Int} (e : ¬ a = b) : cut1 (a :: b :: l) = a :: cut1 (b :: l) := by
  show (bif decide (a = b) then l else a :: cut1 (b :: l)) = _
  rw [decide_eq_false e]; rfl
theorem stk_cut : ∀ (l s : List Int), Red s → stk s (cut1 l) = stk s l
  | [], _, _ => rfl
  | [_], _, _ => rfl
  | a :: b :: l, s, h => by
    by_cases e : a = b
    · subst e
      rw [cut1_eq rfl]
      show stk s l = stk (push a (push a s)) l
      rw [push_twice h]
    · rw [cut1_ne e]
      show stk (push a s) (cut1 (b :: l)) = stk (push a s) (b :: l)
      exact stk_cut (b :: l) _ (push_red h)
theorem cut_len : ∀ l : List Int, cut1 l = l ∨ (cut1 l).length < l.length
  | [] => .inl rfl
  | [_] => .inl rfl
  | a :: b :: l => by
    by_cases e : a = b
    · rw [cut1_eq e]; right; simp; omega
    · rw [cut1_ne e]
      rcases cut_len (b :: l) with h | h
      · left; rw [h]
      · right; simp only [List.length_cons] at h ⊢; omega
theorem cut_fix : ∀ (l s : List Int), cut1 l = l → Red s → (∀ a b, l.head? = some a → s.head? = some b → b ≠ a) → stk s l = l.reverse ++ s
  | [], s, _, _, _ => rfl
  | a :: l, s, h, hr, hn => by
    have hp : push a s = a :: s := by
      cases s with
      | nil => rfl
      | cons b s => exact push_on (hn a b rfl rfl)
    show stk (push a s) l = _
    have hs : Red (a :: s) := hp ▸ push_red hr
    rw [hp]
    have hl : cut1 l = l ∧ ∀ b, l.head? = some b → a ≠ b := by
      cases l with
      | nil => exact ⟨rfl, by simp⟩
      | cons b l =>
        by_cases e : a = b
        · rw [cut1_eq e] at h
          have := congrArg List.length h
          simp at this
          omega
        · rw [cut1_ne e] at h
          simp only [List.cons.injEq, true_and] at h
          exact ⟨h, by simp; exact e⟩
    rw [cut_fix l (a :: s) hl.1 hs fun c b h1 h2 => by simp at h2; subst h2; exact hl.2 c h1]
    simp
def cutN : Nat → List Int → List Int
  | 0, l => l
  | n + 1, l => cutN n (cut1 l)
theorem cutN_red : ∀ (n : Nat) (l : List Int), l.length ≤ n → cutN n l = redF l
  | 0, l, h => by
    have : l = [] := List.length_eq_zero_iff.mp (by omega)
    subst this; rfl
  | n + 1, l, h => by
    rcases cut_len l with e | e
    · have fx : ∀ n, cutN n l = l := by
        intro n
        induction n with
        | zero => rfl
        | succ n ih => show cutN n (cut1 l) = l; rw [e]; exact ih
      rw [fx]
      unfold redF
      rw [cut_fix l [] e True.intro (by simp)]
      simp
    · show cutN n (cut1 l) = _
      rw [cutN_red n _ (by omega)]
      unfold redF
      rw [stk_cut l [] True.intro]
theorem push_len (a : Int) (s : List Int) : (push a s).length ≤ s.length + 1 := by
  cases s with
  | nil => simp [push]
  | cons b s => by_cases e : b = a
                · rw [push_pop e]; simp; omega
                · rw [push_on e]; simp
theorem push_mem {a z : Int} {s : List Int} (h : z ∈ push a s) : z = a ∨ z ∈ s := by
  cases s with
  | nil => simpa [push] using h
  | cons b s =>
    by_cases e : b = a
    · rw [push_pop e] at h; right; exact List.mem_cons_of_mem _ h
    · rw [push_on e] at h; simpa using h
theorem stk_bd (P : Int → Prop) : ∀ (l s : List Int), (∀ z ∈ l, P z) → (∀ z ∈ s, P z) → (stk s l).length ≤ s.length + l.length ∧ ∀ z ∈ stk s l, P z
  | [], s, _, h => ⟨Nat.le_refl _, h⟩
  | a :: l, s, h1, h2 => by
    obtain ⟨g1, g2⟩ := stk_bd P l (push a s) (fun z hz => h1 z (List.mem_cons_of_mem _ hz)) fun z hz => by
      rcases push_mem hz with e | e
      · rw [e]; exact h1 a List.mem_cons_self
      · exact h2 z e
    have := push_len a s
    exact ⟨by show (stk (push a s) l).length ≤ _; simp only [List.length_cons]; omega, g2⟩
theorem redF_word {l : List Int} (h : isWord l) : isWord (redF l) := by
  obtain ⟨g1, g2⟩ := stk_bd (fun z => 1 ≤ z ∧ z ≤ 4) l [] h.1 (by simp)
  refine ⟨fun z hz => g2 z (by simpa [redF] using hz), ?_⟩
  simp only [redF, List.length_reverse]
  simp only [List.length_nil] at g1
  have := h.2
  omega
theorem cut1_len_le (l : List Int) : (cut1 l).length ≤ l.length := by
  rcases cut_len l with h | h
  · rw [h]; exact Nat.le_refl _
  · omega
/-- no two neighbours alike -/
def isRed (l : List Int) : Bool := ((l.zip (l.drop 1)).map fun p => !decide (p.1 = p.2)).all id
theorem isRed_iff (l : List Int) : isRed l = decide (((List.range (l.length - 1)).filter fun k => decide (l.getD k 0 = l.getD (k + 1) 0)).length = 0) := by
  have e : l.zip (l.drop 1) = (List.range (l.length - 1)).map fun k => (l.getD k 0, l.getD (k + 1) 0) := by
    apply List.ext_getElem
    · simp
    · intro i h1 h2
      simp only [List.length_zip, List.length_drop] at h1
      have h3 : i < l.length := by omega
      have h4 : i + 1 < l.length := by omega
      simp [List.getElem?_eq_getElem h3, List.getElem?_eq_getElem h4, Nat.add_comm 1 i]
  unfold isRed
  rw [e, List.map_map, Bool.eq_iff_iff]
  simp only [List.all_map, List.all_eq_true, decide_eq_true_eq, List.length_eq_zero_iff, List.filter_eq_nil_iff]
  constructor
  · intro h k hk
    have := h k hk
    simpa using this
  · intro h k hk
    have := h k hk
    simpa using this
theorem wd_small {l : List Int} (h : isWord l) : ∀ z ∈ l, z.natAbs < 10 ^ 12 := fun z hz => by have := h.1 z hz; omega
theorem wd_len {l : List Int} (h : isWord l) : l.length ≤ 1000000 := by have := h.2; omega
theorem wd_sz {l : List Int} {n : Nat} (h : isWord l) (hn : n ≤ l.length) : n < sizeLine := by have := h.2; exact Nat.lt_of_le_of_lt (show n ≤ 10000 by omega) (by decide)

/-! ### what the defs do -/
def d_LETTERS : D := .tup [.int 1, .int 2, .int 3, .int 4]
abbrev k_check_word : Nat := 1
def ct_check_word : Ct := fun ds r => ∃ (x : D) (l : List Int), ds = [x] ∧ seqD x = some (l.map D.int) ∧ isWord l ∧ r = .ok .non
theorem inLetters {z : Int} (h : 1 ≤ z ∧ z ≤ 4) : inV (V.int z) [V.int 1, V.int 2, V.int 3, V.int 4] = true := by
  have : z = 1 ∨ z = 2 ∨ z = 3 ∨ z = 4 := by omega
  rcases this with e | e | e | e <;> subst e <;> decide
theorem b_check_word {X : Cx} {W : WX} {k : Nat} (B : Bg X N_check_word (defScope s_check_word) k W) (py : Py X.mg) (g_LETTERS : GlD X.K X.mg "LETTERS" d_LETTERS) (x_InvalidWord : ExC X.K X.mg "InvalidWord") : BodyOk X N_check_word (defScope s_check_word) k W (defBody s_check_word) 1 ct_check_word := by
  intro ds r hl hc
  obtain ⟨x, l, rfl, hx, hw, rfl⟩ := hc
  refine dk_done ?_
  -- for letter in word:
  refine dk_cons (ds_for B.toBd (di_seq (de_var B.toBx 0) hx) (DFor.foldP (fun _ : Unit => [Sl.val x, .any]) D.int (fun b _ => b) (fun _ _ => True) l [] () True.intro ?_).1) ?_
  · intro pre z post _ hp _
    have hz := hw.1 z (by rw [show l = pre ++ z :: post from hp]; simp)
    refine ⟨⟨_, _, dg_name B.toBx 1, ?_⟩, True.intro⟩
    -- if isinstance(letter, bool) or letter not in LETTERS:
    refine dk_if ((dt_bool (dw_or (dt_val (de_isi (u := "bool") (p := false) B.toBx py.isinstance py.bool (de_var B.toBx 1) rfl (by decide +kernel) (by decide +kernel))) fun h => (dw_or1 (dt_notIn (de_var B.toBx 1) (de_glob B.toBx g_LETTERS) rfl rfl rfl rfl rfl)))).ofB (d' := false) (by rw [inLetters hz]; rfl)) (fun h1 => nomatch h1) (fun h1 => ?_)
    refine dk_nil (dk_nil (dk_fin (goes_nx ?_)))
    walk_at "le"
  exact dk_nil (dk_fin True.intro)
end Law

namespace Law
/-! ### fours of curvatures, in plain Lean -/
def sqs (l : List Int) : Int := (l.map fun z => z * z).sum
def isQ (l : List Int) : Bool := decide (l.length = 4) && (decide (l.sum > 0) && decide (l.sum * l.sum = 2 * sqs l))
def exq (l : List Int) (i : Nat) : List Int := l.set i (2 * l.sum - 3 * l.getD i 0)
theorem four_of {α : Type} {l : List α} (h : l.length = 4) : ∃ a b c d, l = [a, b, c, d] := by
  match l, h with
  | [a, b, c, d], _ => exact ⟨a, b, c, d, rfl⟩
theorem sum4 (a b c d : Int) : [a, b, c, d].sum = a + b + c + d := by simp only [List.sum_cons, List.sum_nil]; omega
theorem sqs4 (a b c d : Int) : sqs [a, b, c, d] = a * a + b * b + c * c + d * d := by simp only [sqs, List.map_cons, List.map_nil, List.sum_cons, List.sum_nil]; omega
theorem isQ4 {a b c d : Int} : isQ [a, b, c, d] = true ↔ (0 < a + b + c + d ∧ (a + b + c + d) * (a + b + c + d) = 2 * (a * a + b * b + c * c + d * d)) := by
  unfold isQ
  rw [sum4, sqs4]
  simp
theorem isQ_len {l : List Int} (h : isQ l = true) : l.length = 4 := by
  unfold isQ at h
  simp only [Bool.and_eq_true, decide_eq_true_eq] at h
  exact h.1
theorem exq_len (l : List Int) (i : Nat) : (exq l i).length = l.length := by simp [exq]
theorem sq_pos {s z q : Int} (hs : 0 < s) (hq : s * s = 2 * q) (hz : z * z ≤ q) : 0 < 3 * s - 4 * z := by
  refine Int.lt_of_not_ge fun h => ?_
  have h1 : 3 * s ≤ 4 * z := by omega
  have h2 : (3 * s) * (3 * s) ≤ (4 * z) * (4 * z) := Int.mul_le_mul h1 h1 (by omega) (by omega)
  have h3 : (3 * s) * (3 * s) = 9 * (s * s) := by grind
  have h4 : (4 * z) * (4 * z) = 16 * (z * z) := by grind
  have h5 : 0 < s * s := Int.mul_pos hs hs
  omega
theorem sq_nn (z : Int) : 0 ≤ z * z := by
  rcases Int.le_total 0 z with h | h
  · exact Int.mul_nonneg h h
  · have := Int.mul_nonneg (show 0 ≤ -z by omega) (show 0 ≤ -z by omega)
    have e : -z * -z = z * z := by grind
    omega
theorem exq_isQ {l : List Int} {i : Nat} (h : isQ l = true) (hi : i < 4) : isQ (exq l i) = true := by
  obtain ⟨a, b, c, d, rfl⟩ := four_of (isQ_len h)
  rw [isQ4] at h
  obtain ⟨h1, h2⟩ := h
  have na := sq_nn a; have nb := sq_nn b; have nc := sq_nn c; have nd := sq_nn d
  have pa := sq_pos (z := a) h1 h2 (by omega)
  have pb := sq_pos (z := b) h1 h2 (by omega)
  have pc := sq_pos (z := c) h1 h2 (by omega)
  have pd := sq_pos (z := d) h1 h2 (by omega)
  have : i = 0 ∨ i = 1 ∨ i = 2 ∨ i = 3 := by omega
  rcases this with rfl | rfl | rfl | rfl
  · show isQ [2 * [a, b, c, d].sum - 3 * a, b, c, d] = true
    rw [isQ4, sum4]
    exact ⟨by omega, by grind⟩
  · show isQ [a, 2 * [a, b, c, d].sum - 3 * b, c, d] = true
    rw [isQ4, sum4]
    exact ⟨by omega, by grind⟩
  · show isQ [a, b, 2 * [a, b, c, d].sum - 3 * c, d] = true
    rw [isQ4, sum4]
    exact ⟨by omega, by grind⟩
  · show isQ [a, b, c, 2 * [a, b, c, d].sum - 3 * d] = true
    rw [isQ4, sum4]
    exact ⟨by omega, by grind⟩
/-- four ints below 2 ^ n -/
def Sq (n : Nat) (l : List Int) : Prop := l.length = 4 ∧ ∀ z ∈ l, z.natAbs < 2 ^ n
theorem Sq.mono {n m : Nat} {l : List Int} (h : Sq n l) (hn : n ≤ m) : Sq m l := ⟨h.1, fun z hz => Nat.lt_of_lt_of_le (h.2 z hz) (Nat.pow_le_pow_right (by decide) hn)⟩
theorem Sq.exq {n : Nat} {l : List Int} (h : Sq n l) (i : Nat) (hi : i < 4) : Sq (n + 4) (exq l i) := by
  refine ⟨by rw [exq_len, h.1], ?_⟩
  obtain ⟨a, b, c, d, rfl⟩ := four_of h.1
  have ha := h.2 a (by simp)
  have hb := h.2 b (by simp)
  have hc := h.2 c (by simp)
  have hd := h.2 d (by simp)
  have e : 2 ^ (n + 4) = 16 * 2 ^ n := by rw [Nat.pow_add]; omega
  rw [e]
  generalize 2 ^ n = m at ha hb hc hd
  have key : ∀ z : Int, z.natAbs < m → (2 * (a + b + c + d) - 3 * z).natAbs < 16 * m := fun z hz => by omega
  intro z hz
  have : i = 0 ∨ i = 1 ∨ i = 2 ∨ i = 3 := by omega
  rcases this with rfl | rfl | rfl | rfl <;> simp [Law.exq] at hz <;> rcases hz with rfl | rfl | rfl | rfl <;> first | (have := key a ha; omega) | (have := key b hb; omega) | (have := key c hc; omega) | (have := key d hd; omega) | omega
theorem Sm.sum : ∀ {l : List Int} {n : Nat}, (∀ z ∈ l, z.natAbs < 2 ^ n) → l.sum.natAbs ≤ l.length * 2 ^ n
  | [], _, _ => by simp
  | z :: l, n, h => by
    have h1 := h z List.mem_cons_self
    have h2 := Sm.sum (l := l) fun y hy => h y (List.mem_cons_of_mem _ hy)
    rw [List.sum_cons, List.length_cons, Nat.add_mul, Nat.one_mul]
    omega
abbrev k_is_quadruple : Nat := 1
def ct_is_quadruple : Ct := fun ds r => ∃ (x : D) (l : List Int), ds = [x] ∧ seqD x = some (l.map D.int) ∧ (∀ z ∈ l, z.natAbs < 2 ^ 1000) ∧ l.length ≤ 1000 ∧ r = .ok (.bl (isQ l))
theorem b_is_quadruple {X : Cx} {W : WX} {k : Nat} (B : Bg X N_is_quadruple (defScope s_is_quadruple) k W) (py : Py X.mg) : BodyOk X N_is_quadruple (defScope s_is_quadruple) k W (defBody s_is_quadruple) 1 ct_is_quadruple := by
  intro ds r hl hc
  obtain ⟨x, l, rfl, hx, hb, hn, rfl⟩ := hc
  refine dk_done ?_
  -- if len(curvatures) != 4:
  refine dk_if (dt_ne (de_len B.toBx py.len (de_var B.toBx 0) hx) de_int) (fun h1 => ?_) (fun h1 => ?_)
  · -- return False
    refine dk_leave (ds_ret de_bl) (show D.bl false = D.bl (isQ l) from ?_)
    rw [List.length_map] at h1
    unfold isQ
    rw [show decide (l.length = 4) = false from decide_eq_false (fun q => by rw [q] at h1; exact absurd h1 (by decide))]; rfl
  · refine dk_nil ?_
    rw [List.length_map] at h1
    have h4 : l.length = 4 := by
      by_cases q : ((l.length : Nat) : Int) = 4
      · omega
      · rw [decide_eq_false q] at h1; cases h1
    -- total = sum(curvatures)
    refine dk_cons (ds_set B.toBx 1 (de_sumQ B.toBd py.sum (de_var B.toBx 0) hx)) ?_
    have hs := Sm.sum hb
    have hs2 : Sm 1003 l.sum := by
      show l.sum.natAbs < 2 ^ 1003
      rw [h4] at hs
      rw [show (2 : Nat) ^ 1003 = 8 * 2 ^ 1000 from by rw [show 1003 = 3 + 1000 from rfl, Nat.pow_add]]
      have : 0 < 2 ^ 1000 := Nat.two_pow_pos 1000
      generalize 2 ^ 1000 = m at *
      omega
    -- return total > 0 and total * total == 2 * sum([number * number for number in curvatures])
    refine dk_leave (ds_ret (de_and (de_gt (de_var B.toBx 1) de_int) fun h => (de_one (de_eq (de_mul (de_var B.toBx 1) (de_var B.toBx 1) (Sm.mul hs2 hs2)) (de_mul de_int (de_sumQ (ns := l.map fun z => z * z) B.toBd py.sum (df_lc B [("number", 2)] (di_seq (de_var B.toBx 0) hx) (dlc_map l (f := fun z => D.int (z * z)) fun z hz => ⟨_, _, fun q1 => (dg_name (B.blk q1).toBx 2), by decide, fun _ => dts_nil, fun q1 => (de_mul (de_var (B.blk q1).toBx 2) (de_var (B.blk q1).toBx 2) (Sm.mul (hb z hz) (hb z hz)))⟩) ?_ (blkOk_by (by decide +kernel))).de ?_) (mulL (by decide))))))) ?_
    · rw [List.length_map, h4]; decide
    · show some _ = some _; rw [List.map_map]; rfl
    · show D.bl _ = D.bl (isQ l)
      unfold isQ
      rw [decide_eq_true h4]; rfl
abbrev k_check_quadruple : Nat := 2
def ct_check_quadruple : Ct := fun ds r => ∃ (x : D) (l : List Int), ds = [x] ∧ seqD x = some (l.map D.int) ∧ (∀ z ∈ l, z.natAbs < 2 ^ 1000) ∧ l.length ≤ 1000 ∧ r = bif isQ l then .ok .non else .ex "InvalidFour" []
theorem b_check_quadruple {X : Cx} {W : WX} {k : Nat} (B : Bg X N_check_quadruple (defScope s_check_quadruple) k W) (hk : k_is_quadruple ≤ k) (py : Py X.mg) (c_is_quadruple : Fn X.prog X.w X.K X.mg X.base "is_quadruple" k_is_quadruple 1 ct_is_quadruple) (x_InvalidFour : ExC X.K X.mg "InvalidFour") : BodyOk X N_check_quadruple (defScope s_check_quadruple) k W (defBody s_check_quadruple) 1 ct_check_quadruple := by
  intro ds r hl hc
  obtain ⟨x, l, rfl, hx, hb, hn, rfl⟩ := hc
  refine dk_done ?_
  -- if not is_quadruple(curvatures):
  refine dk_if (dt_not (dt_val (de_call B c_is_quadruple hk (da_cons (de_var B.toBx 0) da_nil) rfl ⟨x, l, rfl, hx, hb, hn, rfl⟩))) (fun h1 => ?_) (fun h1 => ?_)
  · -- raise InvalidFour('no curvatures of a four')
    refine dk_leave (ds_raise B.toBd x_InvalidFour) ?_
    rw [show isQ l = false by simpa using h1]
    exact ⟨rfl, rfl⟩
  · refine dk_nil (dk_nil (dk_fin ?_))
    rw [show isQ l = true by simpa using h1]
    exact True.intro
abbrev k_other_curvature : Nat := 1
def ct_other_curvature : Ct := fun ds r => ∃ (x : D) (l : List Int) (n : Int), ds = [x, .int n] ∧ seqD x = some (l.map D.int) ∧ 1 ≤ n ∧ n ≤ (l.length : Int) ∧ r = .ok (.int (2 * l.sum - 3 * l.getD (n - 1).toNat 0))
theorem b_other_curvature {X : Cx} {W : WX} {k : Nat} (B : Bg X N_other_curvature (defScope s_other_curvature) k W) (py : Py X.mg) : BodyOk X N_other_curvature (defScope s_other_curvature) k W (defBody s_other_curvature) 2 ct_other_curvature := by
  intro ds r hl hc
  obtain ⟨x, l, n, rfl, hx, h0, h1, rfl⟩ := hc
  refine dk_done ?_
  -- return 2 * sum(curvatures) - 3 * curvatures[number - 1]
  exact dk_leave (ds_ret (de_sub (de_mul de_int (de_sumQ B.toBd py.sum (de_var B.toBx 0) hx) (mulL (by decide))) (de_mul de_int (de_ixQ (de_var B.toBx 0) hx (de_sub (de_var B.toBx 1) de_int) (atI_ints (by omega) (by omega))) (mulL (by decide))))) rfl
abbrev k_exchange : Nat := 2
def ct_exchange : Ct := fun ds r => ∃ (x : D) (l : List Int) (n : Int), ds = [x, .int n] ∧ seqD x = some (l.map D.int) ∧ 1 ≤ n ∧ n ≤ (l.length : Int) ∧ r = .ok (.tup ((exq l (n - 1).toNat).map D.int))
theorem ixN_nat {n : Nat} {i : Int} (h0 : 0 ≤ i) (h1 : i < (n : Int)) : ixN n i = some i.toNat := by
  unfold ixN
  rw [if_pos h0, if_pos h1]
theorem exq_map (l : List Int) (i : Nat) : (l.map D.int).set i (D.int (2 * l.sum - 3 * l.getD i 0)) = (exq l i).map D.int := by
  unfold exq; rw [List.map_set]
theorem b_exchange {X : Cx} {W : WX} {k : Nat} (B : Bg X N_exchange (defScope s_exchange) k W) (hk : k_other_curvature ≤ k) (py : Py X.mg) (c_other_curvature : Fn X.prog X.w X.K X.mg X.base "other_curvature" k_other_curvature 2 ct_other_curvature) : BodyOk X N_exchange (defScope s_exchange) k W (defBody s_exchange) 2 ct_exchange := by
  intro ds r hl hc
  obtain ⟨x, l, n, rfl, hx, h0, h1, rfl⟩ := hc
  refine dk_done ?_
  -- changed = list(curvatures)
  refine dk_cons (ds_own B.toBx 2 (df_list B.toBx py.list (de_var B.toBx 0) hx)) ?_
  -- changed[number - 1] = other_curvature(curvatures, number)
  refine dk_cons (ds_setI B.toBx 2 (ds := l.map D.int) (m := (n - 1).toNat) (de_call B c_other_curvature hk (da_cons (de_var B.toBx 0) (da_cons (de_var B.toBx 1) da_nil)) rfl ⟨x, l, n, rfl, hx, h0, h1, rfl⟩) (de_sub (de_var B.toBx 1) de_int) (ixN_nat (by omega) (by rw [List.length_map]; omega))) ?_
  -- return tuple(changed)
  rw [exq_map]
  refine dk_freeze 2 rfl ?_
  exact dk_leave (ds_ret (de_tupleL B.toBx py.tuple (de_var B.toBx 2) rfl)) rfl
end Law

namespace Law
/-- the fours along a word -/
def alongF (l w : List Int) : List (List Int) := w.foldl (fun acc a => acc ++ [exq (acc.getLastD []) (a - 1).toNat]) [l]
def qD (l : List Int) : D := .tup (l.map D.int)
theorem along_inv (P : List Int → Prop) (hP : ∀ (l : List Int) (a : Int), P l → 1 ≤ a → a ≤ 4 → P (exq l (a - 1).toNat)) : ∀ (w : List Int) (acc : List (List Int)), acc ≠ [] → (∀ q ∈ acc, P q) → (∀ a ∈ w, 1 ≤ a ∧ a ≤ 4) →
    (w.foldl (fun acc a => acc ++ [exq (acc.getLastD []) (a - 1).toNat]) acc).length = acc.length + w.length ∧ ∀ q ∈ w.foldl (fun acc a => acc ++ [exq (acc.getLastD []) (a - 1).toNat]) acc, P q
  | [], acc, _, h, _ => ⟨rfl, h⟩
  | a :: w, acc, hne, h, hw => by
    have hl : P (acc.getLastD []) := by
      refine h _ ?_
      rw [show acc.getLastD [] = acc.getLast hne from by cases acc with | nil => exact absurd rfl hne | cons b l => rfl]
      exact List.getLast_mem hne
    have ha := hw a List.mem_cons_self
    obtain ⟨g1, g2⟩ := along_inv P hP w (acc ++ [exq (acc.getLastD []) (a - 1).toNat]) (by simp) (fun q hq => by
      rcases List.mem_append.mp hq with e | e
      · exact h q e
      · rw [List.mem_singleton.mp e]; exact hP _ a hl ha.1 ha.2) fun b hb => hw b (List.mem_cons_of_mem _ hb)
    exact ⟨by rw [List.foldl_cons, g1]; simp; omega, g2⟩
theorem atI_lastQ {α : Type} {g : α → D} {acc : List α} {z : α} (h : acc ≠ []) : atI (acc.map g) (-1) = some (g (acc.getLastD z)) := by
  have e : acc = acc.dropLast ++ [acc.getLastD z] := by
    rw [show acc.getLastD z = acc.getLast h from by cases acc with | nil => exact absurd rfl h | cons b l => rfl]
    exact (List.dropLast_concat_getLast h).symm
  conv => lhs; rw [e]
  rw [List.map_append]
  exact atI_last _ _
abbrev k_curvatures_along : Nat := 3
def ct_curvatures_along : Ct := fun ds r => ∃ (x y : D) (l w : List Int), ds = [x, y] ∧ seqD x = some (l.map D.int) ∧ seqD y = some (w.map D.int) ∧ Sq 1000 l ∧ isQ l = true ∧ isWord w ∧ r = .ok (.lst ((alongF l w).map qD))
theorem b_curvatures_along {X : Cx} {W : WX} {k : Nat} (B : Bg X N_curvatures_along (defScope s_curvatures_along) k W) (hk1 : k_check_quadruple ≤ k) (hk2 : k_check_word ≤ k) (hk3 : k_exchange ≤ k) (py : Py X.mg) (c_check_quadruple : Fn X.prog X.w X.K X.mg X.base "check_quadruple" k_check_quadruple 1 ct_check_quadruple) (c_check_word : Fn X.prog X.w X.K X.mg X.base "check_word" k_check_word 1 ct_check_word) (c_exchange : Fn X.prog X.w X.K X.mg X.base "exchange" k_exchange 2 ct_exchange) : BodyOk X N_curvatures_along (defScope s_curvatures_along) k W (defBody s_curvatures_along) 2 ct_curvatures_along := by
  intro ds r hl hc
  obtain ⟨x, y, l, w, rfl, hx, hy, hq, hi, hw, rfl⟩ := hc
  have hwl := hw.2
  refine dk_done ?_
  -- check_quadruple(curvatures)
  refine dk_cons (ds_expr (de_call B c_check_quadruple hk1 (da_cons (de_var B.toBx 0) da_nil) rfl ⟨x, l, rfl, hx, hq.2, by rw [hq.1]; decide, by rw [hi]; rfl⟩)) ?_
  -- check_word(word)
  refine dk_cons (ds_expr (de_call B c_check_word hk2 (da_cons (de_var B.toBx 1) da_nil) rfl ⟨y, w, rfl, hy, hw, rfl⟩)) ?_
  -- found = [tuple(curvatures)]
  refine dk_cons (ds_own B.toBx 2 (df_lst (da_cons (de_tupleL B.toBx py.tuple (de_var B.toBx 0) hx) da_nil) (show (1 : Nat) ≤ sizeLine by decide))) ?_
  -- for letter in word:
  refine dk_cons (ds_for B.toBd (di_seq (de_var B.toBx 1) hy) (DFor.foldP (fun acc : List (List Int) => [Sl.val x, .val y, .own (acc.map qD), .any]) D.int (fun acc a => acc ++ [exq (acc.getLastD []) (a - 1).toNat]) (fun pre acc => acc.length = pre.length + 1 ∧ ∀ q ∈ acc, q.length = 4) w [] [l] ⟨rfl, by simp; exact hq.1⟩ ?_).1) ?_
  · intro pre a post acc hp ⟨hs, h4⟩
    have ha := hw.1 a (by rw [show w = pre ++ a :: post from hp]; simp)
    have hpl : pre.length < w.length := by have := congrArg List.length hp; simp at this; omega
    have hne : acc ≠ [] := fun e => by rw [e] at hs; simp at hs
    have hlast : (acc.getLastD []).length = 4 := by
      refine h4 _ ?_
      rw [show acc.getLastD [] = acc.getLast hne from by cases acc with | nil => exact absurd rfl hne | cons b l => rfl]
      exact List.getLast_mem hne
    refine ⟨⟨_, _, dg_name B.toBx 3, ?_⟩, by simp [hs], fun q hq => by
      rcases List.mem_append.mp hq with e | e
      · exact h4 q e
      · rw [List.mem_singleton.mp e, exq_len]; exact hlast⟩
    -- found.append(exchange(found[-1], letter))
    refine dk_cons (ds_app B.toBx 2 (de_call B c_exchange hk3 (da_cons (de_ixO B.toBx 2 (de_neg de_int) (atI_lastQ (z := []) hne)) (da_cons (de_var B.toBx 3) da_nil)) rfl ⟨_, acc.getLastD [], a, rfl, rfl, ha.1, by rw [hlast]; omega, rfl⟩) rfl (by rw [List.length_map, hs]; exact Nat.lt_of_le_of_lt (show _ ≤ 20000 by omega) (by decide))) ?_
    refine dk_nil (dk_fin (goes_nx ?_))
    simp only [List.map_append, List.map_cons, List.map_nil]
    walk_at "le"
  -- return found
  refine dk_freeze 2 rfl ?_
  exact dk_leave (ds_ret (de_var B.toBx 2)) rfl
end Law

namespace Law
abbrev k_curvatures_at : Nat := 4
def ct_curvatures_at : Ct := fun ds r => ∃ (x y : D) (l w : List Int), ds = [x, y] ∧ seqD x = some (l.map D.int) ∧ seqD y = some (w.map D.int) ∧ Sq 1000 l ∧ isQ l = true ∧ isWord w ∧ r = .ok (qD ((alongF l w).getLastD []))
theorem along_ne (l w : List Int) : alongF l w ≠ [] := by
  have : ∀ (w : List Int) (acc : List (List Int)), acc ≠ [] → w.foldl (fun acc a => acc ++ [exq (acc.getLastD []) (a - 1).toNat]) acc ≠ [] := by
    intro w
    induction w with
    | nil => intro acc h; exact h
    | cons a w ih => intro acc h; exact ih _ (by simp)
  exact this w [l] (by simp)
theorem b_curvatures_at {X : Cx} {W : WX} {k : Nat} (B : Bg X N_curvatures_at (defScope s_curvatures_at) k W) (hk1 : k_curvatures_along ≤ k) (py : Py X.mg) (c_curvatures_along : Fn X.prog X.w X.K X.mg X.base "curvatures_along" k_curvatures_along 2 ct_curvatures_along) : BodyOk X N_curvatures_at (defScope s_curvatures_at) k W (defBody s_curvatures_at) 2 ct_curvatures_at := by
  intro ds r hl hc
  obtain ⟨x, y, l, w, rfl, hx, hy, hq, hi, hw, rfl⟩ := hc
  refine dk_done ?_
  -- return curvatures_along(curvatures, word)[-1]
  exact dk_leave (ds_ret (de_ixL (de_call B c_curvatures_along hk1 (da_cons (de_var B.toBx 0) (da_cons (de_var B.toBx 1) da_nil)) rfl ⟨x, y, l, w, rfl, hx, hy, hq, hi, hw, rfl⟩) (de_neg de_int) (atI_lastQ (z := []) (along_ne l w)))) rfl
end Law

namespace Law
def wordF (zs : List Int) (at_ many : Int) : List Int := (List.range many.toNat).map fun i : Nat => 1 + zs.getD (at_ + (0 + (i : Int))).toNat 0 % 4
abbrev k__law_word : Nat := 1
def ct__law_word : Ct := fun ds r => ∃ (zs : List Int) (a m : Int), ds = [.lst (zs.map D.int), .int a, .int m] ∧ 0 ≤ a ∧ 0 ≤ m ∧ a + m ≤ (zs.length : Int) ∧ zs.length ≤ 10000 ∧ r = .ok (.tup ((wordF zs a m).map D.int))
theorem wordF_word (zs : List Int) (a m : Int) (h : m ≤ 5000) : isWord (wordF zs a m) := by
  refine ⟨fun z hz => ?_, by simp [wordF]; omega⟩
  simp only [wordF, List.mem_map, List.mem_range] at hz
  obtain ⟨i, _, rfl⟩ := hz
  have := Int.emod_nonneg (zs.getD (a + (0 + (i : Int))).toNat 0) (show (4 : Int) ≠ 0 by decide)
  have := Int.emod_lt_of_pos (zs.getD (a + (0 + (i : Int))).toNat 0) (show (0 : Int) < 4 by decide)
  omega
theorem b__law_word {X : Cx} {W : WX} {k : Nat} (B : Bg X N__law_word (defScope s__law_word) k W) (py : Py X.mg) : BodyOk X N__law_word (defScope s__law_word) k W (defBody s__law_word) 3 ct__law_word := by
  intro ds r hl hc
  obtain ⟨zs, a, m, rfl, h0, h1, h2, h3, rfl⟩ := hc
  refine dk_done ?_
  -- return tuple([1 + int(_law_numbers_here[_law_at + _law_k]) % 4 for _law_k in range(_law_many)])
  refine dk_leave (ds_ret (de_tupleL B.toBx py.tuple (df_lc B [("_law_k", 3)] (di_range1 B.toBx py.range (de_var B.toBx 2) ⟨by omega, by omega⟩) (dlc_map (List.range m.toNat) (f := fun i : Nat => D.int (1 + zs.getD (a + (0 + (i : Int))).toNat 0 % 4)) fun i hi => ⟨_, _, fun q1 => (dg_name (B.blk q1).toBx 3), by decide, fun _ => dts_nil, fun q1 => (de_add de_int (de_mod (de_int1 (B.blk q1).toBx py.int (de_ixL (de_var (B.blk q1).toBx 0) (de_add (de_var (B.blk q1).toBx 1) (de_var (B.blk q1).toBx 3)) (atI_ints (by omega) ?_))) de_int (by decide)))⟩) ?_ (blkOk_by (by decide +kernel))).de rfl)) ?_
  · have := List.mem_range.mp hi; omega
  · rw [rngD_length]; exact Nat.lt_of_le_of_lt (show _ ≤ 10000 by omega) (by decide)
  · show D.tup _ = D.tup _
    unfold wordF
    rw [List.map_map]; rfl
end Law

namespace Law
abbrev k__law_reduced : Nat := 1
def ct__law_reduced : Ct := fun ds r => ∃ (x : D) (l : List Int), ds = [x] ∧ seqD x = some (l.map D.int) ∧ isWord l ∧ r = .ok (.tup ((redF l).map D.int))
theorem foldl_cut : ∀ (xs : List Nat) (l : List Int), xs.foldl (fun f (_ : Nat) => cut1 f) l = cutN xs.length l
  | [], _ => rfl
  | _ :: xs, l => foldl_cut xs (cut1 l)
theorem b__law_reduced {X : Cx} {W : WX} {k : Nat} (B : Bg X N__law_reduced (defScope s__law_reduced) k W) (py : Py X.mg) : BodyOk X N__law_reduced (defScope s__law_reduced) k W (defBody s__law_reduced) 1 ct__law_reduced := by
  intro ds r hl hc
  obtain ⟨x, l, rfl, hx, hw, rfl⟩ := hc
  have hll := hw.2
  refine dk_done ?_
  -- _law_found = list(_law_word_here)
  refine dk_cons (ds_set B.toBx 1 (df_list B.toBx py.list (de_var B.toBx 0) hx).de) ?_
  -- for _law_turn in range(len(_law_word_here)):
  refine dk_cons (ds_for B.toBd (di_range1 B.toBx py.range (de_len B.toBx py.len (de_var B.toBx 0) hx) (by rw [List.length_map]; omega)) (DFor.foldP (fun f : List Int => [Sl.val x, .val (.lst (f.map D.int)), .any, .any]) (fun i : Nat => D.int (0 + (i : Int))) (fun f _ => cut1 f) (fun _ f => f.length ≤ l.length) (List.range ((((l.map D.int).length : Nat) : Int)).toNat) [] l (Nat.le_refl _) ?_).1) ?_
  · intro pre i post f hp hf
    refine ⟨⟨_, _, dg_name B.toBx 2, ?_⟩, Nat.le_trans (cut1_len_le f) hf⟩
    -- for _law_k in range(len(_law_found) - 1):
    refine dk_cons (ds_forU (o := .nx [Sl.val x, .val (.lst ((cut1 f).map D.int)), .any, .any]) B.toBd (di_range1 B.toBx py.range (de_sub (de_len B.toBx py.len (de_var B.toBx 1) rfl) de_int) (by rw [List.length_map]; omega)) ?_) ?_
    · refine DFor.of_items (items := (List.range' 0 (f.length - 1)).map fun i : Nat => D.int (0 + (i : Int))) ?_ ?_
      · refine DFor.weakU (ρ1 := [Sl.val x, .val (.lst (([] ++ f).map D.int)), .any, .any]) (by walk_at "le") ?_
        refine DFor.walk (fun b : List Int × List Int => [Sl.val x, .val (.lst ((b.1 ++ b.2).map D.int)), .any, .any]) (fun i : Nat => D.int (0 + (i : Int))) (fun _ b => .nx [Sl.val x, .val (.lst ((b.1 ++ cut1 b.2).map D.int)), .any, .any])
          (fun ks b => ks = List.range' b.1.length (b.2.length - 1) ∧ b.1.length + b.2.length ≤ 10000) ?_ ?_ (List.range' 0 (f.length - 1)) ([], f) ⟨rfl, by simp; omega⟩
        · rintro ⟨pr, rs⟩ ⟨hp, _⟩
          have : rs.length - 1 = 0 := by have := congrArg List.length hp; simpa using this.symm
          match rs, this with
          | [], _ => rfl
          | [_], _ => rfl
        · rintro j ks ⟨pr, rs⟩ ⟨hp, hz⟩
          match rs, hp, hz with
          | [], hp, _ => simp at hp
          | [_], hp, _ => simp at hp
          | u :: v :: t, hp, hz =>
            simp only [List.length_cons, Nat.add_sub_cancel] at hp hz
            rw [List.range'_succ] at hp
            simp only [List.cons.injEq] at hp
            obtain ⟨rfl, rfl⟩ := hp
            show ∃ ρ1 js, DG X _ _ [Sl.val x, .val (.lst ((pr ++ u :: v :: t).map D.int)), .any, .any] ρ1 js ∧ DK X W (TurnO _ _ _ (.nx [Sl.val x, .val (.lst ((pr ++ cut1 (u :: v :: t)).map D.int)), .any, .any])) _ ρ1
            refine ⟨_, _, dg_name B.toBx 3, ?_⟩
            -- if _law_found[_law_k] == _law_found[_law_k + 1]:
            refine dk_if (dt_eq (i := u) (j := v) (de_ixL (de_var B.toBx 1) (de_var B.toBx 3) (atI_map (by omega) ?_)) (de_ixL (de_var B.toBx 1) (de_add (de_var B.toBx 3) de_int) (atI_map (by omega) ?_))) (fun h1 => ?_) (fun h1 => ?_)
            · rw [show (0 + (pr.length : Int)).toNat = pr.length by omega]; simp
            · rw [show (0 + (pr.length : Int) + 1).toNat = pr.length + 1 by omega, List.getElem?_append_right (by omega)]; simp
            · -- _law_found = _law_found[:_law_k] + _law_found[_law_k + 2:]
              have e1 : DL.cutD ((pr ++ u :: v :: t).map D.int) none (some (0 + (pr.length : Int))) = pr.map D.int := by
                rw [cut_to _ _ (by omega), show (0 + (pr.length : Int)).toNat = pr.length by omega]; simp
              have e2 : DL.cutD ((pr ++ u :: v :: t).map D.int) (some (0 + (pr.length : Int) + 2)) none = t.map D.int := by
                rw [show 0 + (pr.length : Int) + 2 = ((pr.length + 2 : Nat) : Int) by omega, cut_from, List.drop_append]; simp
              refine dk_cons (ds_set B.toBx 1 (df_cat ((df_slL (de_var B.toBx 1) do_none (do_some (de_var B.toBx 3))).of_eq e1).de ((df_slL (de_var B.toBx 1) (do_some (de_add (de_var B.toBx 3) de_int)) do_none).of_eq e2).de ?_).de) ?_
              · rw [List.length_map, List.length_map]; exact Nat.le_trans (show _ ≤ 10000 by omega) (by decide)
              -- break
              refine dk_leave ds_break ⟨_, rfl, ?_⟩
              rw [cut1_eq (of_decide_eq_true h1), List.map_append (l₁ := pr) (l₂ := t)]
              walk_at "le"
            · refine dk_nil (dk_nil (dk_fin ⟨(pr ++ [u], v :: t), ?_, ⟨by simp, by simp; omega⟩, ?_⟩))
              · show Le _ [Sl.val x, .val (.lst ((pr ++ [u] ++ v :: t).map D.int)), .any, .any]
                rw [show pr ++ [u] ++ v :: t = pr ++ u :: v :: t by simp]
                walk_at "le"
              · simp only []
                rw [cut1_ne (of_decide_eq_false h1)]
                simp
      · unfold rngD
        rw [List.range_eq_range', List.length_map]
        congr 2
        omega
    refine dk_nil (dk_fin (goes_nx ?_))
    walk_at "le"
  rw [foldl_cut, List.length_range, List.length_map, Int.toNat_natCast, cutN_red _ _ (Nat.le_refl _)]
  -- return tuple(_law_found)
  exact dk_leave (ds_ret (de_tupleL B.toBx py.tuple (de_var B.toBx 1) rfl)) rfl
end Law

namespace Law
abbrev k__law_exchange : Nat := 1
def ct__law_exchange : Ct := fun ds r => ∃ (l : List Int) (n : Int), ds = [.tup (l.map D.int), .int n] ∧ 1 ≤ n ∧ n ≤ (l.length : Int) ∧ r = .ok (.tup ((exq l (n - 1).toNat).map D.int))
theorem b__law_exchange {X : Cx} {W : WX} {k : Nat} (B : Bg X N__law_exchange (defScope s__law_exchange) k W) (py : Py X.mg) : BodyOk X N__law_exchange (defScope s__law_exchange) k W (defBody s__law_exchange) 2 ct__law_exchange := by
  intro ds r hl hc
  obtain ⟨l, n, rfl, h0, h1, rfl⟩ := hc
  refine dk_done ?_
  -- _law_total = sum(_law_four)
  refine dk_cons (ds_set B.toBx 2 (de_sumQ B.toBd py.sum (de_var B.toBx 0) rfl)) ?_
  -- _law_changed = list(_law_four)
  refine dk_cons (ds_own B.toBx 3 (df_list B.toBx py.list (de_var B.toBx 0) rfl)) ?_
  -- _law_changed[_law_letter - 1] = 2 * _law_total - 3 * _law_four[_law_letter - 1]
  refine dk_cons (ds_setI B.toBx 3 (ds := l.map D.int) (m := (n - 1).toNat) (de_sub (de_mul de_int (de_var B.toBx 2) (mulL (by decide))) (de_mul de_int (de_ixT (de_var B.toBx 0) (de_sub (de_var B.toBx 1) de_int) (atI_ints (by omega) (by omega))) (mulL (by decide)))) (de_sub (de_var B.toBx 1) de_int) (ixN_nat (by omega) (by rw [List.length_map]; omega))) ?_
  -- return tuple(_law_changed)
  rw [exq_map]
  refine dk_freeze 3 rfl ?_
  exact dk_leave (ds_ret (de_tupleL B.toBx py.tuple (de_var B.toBx 3) rfl)) rfl
/-! the drawn four -/
def rootsQ : List (List Int) := [[-1, 2, 2, 3], [-2, 3, 6, 7], [-3, 4, 12, 13], [-3, 5, 8, 8], [-4, 8, 9, 9], [-6, 11, 14, 15], [0, 0, 1, 1]]
def rootQ (zs : List Int) (a : Int) : List Int :=
  bif decide (6 < zs.getD a.toNat 0 % 9) then (let k := 2 + zs.getD a.toNat 0 / 9 % 9; [-k, k + 1, k * (k + 1), k * (k + 1) + 1]) else rootsQ.getD (zs.getD a.toNat 0 % 9).toNat []
def facQ (zs : List Int) (a : Int) : Int := ([1, 1, 1, 2, 3] : List Int).getD (zs.getD (a + 1).toNat 0 % 5).toNat 0
def turnQ (zs : List Int) (a : Int) : List Int := (let t := (zs.getD (a + 2).toNat 0 % 4).toNat; ((rootQ zs a).drop t ++ (rootQ zs a).take t).map fun z => facQ zs a * z)
def faceQ (zs : List Int) (a : Int) : List Int := bif decide (zs.getD (a + 2).toNat 0 / 4 % 2 = 1) then (turnQ zs a).reverse else turnQ zs a
def quadF (zs : List Int) (a : Int) : List Int := (List.range (zs.getD (a + 3).toNat 0 % 5).toNat).foldl (fun l (i : Nat) => exq l (zs.getD (a + 4 + (0 + (i : Int))).toNat 0 % 4).toNat) (faceQ zs a)
theorem rootQ_ok (zs : List Int) (a : Int) : isQ (rootQ zs a) = true ∧ Sq 7 (rootQ zs a) := by
  unfold rootQ
  cases h : decide (6 < zs.getD a.toNat 0 % 9) with
  | true =>
    simp only [cond_true]
    have h1 := Int.emod_nonneg (zs.getD a.toNat 0 / 9) (show (9 : Int) ≠ 0 by decide)
    have h2 := Int.emod_lt_of_pos (zs.getD a.toNat 0 / 9) (show (0 : Int) < 9 by decide)
    generalize zs.getD a.toNat 0 / 9 % 9 = j at h1 h2
    have : j = 0 ∨ j = 1 ∨ j = 2 ∨ j = 3 ∨ j = 4 ∨ j = 5 ∨ j = 6 ∨ j = 7 ∨ j = 8 := by omega
    rcases this with e | e | e | e | e | e | e | e | e <;> subst e <;> exact ⟨by decide, rfl, by decide⟩
  | false =>
    simp only [cond_false]
    have h0 := of_decide_eq_false h
    have h1 := Int.emod_nonneg (zs.getD a.toNat 0) (show (9 : Int) ≠ 0 by decide)
    generalize zs.getD a.toNat 0 % 9 = j at h0 h1
    have : j = 0 ∨ j = 1 ∨ j = 2 ∨ j = 3 ∨ j = 4 ∨ j = 5 ∨ j = 6 := by omega
    rcases this with e | e | e | e | e | e | e <;> subst e <;> exact ⟨by decide, rfl, by decide⟩
theorem facQ_ok (zs : List Int) (a : Int) : 1 ≤ facQ zs a ∧ facQ zs a ≤ 3 := by
  unfold facQ
  have h1 := Int.emod_nonneg (zs.getD (a + 1).toNat 0) (show (5 : Int) ≠ 0 by decide)
  have h2 := Int.emod_lt_of_pos (zs.getD (a + 1).toNat 0) (show (0 : Int) < 5 by decide)
  generalize zs.getD (a + 1).toNat 0 % 5 = j at h1 h2
  have : j = 0 ∨ j = 1 ∨ j = 2 ∨ j = 3 ∨ j = 4 := by omega
  rcases this with e | e | e | e | e <;> subst e <;> decide
theorem turnQ_ok (zs : List Int) (a : Int) : isQ (turnQ zs a) = true ∧ Sq 9 (turnQ zs a) := by
  obtain ⟨h1, h2⟩ := rootQ_ok zs a
  obtain ⟨f1, f2⟩ := facQ_ok zs a
  unfold turnQ
  simp only []
  have t1 := Int.emod_nonneg (zs.getD (a + 2).toNat 0) (show (4 : Int) ≠ 0 by decide)
  have t2 := Int.emod_lt_of_pos (zs.getD (a + 2).toNat 0) (show (0 : Int) < 4 by decide)
  generalize zs.getD (a + 2).toNat 0 % 4 = t at t1 t2
  generalize facQ zs a = f at f1 f2
  generalize rootQ zs a = l at h1 h2
  obtain ⟨p, q, r, s, rfl⟩ := four_of h2.1
  have hp := h2.2 p (by simp)
  have hq := h2.2 q (by simp)
  have hr := h2.2 r (by simp)
  have hs := h2.2 s (by simp)
  obtain ⟨g1, g2⟩ := isQ4.mp h1
  have bd : ∀ z : Int, z.natAbs < 2 ^ 7 → (f * z).natAbs < 2 ^ 9 := fun z hz => by
    have : f = 1 ∨ f = 2 ∨ f = 3 := by omega
    rcases this with e | e | e <;> subst e <;> omega
  have pos : 0 < f * (p + q + r + s) := Int.mul_pos (by omega) g1
  have : t = 0 ∨ t = 1 ∨ t = 2 ∨ t = 3 := by omega
  rcases this with e | e | e | e <;> subst e
  · exact ⟨isQ4.mpr ⟨by grind, by grind⟩, rfl, fun z hz => by simp at hz; rcases hz with e | e | e | e <;> subst e <;> first | exact bd _ hp | exact bd _ hq | exact bd _ hr | exact bd _ hs⟩
  · exact ⟨isQ4.mpr ⟨by grind, by grind⟩, rfl, fun z hz => by simp at hz; rcases hz with e | e | e | e <;> subst e <;> first | exact bd _ hp | exact bd _ hq | exact bd _ hr | exact bd _ hs⟩
  · exact ⟨isQ4.mpr ⟨by grind, by grind⟩, rfl, fun z hz => by simp at hz; rcases hz with e | e | e | e <;> subst e <;> first | exact bd _ hp | exact bd _ hq | exact bd _ hr | exact bd _ hs⟩
  · exact ⟨isQ4.mpr ⟨by grind, by grind⟩, rfl, fun z hz => by simp at hz; rcases hz with e | e | e | e <;> subst e <;> first | exact bd _ hp | exact bd _ hq | exact bd _ hr | exact bd _ hs⟩
theorem isQ_rev {l : List Int} (h : isQ l = true) : isQ l.reverse = true := by
  obtain ⟨p, q, r, s, rfl⟩ := four_of (isQ_len h)
  obtain ⟨g1, g2⟩ := isQ4.mp h
  exact isQ4.mpr ⟨by omega, by grind⟩
theorem faceQ_ok (zs : List Int) (a : Int) : isQ (faceQ zs a) = true ∧ Sq 9 (faceQ zs a) := by
  obtain ⟨h1, h2⟩ := turnQ_ok zs a
  unfold faceQ
  cases decide (zs.getD (a + 2).toNat 0 / 4 % 2 = 1) with
  | true => exact ⟨isQ_rev h1, by simp [h2.1], fun z hz => h2.2 z (by simpa using hz)⟩
  | false => exact ⟨h1, h2⟩
theorem quadF_ok (zs : List Int) (a : Int) : isQ (quadF zs a) = true ∧ Sq 25 (quadF zs a) := by
  obtain ⟨h1, h2⟩ := faceQ_ok zs a
  have key : ∀ (is : List Nat) (l : List Int) (n : Nat), isQ l = true → Sq n l → isQ (is.foldl (fun l (i : Nat) => exq l (zs.getD (a + 4 + (0 + (i : Int))).toNat 0 % 4).toNat) l) = true ∧ Sq (n + 4 * is.length) (is.foldl (fun l (i : Nat) => exq l (zs.getD (a + 4 + (0 + (i : Int))).toNat 0 % 4).toNat) l) := by
    intro is
    induction is with
    | nil => intro l n h1 h2; exact ⟨h1, h2⟩
    | cons i is ih =>
      intro l n h1 h2
      have t1 := Int.emod_nonneg (zs.getD (a + 4 + (0 + (i : Int))).toNat 0) (show (4 : Int) ≠ 0 by decide)
      have t2 := Int.emod_lt_of_pos (zs.getD (a + 4 + (0 + (i : Int))).toNat 0) (show (0 : Int) < 4 by decide)
      obtain ⟨g1, g2⟩ := ih _ (n + 4) (exq_isQ h1 (i := (zs.getD (a + 4 + (0 + (i : Int))).toNat 0 % 4).toNat) (by omega)) (h2.exq _ (by omega))
      exact ⟨g1, g2.mono (by simp only [List.length_cons]; omega)⟩
  obtain ⟨g1, g2⟩ := key (List.range (zs.getD (a + 3).toNat 0 % 5).toNat) _ 9 h1 h2
  refine ⟨g1, g2.mono ?_⟩
  have := Int.emod_lt_of_pos (zs.getD (a + 3).toNat 0) (show (0 : Int) < 5 by decide)
  rw [List.length_range]; omega
abbrev k__law_quadruple : Nat := 2
def ct__law_quadruple : Ct := fun ds r => ∃ (zs : List Int) (a : Int), ds = [.lst (zs.map D.int), .int a] ∧ 0 ≤ a ∧ a + 9 ≤ (zs.length : Int) ∧ (∀ z ∈ zs, 0 ≤ z ∧ z < 1009) ∧ r = .ok (.tup ((quadF zs a).map D.int))
theorem atD {α : Type} {g : α → D} {l : List α} {i : Int} {z : α} (h0 : 0 ≤ i) (h1 : i < (l.length : Int)) : atI (l.map g) i = some (g (l.getD i.toNat z)) := by
  refine atI_map h0 ?_
  have hl : i.toNat < l.length := by omega
  rw [List.getElem?_eq_getElem hl, List.getD_eq_getElem?_getD, List.getElem?_eq_getElem hl]; rfl
theorem b__law_quadruple {X : Cx} {W : WX} {k : Nat} (B : Bg X N__law_quadruple (defScope s__law_quadruple) k W) (hfn : ∀ s, X.fn s = true) (hk : k__law_exchange ≤ k) (py : Py X.mg) (c__law_exchange : Fn X.prog X.w X.K X.mg X.base "_law_exchange" k__law_exchange 2 ct__law_exchange) : BodyOk X N__law_quadruple (defScope s__law_quadruple) k W (defBody s__law_quadruple) 2 ct__law_quadruple := by
  intro ds r hl hc
  obtain ⟨zs, a, rfl, h0, h1, hz, rfl⟩ := hc
  have at_ : ∀ i : Int, 0 ≤ i → i < a + 9 → atI (zs.map D.int) i = some (D.int (zs.getD i.toNat 0)) := fun i g0 g1 => atI_ints g0 (by omega)
  have sm : ∀ i : Int, 0 ≤ i → i < a + 9 → 0 ≤ zs.getD i.toNat 0 ∧ zs.getD i.toNat 0 < 1009 := fun i g0 g1 => by
    refine hz _ ?_
    rw [List.getD_eq_getElem?_getD, List.getElem?_eq_getElem (by omega)]
    exact List.getElem_mem _
  have m0 := sm a h0 (by omega)
  have d0 := Int.emod_nonneg (zs.getD a.toNat 0) (show (9 : Int) ≠ 0 by decide)
  have e0 := Int.emod_lt_of_pos (zs.getD a.toNat 0) (show (0 : Int) < 9 by decide)
  refine dk_done ?_
  -- _law_roots = [(-1, 2, 2, 3), ..]
  refine dk_cons (ds_set B.toBx 2 ((df_lst (da_cons (de_tup (da_cons (de_neg de_int) (da_cons de_int (da_cons de_int (da_cons de_int da_nil))))) (da_cons (de_tup (da_cons (de_neg de_int) (da_cons de_int (da_cons de_int (da_cons de_int da_nil))))) (da_cons (de_tup (da_cons (de_neg de_int) (da_cons de_int (da_cons de_int (da_cons de_int da_nil))))) (da_cons (de_tup (da_cons (de_neg de_int) (da_cons de_int (da_cons de_int (da_cons de_int da_nil))))) (da_cons (de_tup (da_cons (de_neg de_int) (da_cons de_int (da_cons de_int (da_cons de_int da_nil))))) (da_cons (de_tup (da_cons (de_neg de_int) (da_cons de_int (da_cons de_int (da_cons de_int da_nil))))) (da_cons (de_tup (da_cons de_int (da_cons de_int (da_cons de_int (da_cons de_int da_nil))))) da_nil)))))))).of_eq (ds' := rootsQ.map qD) rfl).de) ?_
  -- _law_number = int(_law_numbers_here[_law_at]) % 9
  refine dk_cons (ds_set B.toBx 3 (de_mod (de_int1 B.toBx py.int (de_ixL (de_var B.toBx 0) (de_var B.toBx 1) (at_ a h0 (by omega)))) de_int (by decide))) ?_
  -- _law_root = _law_roots[min(_law_number, 6)]
  refine dk_cons (ds_set B.toBx 4 (de_ixL (de_var B.toBx 2) (de_min2 B.toBd py.min (de_var B.toBx 3) de_int) (atD (g := qD) (z := []) (l := rootsQ) (by split <;> omega) (show (if (6 : Int) < zs.getD a.toNat 0 % 9 then (6 : Int) else zs.getD a.toNat 0 % 9) < 7 by split <;> omega)))) ?_
  -- if _law_number > 6:
  refine dk_meet (ρT := [Sl.val (.lst (zs.map D.int)), .val (.int a), .any, .any, .val (qD (rootQ zs a)), .any, .any, .any, .any]) (dt_gt (de_var B.toBx 3) de_int) (fun h2 => ?_) (fun h2 => ?_) ?_
  · -- _law_k = 2 + int(_law_numbers_here[_law_at] // 9) % 9
    refine dk_cons (ds_set B.toBx 5 (de_add de_int (de_mod (de_int1 B.toBx py.int (de_fdiv (de_ixL (de_var B.toBx 0) (de_var B.toBx 1) (at_ a h0 (by omega))) de_int (divW (by decide)))) de_int (by decide)))) ?_
    have hk9 : (2 + zs.getD a.toNat 0 / 9 % 9).natAbs < 2 ^ 4 := by omega
    have hk10 : (2 + zs.getD a.toNat 0 / 9 % 9 + 1).natAbs < 2 ^ 4 := by omega
    -- _law_root = (-_law_k, _law_k + 1, _law_k * (_law_k + 1), _law_k * (_law_k + 1) + 1)
    refine dk_cons (ds_set B.toBx 4 (de_tup (da_cons (de_neg (de_var B.toBx 5)) (da_cons (de_add (de_var B.toBx 5) de_int) (da_cons (de_mul (de_var B.toBx 5) (de_add (de_var B.toBx 5) de_int) (Sm.mul (n := 4) (m := 4) hk9 hk10)) (da_cons (de_add (de_mul (de_var B.toBx 5) (de_add (de_var B.toBx 5) de_int) (Sm.mul (n := 4) (m := 4) hk9 hk10)) de_int) da_nil)))) (show (4 : Nat) ≤ sizeLine by decide))) ?_
    refine dk_nil (dk_fin (meets ?_))
    unfold rootQ
    rw [show decide ((6 : Int) < zs.getD a.toNat 0 % 9) = true from h2]
    walk_at "le"
  · refine dk_nil (dk_fin (meets ?_))
    unfold rootQ
    rw [show decide ((6 : Int) < zs.getD a.toNat 0 % 9) = false from h2, if_neg (of_decide_eq_false h2)]
    walk_at "le"
  have hr4 := (rootQ_ok zs a).2
  have f0 := Int.emod_nonneg (zs.getD (a + 1).toNat 0) (show (5 : Int) ≠ 0 by decide)
  have f1 := Int.emod_lt_of_pos (zs.getD (a + 1).toNat 0) (show (0 : Int) < 5 by decide)
  have t0 := Int.emod_nonneg (zs.getD (a + 2).toNat 0) (show (4 : Int) ≠ 0 by decide)
  have t1 := Int.emod_lt_of_pos (zs.getD (a + 2).toNat 0) (show (0 : Int) < 4 by decide)
  have r0 := Int.emod_nonneg (zs.getD (a + 3).toNat 0) (show (5 : Int) ≠ 0 by decide)
  have r1 := Int.emod_lt_of_pos (zs.getD (a + 3).toNat 0) (show (0 : Int) < 5 by decide)
  -- _law_factor = [1, 1, 1, 2, 3][int(_law_numbers_here[_law_at + 1]) % 5]
  refine dk_cons (ds_set B.toBx 6 ((de_ixL ((df_lst (da_cons de_int (da_cons de_int (da_cons de_int (da_cons de_int (da_cons de_int da_nil)))))).of_eq (ds' := ([1, 1, 1, 2, 3] : List Int).map D.int) rfl).de (de_mod (de_int1 B.toBx py.int (de_ixL (de_var B.toBx 0) (de_add (de_var B.toBx 1) de_int) (at_ (a + 1) (by omega) (by omega)))) de_int (by decide)) (atI_ints f0 f1)).ofD (show _ = D.int (facQ zs a) from rfl))) ?_
  -- _law_turn = int(_law_numbers_here[_law_at + 2]) % 4
  refine dk_cons (ds_set B.toBx 7 (de_mod (de_int1 B.toBx py.int (de_ixL (de_var B.toBx 0) (de_add (de_var B.toBx 1) de_int) (at_ (a + 2) (by omega) (by omega)))) de_int (by decide))) ?_
  -- _law_four = tuple([_law_factor * _law_number for _law_number in _law_root[_law_turn:] + _law_root[:_law_turn]])
  have fs : ∀ z : Int, IntMulOk (facQ zs a) z := fun z => by
    have := facQ_ok zs a
    have : facQ zs a = 1 ∨ facQ zs a = 2 ∨ facQ zs a = 3 := by omega
    rcases this with e | e | e <;> rw [e] <;> exact mulL (by decide)
  refine dk_cons (ds_set B.toBx 8 ((de_tupleL B.toBx py.tuple (df_lc B [("_law_number", 3)] (di_seq ((de_catT (de_slT (de_var B.toBx 4) (do_some (de_var B.toBx 7)) do_none) (de_slT (de_var B.toBx 4) do_none (do_some (de_var B.toBx 7))) ?_).ofD (d' := .tup (((rootQ zs a).drop (zs.getD (a + 2).toNat 0 % 4).toNat ++ (rootQ zs a).take (zs.getD (a + 2).toNat 0 % 4).toNat).map D.int)) ?_) rfl) (dlc_map _ (f := fun z => D.int (facQ zs a * z)) fun z hz => ⟨_, _, fun q1 => (dg_name (B.blk q1).toBx 3), by decide, fun _ => dts_nil, fun q1 => (de_mul (de_var (B.blk q1).toBx 6) (de_var (B.blk q1).toBx 3) (fs z))⟩) ?_ (blkOk_by (by decide +kernel))).de rfl).ofD (d' := qD (turnQ zs a)) ?_)) ?_
  · rw [cut_fromI _ _ t0, cut_to _ _ t0, List.length_map, List.length_map, List.length_drop, List.length_take]
    exact Nat.le_trans (show _ ≤ 8 by rw [hr4.1]; omega) (by decide)
  · rw [cut_fromI _ _ t0, cut_to _ _ t0, List.map_append]
  · rw [List.length_map, List.length_append, List.length_drop, List.length_take]
    exact Nat.lt_of_le_of_lt (show _ ≤ 8 by rw [hr4.1]; omega) (by decide)
  · unfold turnQ qD; rw [List.map_map]; rfl
  -- if int(_law_numbers_here[_law_at + 2] // 4) % 2 == 1:
  refine dk_meet (ρT := [Sl.val (.lst (zs.map D.int)), .val (.int a), .any, .any, .any, .any, .any, .any, .val (qD (faceQ zs a))]) (dt_eq (de_mod (de_int1 B.toBx py.int (de_fdiv (de_ixL (de_var B.toBx 0) (de_add (de_var B.toBx 1) de_int) (at_ (a + 2) (by omega) (by omega))) de_int (divW (by decide)))) de_int (by decide)) de_int) (fun h2 => ?_) (fun h2 => ?_) ?_
  · -- _law_four = _law_four[::-1]
    refine dk_cons (ds_set B.toBx 8 (de_revT (de_var B.toBx 8))) ?_
    refine dk_nil (dk_fin (meets ?_))
    unfold faceQ qD
    rw [show decide (zs.getD (a + 2).toNat 0 / 4 % 2 = 1) = true from h2, ← List.map_reverse]
    walk_at "le"
  · refine dk_nil (dk_fin (meets ?_))
    unfold faceQ
    rw [show decide (zs.getD (a + 2).toNat 0 / 4 % 2 = 1) = false from h2]
    walk_at "le"
  -- for _law_k in range(int(_law_numbers_here[_law_at + 3]) % 5):
  refine dk_cons (ds_for B.toBd (di_range1 B.toBx py.range (de_mod (de_int1 B.toBx py.int (de_ixL (de_var B.toBx 0) (de_add (de_var B.toBx 1) de_int) (at_ (a + 3) (by omega) (by omega)))) de_int (by decide)) (by omega)) (DFor.foldP (fun l : List Int => [Sl.val (.lst (zs.map D.int)), .val (.int a), .any, .any, .any, .any, .any, .any, .val (qD l)]) (fun i : Nat => D.int (0 + (i : Int))) (fun l (i : Nat) => exq l (zs.getD (a + 4 + (0 + (i : Int))).toNat 0 % 4).toNat) (fun _ l => l.length = 4) (List.range (zs.getD (a + 3).toNat 0 % 5).toNat) [] (faceQ zs a) (faceQ_ok zs a).2.1 ?_).1) ?_
  · intro pre i post l hp h4
    have hi : i < (zs.getD (a + 3).toNat 0 % 5).toNat := List.mem_range.mp (by rw [show List.range (zs.getD (a + 3).toNat 0 % 5).toNat = pre ++ i :: post from hp]; simp)
    have u0 := Int.emod_nonneg (zs.getD (a + 4 + (0 + (i : Int))).toNat 0) (show (4 : Int) ≠ 0 by decide)
    have u1 := Int.emod_lt_of_pos (zs.getD (a + 4 + (0 + (i : Int))).toNat 0) (show (0 : Int) < 4 by decide)
    refine ⟨⟨_, _, dg_name B.toBx 5, ?_⟩, by rw [exq_len, h4]⟩
    -- _law_four = _law_exchange(_law_four, 1 + int(_law_numbers_here[_law_at + 4 + _law_k]) % 4)
    refine dk_cons (ds_set B.toBx 8 (de_call B c__law_exchange hk (da_cons (de_var B.toBx 8) (da_cons (de_add de_int (de_mod (de_int1 B.toBx py.int (de_ixL (de_var B.toBx 0) (de_add (de_add (de_var B.toBx 1) de_int) (de_var B.toBx 5)) (at_ (a + 4 + (0 + (i : Int))) (by omega) (by omega)))) de_int (by decide))) da_nil)) rfl ⟨l, _, rfl, by omega, by rw [h4]; omega, rfl⟩)) ?_
    refine dk_nil (dk_fin (goes_nx ?_))
    rw [show (1 + zs.getD (a + 4 + (0 + (i : Int))).toNat 0 % 4 - 1).toNat = (zs.getD (a + 4 + (0 + (i : Int))).toNat 0 % 4).toNat by omega]
    walk_at "le"
  -- return _law_four
  exact dk_leave (ds_ret (de_var B.toBx 8)) rfl
end Law

namespace Law
abbrev k__law_fits : Nat := 1
def ct__law_fits : Ct := fun ds r => ∃ (l : List Int), ds = [.tup (l.map D.int)] ∧ (∀ z ∈ l, z.natAbs < 2 ^ 1000) ∧ l.length ≤ 7 ∧ r = .ok (.bl (isQ l))
theorem b__law_fits {X : Cx} {W : WX} {k : Nat} (B : Bg X N__law_fits (defScope s__law_fits) k W) (py : Py X.mg) : BodyOk X N__law_fits (defScope s__law_fits) k W (defBody s__law_fits) 1 ct__law_fits := by
  intro ds r hl hc
  obtain ⟨l, rfl, hb, hn, rfl⟩ := hc
  have hs := Sm.sum hb
  have hs2 : Sm 1003 l.sum := by
    show l.sum.natAbs < 2 ^ 1003
    have h7 : l.length * 2 ^ 1000 ≤ 7 * 2 ^ 1000 := Nat.mul_le_mul_right _ hn
    rw [show (2 : Nat) ^ 1003 = 8 * 2 ^ 1000 from by rw [show 1003 = 3 + 1000 from rfl, Nat.pow_add]]
    have : 0 < 2 ^ 1000 := Nat.two_pow_pos 1000
    generalize 2 ^ 1000 = m at *
    omega
  refine dk_done ?_
  -- _law_total = sum(_law_four)
  refine dk_cons (ds_set B.toBx 1 (de_sumQ B.toBd py.sum (de_var B.toBx 0) rfl)) ?_
  -- _law_squares = sum([_law_number * _law_number for _law_number in _law_four])
  refine dk_cons (ds_set B.toBx 2 (de_sumQ (ns := l.map fun z => z * z) B.toBd py.sum (df_lc B [("_law_number", 3)] (di_seq (de_var B.toBx 0) rfl) (dlc_map l (f := fun z => D.int (z * z)) fun z hz => ⟨_, _, fun q1 => (dg_name (B.blk q1).toBx 3), by decide, fun _ => dts_nil, fun q1 => (de_mul (de_var (B.blk q1).toBx 3) (de_var (B.blk q1).toBx 3) (Sm.mul (hb z hz) (hb z hz)))⟩) ?_ (blkOk_by (by decide +kernel))).de ?_)) ?_
  · rw [List.length_map]; exact Nat.lt_of_le_of_lt hn (by decide)
  · show some _ = some _; rw [List.map_map]; rfl
  -- return len(_law_four) == 4 and _law_total > 0 and (_law_total * _law_total == 2 * _law_squares)
  refine dk_leave (ds_ret (de_and (de_eq (de_len B.toBx py.len (de_var B.toBx 0) rfl) de_int) fun h => (de_and (de_gt (de_var B.toBx 1) de_int) fun h => (de_one (de_eq (de_mul (de_var B.toBx 1) (de_var B.toBx 1) (Sm.mul hs2 hs2)) (de_mul de_int (de_var B.toBx 2) (mulL (by decide)))))))) ?_
  show D.bl _ = D.bl (isQ l)
  unfold isQ sqs
  rw [List.length_map]
  congr 2
  by_cases h : l.length = 4
  · rw [decide_eq_true h, decide_eq_true (by omega)]
  · rw [decide_eq_false h, decide_eq_false (by omega)]
abbrev k_law : Nat := 5
def ct_law : Ct := fun ds r => ∃ ns : List Int, ds = [.scr ns] ∧ r = .ok (.bl true)
theorem Sq.rep {n : Nat} {l : List Int} (h : Sq n l) (hn : n ≤ 1800) : (qD l).fine 570 = true := by
  unfold qD
  simp only [D.fine]
  exact fine_map fun z hz => fine_int (two_ten (h.2 z hz) hn)
theorem qD_dep (l : List Int) : (qD l).dep ≤ 1 := by unfold qD; simp only [D.dep]; exact Nat.succ_le_succ (dep_map (fun _ => Nat.le_refl 0) l)
theorem qD_bulk {l : List Int} (h : l.length = 4) : (qD l).bulk ≤ 4 := by
  unfold qD
  simp only [D.bulk]
  have := bulk_map (g := D.int) (m := 0) (l := l) (fun _ _ => Nat.le_refl _)
  omega
theorem rows_rep {n : Nat} {ls : List (List Int)} (h : ∀ q ∈ ls, Sq n q) (hn : n ≤ 1800) (hl : ls.length ≤ 1000) : Shw (.lst (ls.map qD)) :=
  .lst 570 4 (fun q hq => (h q hq).rep hn) (fun q _ => Nat.le_trans (qD_dep q) (by decide)) (fun q hq => qD_bulk (h q hq).1) (by omega) (by decide)
theorem row_rep {n : Nat} {l : List Int} (h : Sq n l) (hn : n ≤ 1800) : Shw (qD l) := .tupW (fun z hz => Nat.lt_of_lt_of_le (h.2 z hz) (Nat.pow_le_pow_right (by decide) hn)) (by rw [h.1]; decide)
theorem b_law {X : Cx} {W : WX} {k : Nat} (B : Bg X N_law (defScope s_law) k W) (hfn : ∀ s, X.fn s = true) (hk1 : k__law_numbers ≤ k) (hk2 : k__law_quadruple ≤ k) (hk3 : k__law_word ≤ k) (hk4 : k_is_quadruple ≤ k) (hk5 : k__law_exchange ≤ k) (hk6 : k_curvatures_along ≤ k) (hk7 : k_curvatures_at ≤ k) (hk8 : k__law_fits ≤ k) (py : Py X.mg) (c__law_numbers : Fn X.prog X.w X.K X.mg X.base "_law_numbers" k__law_numbers 2 ct__law_numbers) (c__law_quadruple : Fn X.prog X.w X.K X.mg X.base "_law_quadruple" k__law_quadruple 2 ct__law_quadruple) (c__law_word : Fn X.prog X.w X.K X.mg X.base "_law_word" k__law_word 3 ct__law_word) (c_is_quadruple : Fn X.prog X.w X.K X.mg X.base "is_quadruple" k_is_quadruple 1 ct_is_quadruple) (c__law_exchange : Fn X.prog X.w X.K X.mg X.base "_law_exchange" k__law_exchange 2 ct__law_exchange) (c_curvatures_along : Fn X.prog X.w X.K X.mg X.base "curvatures_along" k_curvatures_along 2 ct_curvatures_along) (c_curvatures_at : Fn X.prog X.w X.K X.mg X.base "curvatures_at" k_curvatures_at 2 ct_curvatures_at) (c__law_fits : Fn X.prog X.w X.K X.mg X.base "_law_fits" k__law_fits 1 ct__law_fits) : BodyOk X N_law (defScope s_law) k W (defBody s_law) 1 ct_law := by
  intro ds r hl hc
  obtain ⟨ns, rfl, rfl⟩ := hc
  have dr := drawn ns 50 (by decide) (by decide)
  generalize hzs : numF ns 50 = zs at dr
  have zl := dr.len
  have m9 := mod_bd (nth zs 30) 9
  have m4 := mod_bd (nth zs 31) 4
  have m5 := mod_bd (nth zs 36) 5
  refine dk_done ?_
  -- _law_numbers_here = _law_numbers(_law_script, 50)
  refine dk_cons (ds_set B.toBx 1 (de_call B c__law_numbers hk1 (da_cons (de_var B.toBx 0) (da_cons de_int da_nil)) rfl ⟨ns, 50, rfl, by decide, by decide, by rw [hzs]⟩)) ?_
  -- _law_four = _law_quadruple(_law_numbers_here, 0)
  refine dk_cons (ds_set B.toBx 2 (de_call B c__law_quadruple hk2 (da_cons (de_var B.toBx 1) (da_cons de_int da_nil)) rfl ⟨zs, 0, rfl, by decide, by omega, dr.bd, rfl⟩)) ?_
  obtain ⟨hq, hs⟩ := quadF_ok zs 0
  show DK X W _ _ [Sl.val (.scr ns), .val (.lst (zs.map D.int)), .val (.tup ((quadF zs 0).map D.int)), .any, .any, .any, .any, .any, .any, .any, .any, .any]
  generalize quadF zs 0 = q at hq hs
  -- _law_word_here = _law_word(_law_numbers_here, 20, int(_law_numbers_here[30]) % 9)
  refine dk_cons (ds_set B.toBx 3 (de_call B c__law_word hk3 (da_cons (de_var B.toBx 1) (da_cons de_int (da_cons (de_mod (de_int1 B.toBx py.int (de_ixL (de_var B.toBx 1) de_int (dr.at 30))) de_int (by decide)) da_nil))) rfl ⟨zs, 20, _, rfl, by decide, m9.1, by omega, by omega, rfl⟩)) ?_
  have hw : isWord (wordF zs 20 (nth zs 30 % 9)) := wordF_word _ _ _ (by omega)
  have hwl : (wordF zs 20 (nth zs 30 % 9)).length ≤ 9 := by simp [wordF]; omega
  show DK X W _ _ [Sl.val (.scr ns), .val (.lst (zs.map D.int)), .val (qD q), .val (.tup ((wordF zs 20 (nth zs 30 % 9)).map D.int)), .any, .any, .any, .any, .any, .any, .any, .any]
  generalize wordF zs 20 (nth zs 30 % 9) = w at hw hwl
  -- _law_rows = [_law_four]
  refine dk_cons (ds_own B.toBx 4 (df_lst (da_cons (de_var B.toBx 2) da_nil) (show (1 : Nat) ≤ sizeLine by decide))) ?_
  -- for _law_letter in _law_word_here:
  refine dk_cons (ds_for B.toBd (di_seq (de_var B.toBx 3) rfl) (DFor.foldP (fun acc : List (List Int) => [Sl.val (.scr ns), .val (.lst (zs.map D.int)), .val (qD q), .val (.tup (w.map D.int)), .own (acc.map qD), .any, .any, .any, .any, .any, .any, .any]) D.int (fun acc a => acc ++ [exq (acc.getLastD []) (a - 1).toNat]) (fun pre acc => acc.length = pre.length + 1 ∧ ∀ q ∈ acc, q.length = 4) w [] [q] ⟨rfl, by simp; exact hs.1⟩ ?_).1) ?_
  · intro pre a post acc hp ⟨hs, h4⟩
    have ha := hw.1 a (by rw [show w = pre ++ a :: post from hp]; simp)
    have hpl : pre.length < w.length := by have := congrArg List.length hp; simp at this; omega
    have hne : acc ≠ [] := fun e => by rw [e] at hs; simp at hs
    have hlast : (acc.getLastD []).length = 4 := by
      refine h4 _ ?_
      rw [show acc.getLastD [] = acc.getLast hne from by cases acc with | nil => exact absurd rfl hne | cons b l => rfl]
      exact List.getLast_mem hne
    have hat : atI (acc.map qD) ((((acc.map qD).length : Nat) : Int) - 1) = some (qD (acc.getLastD [])) := by
      rw [List.length_map, show ((acc.length : Nat) : Int) - 1 = ((acc.length - 1 : Nat) : Int) by omega]
      refine atI_nat ?_
      rw [List.getElem?_map, show acc.getLastD [] = acc.getLast hne from by cases acc with | nil => exact absurd rfl hne | cons b l => rfl, List.getLast_eq_getElem, List.getElem?_eq_getElem (by omega)]; rfl
    refine ⟨⟨_, _, dg_name B.toBx 5, ?_⟩, by simp [hs], fun q hq => by
      rcases List.mem_append.mp hq with e | e
      · exact h4 q e
      · rw [List.mem_singleton.mp e, exq_len]; exact hlast⟩
    -- _law_rows.append(_law_exchange(_law_rows[len(_law_rows) - 1], _law_letter))
    refine dk_cons (ds_app B.toBx 4 (de_call B c__law_exchange hk5 (da_cons (de_ixO B.toBx 4 (de_sub (de_lend (i := 4) rfl (de_len B.toBx py.len (de_var B.toBx 4) rfl) rfl) de_int) hat) (da_cons (de_var B.toBx 5) da_nil)) rfl ⟨acc.getLastD [], a, rfl, ha.1, by rw [hlast]; omega, rfl⟩) rfl (by rw [List.length_map, hs]; exact Nat.lt_of_le_of_lt (show _ ≤ 20000 by omega) (by decide))) ?_
    refine dk_nil (dk_fin (goes_nx ?_))
    simp only [List.map_append, List.map_cons, List.map_nil]
    walk_at "le"
  have hrows : ∀ p ∈ alongF q w, Sq 400 p := by
    have key : ∀ (w : List Int) (acc : List (List Int)) (n : Nat), acc ≠ [] → (∀ q ∈ acc, Sq n q) → (∀ a ∈ w, 1 ≤ a ∧ a ≤ 4) → ∀ q ∈ w.foldl (fun acc a => acc ++ [exq (acc.getLastD []) (a - 1).toNat]) acc, Sq (n + 4 * w.length) q := by
      intro w
      induction w with
      | nil => intro acc n _ h _; exact h
      | cons a w ih =>
        intro acc n hne h ha q hq
        have hl : Sq n (acc.getLastD []) := by
          refine h _ ?_
          rw [show acc.getLastD [] = acc.getLast hne from by cases acc with | nil => exact absurd rfl hne | cons b l => rfl]
          exact List.getLast_mem hne
        have h1 := ha a List.mem_cons_self
        exact (ih _ (n + 4) (by simp) (fun p hp => by
          rcases List.mem_append.mp hp with e | e
          · exact (h p e).mono (by omega)
          · rw [List.mem_singleton.mp e]; exact hl.exq _ (by omega)) (fun b hb => ha b (List.mem_cons_of_mem _ hb)) q hq).mono (by simp only [List.length_cons]; omega)
    exact fun p hp => (key w [q] 25 (by simp) (fun p hp => by rw [List.mem_singleton.mp hp]; exact hs) hw.1 p hp).mono (by omega)
  have hal : (alongF q w).length = 1 + w.length := (along_inv (fun _ => True) (fun _ _ _ _ _ => True.intro) w [q] (by simp) (fun _ _ => True.intro) hw.1).1
  have hne := along_ne q w
  have hlastS : Sq 400 ((alongF q w).getLastD []) := hrows _ (by
    rw [show (alongF q w).getLastD [] = (alongF q w).getLast hne from by generalize alongF q w = l at hne; cases l with | nil => exact absurd rfl hne | cons b l => rfl]
    exact List.getLast_mem hne)
  have shRows : Shw (.lst ((alongF q w).map qD)) := rows_rep hrows (by decide) (by omega)
  have shLast : Shw (qD ((alongF q w).getLastD [])) := row_rep hlastS (by decide)
  refine dk_freeze 4 rfl ?_
  have hs1000 : Sq 1000 q := hs.mono (by decide)
  -- if repr(curvatures_along(list(_law_four), _law_word_here)) != repr(_law_rows) or ..:
  refine dk_if ((dt_bool (dw_or (dt_neS (de_rep B py.repr (de_call B c_curvatures_along hk6 (da_cons (df_list B.toBx py.list (de_var B.toBx 2) rfl).de (da_cons (de_var B.toBx 3) da_nil)) rfl ⟨_, _, q, w, rfl, rfl, rfl, hs1000, hq, hw, rfl⟩) shRows) (de_rep B py.repr (de_var B.toBx 4) shRows)) fun h => (dw_or1 (dt_neS (de_rep B py.repr (de_call B c_curvatures_at hk7 (da_cons (de_var B.toBx 2) (da_cons (df_list B.toBx py.list (de_var B.toBx 3) rfl).de da_nil)) rfl ⟨_, _, q, w, rfl, rfl, rfl, hs1000, hq, hw, rfl⟩) shLast) (de_rep B py.repr (de_ixL (de_var B.toBx 4) (de_neg de_int) (atI_lastQ (z := []) hne)) shLast))))).ofB (d' := false) ?_) (fun h1 => nomatch h1) (fun h1 => ?_)
  · rw [decide_eq_true (rfl : (qD ((alongF q w).getLastD [])).rep = _), decide_eq_true (rfl : (D.lst ((alongF q w).map qD)).rep = _)]; rfl
  refine dk_nil ?_
  -- _law_place = int(_law_numbers_here[31]) % 4
  refine dk_cons (ds_set B.toBx 6 (de_mod (de_int1 B.toBx py.int (de_ixL (de_var B.toBx 1) de_int (dr.at 31))) de_int (by decide))) ?_
  -- _law_others = [..]
  refine dk_cons (ds_own B.toBx 7 ((df_lst (da_cons (de_tupleL B.toBx py.tuple (df_lc B [("_law_k", 10)] (di_range1 B.toBx py.range de_int (by decide)) (dlc_map (List.range 4) (f := fun i : Nat => D.int (nth zs (32 + (0 + (i : Int))) % 9 - 2)) fun i hi => ⟨_, _, fun q2 => (dg_name (B.blk q2).toBx 10), by decide, fun _ => dts_nil, fun q2 => (de_sub (de_mod (de_int1 (B.blk q2).toBx py.int (de_ixL (de_var (B.blk q2).toBx 1) (de_add de_int (de_var (B.blk q2).toBx 10)) (dr.at _ (by omega) (by have := List.mem_range.mp hi; omega)))) de_int (by decide)) de_int)⟩) (by decide) (blkOk_by (by decide +kernel))).de rfl) (da_cons (de_tupleL B.toBx py.tuple (df_lc B [("_law_number", 11)] (di_seq (de_var B.toBx 2) rfl) (dlc_map q (f := fun z => D.int (-z)) fun z hz => ⟨_, _, fun q1 => (dg_name (B.blk q1).toBx 11), by decide, fun _ => dts_nil, fun q1 => (de_neg (de_var (B.blk q1).toBx 11))⟩) ?_ (blkOk_by (by decide +kernel))).de rfl) (da_cons (de_var B.toBx 2) (da_cons (de_slT (de_var B.toBx 2) do_none (do_some de_int)) da_nil)))) (show (4 : Nat) ≤ sizeLine by decide)).of_eq (ds' := [(List.range 4).map fun i : Nat => nth zs (32 + (0 + (i : Int))) % 9 - 2, q.map fun z => -z, q, q.take 3].map qD) ?_)) ?_
  · rw [List.length_map, hs.1]; decide
  · simp only [List.map_cons, List.map_nil, qD]
    rw [cut_to _ _ (by decide), List.map_map, List.map_map]; rfl
  -- _law_others.append(..)
  refine dk_cons (ds_app B.toBx 7 ((de_catT (de_catT (de_slT (de_var B.toBx 2) do_none (do_some (de_var B.toBx 6))) (de_tup (da_cons (de_sub (de_add (de_ixT (de_var B.toBx 2) (de_var B.toBx 6) (atI_ints m4.1 (by have := hs.1; omega))) (de_mod (de_int1 B.toBx py.int (de_ixL (de_var B.toBx 1) de_int (dr.at 36))) de_int (by decide))) de_int) da_nil) (show (1 : Nat) ≤ sizeLine by decide)) ?_) (de_slT (de_var B.toBx 2) (do_some (de_add (de_var B.toBx 6) de_int)) do_none) ?_).ofD (d' := qD (q.take (nth zs 31 % 4).toNat ++ [q.getD (nth zs 31 % 4).toNat 0 + nth zs 36 % 5 - 2] ++ q.drop (nth zs 31 % 4 + 1).toNat)) ?_) rfl (show (4 : Nat) < sizeLine by decide)) ?_
  · rw [cut_to _ _ m4.1, List.length_map, List.length_take]; exact Nat.le_trans (show _ ≤ 5 by simp [hs.1]; omega) (by decide)
  · rw [cut_to _ _ m4.1, cut_fromI _ _ (by omega), List.length_append, List.length_map, List.length_map, List.length_take, List.length_drop]; exact Nat.le_trans (show _ ≤ 9 by simp [hs.1]; omega) (by decide)
  · rw [cut_to _ _ m4.1, cut_fromI _ _ (by omega)]; simp [qD]
  refine dk_freeze 7 rfl ?_
  -- for _law_other in _law_others:
  have hsmall : ∀ p ∈ [(List.range 4).map fun i : Nat => nth zs (32 + (0 + (i : Int))) % 9 - 2, q.map fun z => -z, q, q.take 3] ++ [q.take (nth zs 31 % 4).toNat ++ [q.getD (nth zs 31 % 4).toNat 0 + nth zs 36 % 5 - 2] ++ q.drop (nth zs 31 % 4 + 1).toNat], p.length ≤ 7 ∧ ∀ z ∈ p, z.natAbs < 2 ^ 1000 := by
    have big : (2 : Nat) ^ 30 ≤ 2 ^ 1000 := Nat.pow_le_pow_right (by decide) (by decide)
    have hq25 : ∀ z ∈ q, z.natAbs < 2 ^ 25 := hs.2
    have up : ∀ z : Int, z.natAbs < 2 ^ 30 → z.natAbs < 2 ^ 1000 := fun z h => Nat.lt_of_lt_of_le h big
    intro p hp
    simp only [List.cons_append, List.nil_append, List.mem_cons, List.not_mem_nil, or_false] at hp
    rcases hp with e | e | e | e | e <;> subst e
    · refine ⟨by simp, fun z hz => up z ?_⟩
      obtain ⟨i, _, rfl⟩ := List.mem_map.mp hz
      have := mod_bd (nth zs (32 + (0 + (i : Int)))) 9
      omega
    · refine ⟨by simp [hs.1], fun z hz => up z ?_⟩
      obtain ⟨y, hy, rfl⟩ := List.mem_map.mp hz
      have := hq25 y hy
      omega
    · exact ⟨by rw [hs.1]; decide, fun z hz => up z (by have := hq25 z hz; omega)⟩
    · exact ⟨by simp [hs.1], fun z hz => up z (by have := hq25 z (List.mem_of_mem_take hz); omega)⟩
    · refine ⟨by simp [hs.1]; omega, fun z hz => up z ?_⟩
      simp only [List.mem_append, List.mem_singleton] at hz
      rcases hz with (hz | hz) | hz
      · have := hq25 z (List.mem_of_mem_take hz); omega
      · have := hq25 (q.getD (nth zs 31 % 4).toNat 0) (by
          rw [List.getD_eq_getElem?_getD, List.getElem?_eq_getElem (by have := hs.1; omega)]; exact List.getElem_mem _)
        omega
      · have := hq25 z (List.mem_of_mem_drop hz); omega
  rw [show ∀ (a : List D) (b : List Int), a ++ [qD b] = a ++ [b].map qD from fun _ _ => rfl, ← List.map_append]
  generalize [(List.range 4).map fun i : Nat => nth zs (32 + (0 + (i : Int))) % 9 - 2, q.map fun z => -z, q, q.take 3] ++ [q.take (nth zs 31 % 4).toNat ++ [q.getD (nth zs 31 % 4).toNat 0 + nth zs 36 % 5 - 2] ++ q.drop (nth zs 31 % 4 + 1).toNat] = others at hsmall
  refine dk_weak (ρ1 := [Sl.val (.scr ns), .val (.lst (zs.map D.int)), .val (qD q), .val (.tup (w.map D.int)), .any, .any, .any, .val (.lst (others.map qD)), .any, .any, .any, .any]) (by walk_at "le") ?_
  refine dk_cons (ds_for B.toBd (di_seq (de_var B.toBx 7) rfl) (DFor.foldP (fun _ : Unit => [Sl.val (.scr ns), .val (.lst (zs.map D.int)), .val (qD q), .val (.tup (w.map D.int)), .any, .any, .any, .val (.lst (others.map qD)), .any, .any, .any, .any]) qD (fun b _ => b) (fun _ _ => True) others [] () True.intro ?_).1) ?_
  · intro pre p post _ hp _
    obtain ⟨p7, pb⟩ := hsmall p (by rw [show others = pre ++ p :: post from hp]; simp)
    refine ⟨⟨_, _, dg_name B.toBx 8, ?_⟩, True.intro⟩
    -- _law_told = is_quadruple(_law_other)
    refine dk_cons (ds_set B.toBx 9 (de_call B c_is_quadruple hk4 (da_cons (de_var B.toBx 8) da_nil) rfl ⟨_, p, rfl, rfl, pb, by omega, rfl⟩)) ?_
    -- if not isinstance(_law_told, bool) or _law_told != _law_fits(_law_other):
    refine dk_if ((dt_bool (dw_or (dt_not (dt_val (de_isi (u := "bool") (p := true) B.toBx py.isinstance py.bool (de_var B.toBx 9) rfl (by decide +kernel) (by decide +kernel)))) fun h => (dw_or1 (dt_neB (de_var B.toBx 9) (de_call B c__law_fits hk8 (da_cons (de_var B.toBx 8) da_nil) rfl ⟨p, rfl, pb, p7, rfl⟩))))).ofB (d' := false) (by simp)) (fun h1 => nomatch h1) (fun h1 => ?_)
    refine dk_nil (dk_nil (dk_fin (goes_nx ?_)))
    walk_at "le"
  -- return True
  exact dk_leave (ds_ret de_bl) rfl
end Law

namespace Law
theorem ends {P : Program} {w : World} {K : PySem.W.Frag} {h : Heap} {mg : Str → Option Value} {fa : Addr} (X : K.In h) (G : h.Ns mainGlobals mg) (hfa : mg "law" = some (.ref fa))
    {aLETTERS : Addr} {ddLETTERS : Option Addr} {nLETTERS : Nat} {slLETTERS : Array (Option Value)} {tLETTERS0 tLETTERS1 tLETTERS2 tLETTERS3 : Nat}
    {CInvalidWord : Addr}
    {CInvalidFour : Addr}
    {f_law_row : Addr} {oc_law_row kV_law_row dc_law_row pm_law_row cd_law_row ct_law_row : Value} {od_law_row an_law_row : Option Addr} {sl_law_row : Array (Option Value)}
    {f_law_numbers : Addr} {oc_law_numbers kV_law_numbers dc_law_numbers pm_law_numbers cd_law_numbers ct_law_numbers : Value} {od_law_numbers an_law_numbers : Option Addr} {sl_law_numbers : Array (Option Value)}
    {fcheck_word : Addr} {occheck_word kVcheck_word dccheck_word pmcheck_word cdcheck_word ctcheck_word : Value} {odcheck_word ancheck_word : Option Addr} {slcheck_word : Array (Option Value)}
    {fis_quadruple : Addr} {ocis_quadruple kVis_quadruple dcis_quadruple pmis_quadruple cdis_quadruple ctis_quadruple : Value} {odis_quadruple anis_quadruple : Option Addr} {slis_quadruple : Array (Option Value)}
    {fcheck_quadruple : Addr} {occheck_quadruple kVcheck_quadruple dccheck_quadruple pmcheck_quadruple cdcheck_quadruple ctcheck_quadruple : Value} {odcheck_quadruple ancheck_quadruple : Option Addr} {slcheck_quadruple : Array (Option Value)}
    {fother_curvature : Addr} {ocother_curvature kVother_curvature dcother_curvature pmother_curvature cdother_curvature ctother_curvature : Value} {odother_curvature another_curvature : Option Addr} {slother_curvature : Array (Option Value)}
    {fexchange : Addr} {ocexchange kVexchange dcexchange pmexchange cdexchange ctexchange : Value} {odexchange anexchange : Option Addr} {slexchange : Array (Option Value)}
    {fcurvatures_along : Addr} {occurvatures_along kVcurvatures_along dccurvatures_along pmcurvatures_along cdcurvatures_along ctcurvatures_along : Value} {odcurvatures_along ancurvatures_along : Option Addr} {slcurvatures_along : Array (Option Value)}
    {fcurvatures_at : Addr} {occurvatures_at kVcurvatures_at dccurvatures_at pmcurvatures_at cdcurvatures_at ctcurvatures_at : Value} {odcurvatures_at ancurvatures_at : Option Addr} {slcurvatures_at : Array (Option Value)}
    {f_law_word : Addr} {oc_law_word kV_law_word dc_law_word pm_law_word cd_law_word ct_law_word : Value} {od_law_word an_law_word : Option Addr} {sl_law_word : Array (Option Value)}
    {f_law_reduced : Addr} {oc_law_reduced kV_law_reduced dc_law_reduced pm_law_reduced cd_law_reduced ct_law_reduced : Value} {od_law_reduced an_law_reduced : Option Addr} {sl_law_reduced : Array (Option Value)}
    {f_law_exchange : Addr} {oc_law_exchange kV_law_exchange dc_law_exchange pm_law_exchange cd_law_exchange ct_law_exchange : Value} {od_law_exchange an_law_exchange : Option Addr} {sl_law_exchange : Array (Option Value)}
    {f_law_quadruple : Addr} {oc_law_quadruple kV_law_quadruple dc_law_quadruple pm_law_quadruple cd_law_quadruple ct_law_quadruple : Value} {od_law_quadruple an_law_quadruple : Option Addr} {sl_law_quadruple : Array (Option Value)}
    {f_law_fits : Addr} {oc_law_fits kV_law_fits dc_law_fits pm_law_fits cd_law_fits ct_law_fits : Value} {od_law_fits an_law_fits : Option Addr} {sl_law_fits : Array (Option Value)}
    {flaw : Addr} {oclaw kVlaw dclaw pmlaw cdlaw ctlaw : Value} {odlaw anlaw : Option Addr} {sllaw : Array (Option Value)}
    (mLETTERS : PySem.W.nsIn K mainGlobals "LETTERS" = some (some (.ref aLETTERS)))
    (kLETTERS : K.lookup aLETTERS = some ⟨.type "tuple", ddLETTERS, .seq #[.int (1) tLETTERS0, .int (2) tLETTERS1, .int (3) tLETTERS2, .int (4) tLETTERS3] nLETTERS, slLETTERS⟩)
    (mInvalidWord : PySem.W.nsIn K mainGlobals "InvalidWord" = some (some (.ref CInvalidWord)))
    (x1InvalidWord : PySem.W.excIn K CInvalidWord [.type "ValueError", .type "Exception", .type "BaseException", .type "object"] "ValueError.__new__" = true)
    (x2InvalidWord : PySem.W.keepIn K (.ref CInvalidWord) = true)
    (x3InvalidWord : PySem.W.subIn K (.ref CInvalidWord) (.type "BaseException") = some true)
    (x4InvalidWord : PySem.W.typeIn K (.ref CInvalidWord) = some (.type "type"))
    (mInvalidFour : PySem.W.nsIn K mainGlobals "InvalidFour" = some (some (.ref CInvalidFour)))
    (x1InvalidFour : PySem.W.excIn K CInvalidFour [.type "ValueError", .type "Exception", .type "BaseException", .type "object"] "ValueError.__new__" = true)
    (x2InvalidFour : PySem.W.keepIn K (.ref CInvalidFour) = true)
    (x3InvalidFour : PySem.W.subIn K (.ref CInvalidFour) (.type "BaseException") = some true)
    (x4InvalidFour : PySem.W.typeIn K (.ref CInvalidFour) = some (.type "type"))
    (zabs : PySem.W.nsIn K mainGlobals "abs" = some none)
    (zall : PySem.W.nsIn K mainGlobals "all" = some none)
    (zany : PySem.W.nsIn K mainGlobals "any" = some none)
    (zbool : PySem.W.nsIn K mainGlobals "bool" = some none)
    (zdict : PySem.W.nsIn K mainGlobals "dict" = some none)
    (zdivmod : PySem.W.nsIn K mainGlobals "divmod" = some none)
    (zenumerate : PySem.W.nsIn K mainGlobals "enumerate" = some none)
    (zint : PySem.W.nsIn K mainGlobals "int" = some none)
    (zisinstance : PySem.W.nsIn K mainGlobals "isinstance" = some none)
    (zlen : PySem.W.nsIn K mainGlobals "len" = some none)
    (zlist : PySem.W.nsIn K mainGlobals "list" = some none)
    (zmax : PySem.W.nsIn K mainGlobals "max" = some none)
    (zmin : PySem.W.nsIn K mainGlobals "min" = some none)
    (zrange : PySem.W.nsIn K mainGlobals "range" = some none)
    (zrepr : PySem.W.nsIn K mainGlobals "repr" = some none)
    (zsorted : PySem.W.nsIn K mainGlobals "sorted" = some none)
    (zstr : PySem.W.nsIn K mainGlobals "str" = some none)
    (zsum : PySem.W.nsIn K mainGlobals "sum" = some none)
    (ztuple : PySem.W.nsIn K mainGlobals "tuple" = some none)
    (ztype : PySem.W.nsIn K mainGlobals "type" = some none)
    (zzip : PySem.W.nsIn K mainGlobals "zip" = some none)
    (zValueError : PySem.W.nsIn K mainGlobals "ValueError" = some none)
    (a_law_row : PySem.W.nsIn K mainGlobals "_law_row" = some (some (.ref f_law_row)))
    (l_law_row : K.lookup f_law_row = some ⟨oc_law_row, od_law_row, .func (PySem.W.fnOf "_law_row" "_law_row" (defArgs s__law_row) (defBody s__law_row) (defScope s__law_row) .none kV_law_row dc_law_row pm_law_row an_law_row cd_law_row ct_law_row), sl_law_row⟩)
    (c_law_row : PySem.W.codeIn K cd_law_row "_law_row" = true)
    (k_law_row : PySem.W.keepIn K (.ref f_law_row) = true)
    (a_law_numbers : PySem.W.nsIn K mainGlobals "_law_numbers" = some (some (.ref f_law_numbers)))
    (l_law_numbers : K.lookup f_law_numbers = some ⟨oc_law_numbers, od_law_numbers, .func (PySem.W.fnOf "_law_numbers" "_law_numbers" (defArgs s__law_numbers) (defBody s__law_numbers) (defScope s__law_numbers) .none kV_law_numbers dc_law_numbers pm_law_numbers an_law_numbers cd_law_numbers ct_law_numbers), sl_law_numbers⟩)
    (c_law_numbers : PySem.W.codeIn K cd_law_numbers "_law_numbers" = true)
    (k_law_numbers : PySem.W.keepIn K (.ref f_law_numbers) = true)
    (acheck_word : PySem.W.nsIn K mainGlobals "check_word" = some (some (.ref fcheck_word)))
    (lcheck_word : K.lookup fcheck_word = some ⟨occheck_word, odcheck_word, .func (PySem.W.fnOf "check_word" "check_word" (defArgs s_check_word) (defBody s_check_word) (defScope s_check_word) .none kVcheck_word dccheck_word pmcheck_word ancheck_word cdcheck_word ctcheck_word), slcheck_word⟩)
    (ccheck_word : PySem.W.codeIn K cdcheck_word "check_word" = true)
    (kcheck_word : PySem.W.keepIn K (.ref fcheck_word) = true)
    (ais_quadruple : PySem.W.nsIn K mainGlobals "is_quadruple" = some (some (.ref fis_quadruple)))
    (lis_quadruple : K.lookup fis_quadruple = some ⟨ocis_quadruple, odis_quadruple, .func (PySem.W.fnOf "is_quadruple" "is_quadruple" (defArgs s_is_quadruple) (defBody s_is_quadruple) (defScope s_is_quadruple) .none kVis_quadruple dcis_quadruple pmis_quadruple anis_quadruple cdis_quadruple ctis_quadruple), slis_quadruple⟩)
    (cis_quadruple : PySem.W.codeIn K cdis_quadruple "is_quadruple" = true)
    (kis_quadruple : PySem.W.keepIn K (.ref fis_quadruple) = true)
    (acheck_quadruple : PySem.W.nsIn K mainGlobals "check_quadruple" = some (some (.ref fcheck_quadruple)))
    (lcheck_quadruple : K.lookup fcheck_quadruple = some ⟨occheck_quadruple, odcheck_quadruple, .func (PySem.W.fnOf "check_quadruple" "check_quadruple" (defArgs s_check_quadruple) (defBody s_check_quadruple) (defScope s_check_quadruple) .none kVcheck_quadruple dccheck_quadruple pmcheck_quadruple ancheck_quadruple cdcheck_quadruple ctcheck_quadruple), slcheck_quadruple⟩)
    (ccheck_quadruple : PySem.W.codeIn K cdcheck_quadruple "check_quadruple" = true)
    (kcheck_quadruple : PySem.W.keepIn K (.ref fcheck_quadruple) = true)
    (aother_curvature : PySem.W.nsIn K mainGlobals "other_curvature" = some (some (.ref fother_curvature)))
    (lother_curvature : K.lookup fother_curvature = some ⟨ocother_curvature, odother_curvature, .func (PySem.W.fnOf "other_curvature" "other_curvature" (defArgs s_other_curvature) (defBody s_other_curvature) (defScope s_other_curvature) .none kVother_curvature dcother_curvature pmother_curvature another_curvature cdother_curvature ctother_curvature), slother_curvature⟩)
    (cother_curvature : PySem.W.codeIn K cdother_curvature "other_curvature" = true)
    (kother_curvature : PySem.W.keepIn K (.ref fother_curvature) = true)
    (aexchange : PySem.W.nsIn K mainGlobals "exchange" = some (some (.ref fexchange)))
    (lexchange : K.lookup fexchange = some ⟨ocexchange, odexchange, .func (PySem.W.fnOf "exchange" "exchange" (defArgs s_exchange) (defBody s_exchange) (defScope s_exchange) .none kVexchange dcexchange pmexchange anexchange cdexchange ctexchange), slexchange⟩)
    (cexchange : PySem.W.codeIn K cdexchange "exchange" = true)
    (kexchange : PySem.W.keepIn K (.ref fexchange) = true)
    (acurvatures_along : PySem.W.nsIn K mainGlobals "curvatures_along" = some (some (.ref fcurvatures_along)))
    (lcurvatures_along : K.lookup fcurvatures_along = some ⟨occurvatures_along, odcurvatures_along, .func (PySem.W.fnOf "curvatures_along" "curvatures_along" (defArgs s_curvatures_along) (defBody s_curvatures_along) (defScope s_curvatures_along) .none kVcurvatures_along dccurvatures_along pmcurvatures_along ancurvatures_along cdcurvatures_along ctcurvatures_along), slcurvatures_along⟩)
    (ccurvatures_along : PySem.W.codeIn K cdcurvatures_along "curvatures_along" = true)
    (kcurvatures_along : PySem.W.keepIn K (.ref fcurvatures_along) = true)
    (acurvatures_at : PySem.W.nsIn K mainGlobals "curvatures_at" = some (some (.ref fcurvatures_at)))
    (lcurvatures_at : K.lookup fcurvatures_at = some ⟨occurvatures_at, odcurvatures_at, .func (PySem.W.fnOf "curvatures_at" "curvatures_at" (defArgs s_curvatures_at) (defBody s_curvatures_at) (defScope s_curvatures_at) .none kVcurvatures_at dccurvatures_at pmcurvatures_at ancurvatures_at cdcurvatures_at ctcurvatures_at), slcurvatures_at⟩)
    (ccurvatures_at : PySem.W.codeIn K cdcurvatures_at "curvatures_at" = true)
    (kcurvatures_at : PySem.W.keepIn K (.ref fcurvatures_at) = true)
    (a_law_word : PySem.W.nsIn K mainGlobals "_law_word" = some (some (.ref f_law_word)))
    (l_law_word : K.lookup f_law_word = some ⟨oc_law_word, od_law_word, .func (PySem.W.fnOf "_law_word" "_law_word" (defArgs s__law_word) (defBody s__law_word) (defScope s__law_word) .none kV_law_word dc_law_word pm_law_word an_law_word cd_law_word ct_law_word), sl_law_word⟩)
    (c_law_word : PySem.W.codeIn K cd_law_word "_law_word" = true)
    (k_law_word : PySem.W.keepIn K (.ref f_law_word) = true)
    (a_law_reduced : PySem.W.nsIn K mainGlobals "_law_reduced" = some (some (.ref f_law_reduced)))
    (l_law_reduced : K.lookup f_law_reduced = some ⟨oc_law_reduced, od_law_reduced, .func (PySem.W.fnOf "_law_reduced" "_law_reduced" (defArgs s__law_reduced) (defBody s__law_reduced) (defScope s__law_reduced) .none kV_law_reduced dc_law_reduced pm_law_reduced an_law_reduced cd_law_reduced ct_law_reduced), sl_law_reduced⟩)
    (c_law_reduced : PySem.W.codeIn K cd_law_reduced "_law_reduced" = true)
    (k_law_reduced : PySem.W.keepIn K (.ref f_law_reduced) = true)
    (a_law_exchange : PySem.W.nsIn K mainGlobals "_law_exchange" = some (some (.ref f_law_exchange)))
    (l_law_exchange : K.lookup f_law_exchange = some ⟨oc_law_exchange, od_law_exchange, .func (PySem.W.fnOf "_law_exchange" "_law_exchange" (defArgs s__law_exchange) (defBody s__law_exchange) (defScope s__law_exchange) .none kV_law_exchange dc_law_exchange pm_law_exchange an_law_exchange cd_law_exchange ct_law_exchange), sl_law_exchange⟩)
    (c_law_exchange : PySem.W.codeIn K cd_law_exchange "_law_exchange" = true)
    (k_law_exchange : PySem.W.keepIn K (.ref f_law_exchange) = true)
    (a_law_quadruple : PySem.W.nsIn K mainGlobals "_law_quadruple" = some (some (.ref f_law_quadruple)))
    (l_law_quadruple : K.lookup f_law_quadruple = some ⟨oc_law_quadruple, od_law_quadruple, .func (PySem.W.fnOf "_law_quadruple" "_law_quadruple" (defArgs s__law_quadruple) (defBody s__law_quadruple) (defScope s__law_quadruple) .none kV_law_quadruple dc_law_quadruple pm_law_quadruple an_law_quadruple cd_law_quadruple ct_law_quadruple), sl_law_quadruple⟩)
    (c_law_quadruple : PySem.W.codeIn K cd_law_quadruple "_law_quadruple" = true)
    (k_law_quadruple : PySem.W.keepIn K (.ref f_law_quadruple) = true)
    (a_law_fits : PySem.W.nsIn K mainGlobals "_law_fits" = some (some (.ref f_law_fits)))
    (l_law_fits : K.lookup f_law_fits = some ⟨oc_law_fits, od_law_fits, .func (PySem.W.fnOf "_law_fits" "_law_fits" (defArgs s__law_fits) (defBody s__law_fits) (defScope s__law_fits) .none kV_law_fits dc_law_fits pm_law_fits an_law_fits cd_law_fits ct_law_fits), sl_law_fits⟩)
    (c_law_fits : PySem.W.codeIn K cd_law_fits "_law_fits" = true)
    (k_law_fits : PySem.W.keepIn K (.ref f_law_fits) = true)
    (alaw : PySem.W.nsIn K mainGlobals "law" = some (some (.ref flaw)))
    (llaw : K.lookup flaw = some ⟨oclaw, odlaw, .func (PySem.W.fnOf "law" "law" (defArgs s_law) (defBody s_law) (defScope s_law) .none kVlaw dclaw pmlaw anlaw cdlaw ctlaw), sllaw⟩)
    (claw : PySem.W.codeIn K cdlaw "law" = true)
    (klaw : PySem.W.keepIn K (.ref flaw) = true) :
    ∃ fd : FuncData, (∀ (s : Shared) (v : Value), BindsTo s fd ⟨[v], []⟩ [("_law_script", v)]) ∧ ∀ base : Heap, K.In base → base.Ns mainGlobals mg → FnG P w K mg base k_law fa fd ["_law_script"] (spOf K mg 1 ct_law) := by
  have e := hfa.symm.trans (PySem.W.mg_of X G alaw)
  cases e
  refine ⟨PySem.W.fnOf "law" "law" (defArgs s_law) (defBody s_law) (defScope s_law) .none kVlaw dclaw pmlaw anlaw cdlaw ctlaw, fun s v => .of_eq rfl, fun base _ _ => ?_⟩
  have G_LETTERS : GlD K mg "LETTERS" d_LETTERS := gl_tup (us := [V.int (1), V.int (2), V.int (3), V.int (4)]) (PySem.W.mg_of X G mLETTERS) kLETTERS (show (4 : Nat) ≤ sizeLine by decide) (.cons ⟨_, rfl⟩ (.cons ⟨_, rfl⟩ (.cons ⟨_, rfl⟩ (.cons ⟨_, rfl⟩ (.nil))))) fun H => .cons (.int _) (.cons (.int _) (.cons (.int _) (.cons (.int _) (.nil))))
  have E_InvalidWord : ExC K mg "InvalidWord" := ⟨_, PySem.W.mg_of X G mInvalidWord, x1InvalidWord, x2InvalidWord, x3InvalidWord, x4InvalidWord⟩
  have E_InvalidFour : ExC K mg "InvalidFour" := ⟨_, PySem.W.mg_of X G mInvalidFour, x1InvalidFour, x2InvalidFour, x3InvalidFour, x4InvalidFour⟩
  have py : Py mg := ⟨PySem.W.mg_none_of X G zabs, PySem.W.mg_none_of X G zall, PySem.W.mg_none_of X G zany, PySem.W.mg_none_of X G zbool, PySem.W.mg_none_of X G zdict, PySem.W.mg_none_of X G zdivmod, PySem.W.mg_none_of X G zenumerate, PySem.W.mg_none_of X G zint, PySem.W.mg_none_of X G zisinstance, PySem.W.mg_none_of X G zlen, PySem.W.mg_none_of X G zlist, PySem.W.mg_none_of X G zmax, PySem.W.mg_none_of X G zmin, PySem.W.mg_none_of X G zrange, PySem.W.mg_none_of X G zrepr, PySem.W.mg_none_of X G zsorted, PySem.W.mg_none_of X G zstr, PySem.W.mg_none_of X G zsum, PySem.W.mg_none_of X G ztuple, PySem.W.mg_none_of X G ztype, PySem.W.mg_none_of X G zzip, PySem.W.mg_none_of X G zValueError⟩
  have K__law_row : Fn P w K mg base "_law_row" k__law_row 2 ct__law_row := fn_known (fun_mk (st := s__law_row) l_law_row c_law_row k_law_row) (PySem.W.mg_of X G a_law_row) sc__law_row rfl ((fun_mk (st := s__law_row) l_law_row c_law_row k_law_row).binds fun _ _ _ _ _ _ us hl => match us, hl with | [_, _], _ => rfl) (k := k__law_row - 1) fun X W B e1 e2 e3 e4 e5 hf => by subst e1 e2 e3 e4 e5; exact b__law_row B py
  have K__law_numbers : Fn P w K mg base "_law_numbers" k__law_numbers 2 ct__law_numbers := fn_known (fun_mk (st := s__law_numbers) l_law_numbers c_law_numbers k_law_numbers) (PySem.W.mg_of X G a_law_numbers) sc__law_numbers rfl ((fun_mk (st := s__law_numbers) l_law_numbers c_law_numbers k_law_numbers).binds fun _ _ _ _ _ _ us hl => match us, hl with | [_, _], _ => rfl) (k := k__law_numbers - 1) fun X W B e1 e2 e3 e4 e5 hf => by subst e1 e2 e3 e4 e5; exact b__law_numbers B (by decide) py K__law_row
  have K_check_word : Fn P w K mg base "check_word" k_check_word 1 ct_check_word := fn_known (fun_mk (st := s_check_word) lcheck_word ccheck_word kcheck_word) (PySem.W.mg_of X G acheck_word) sc_check_word rfl ((fun_mk (st := s_check_word) lcheck_word ccheck_word kcheck_word).binds fun _ _ _ _ _ _ us hl => match us, hl with | [_], _ => rfl) (k := k_check_word - 1) fun X W B e1 e2 e3 e4 e5 hf => by subst e1 e2 e3 e4 e5; exact b_check_word B py G_LETTERS E_InvalidWord
  have K_is_quadruple : Fn P w K mg base "is_quadruple" k_is_quadruple 1 ct_is_quadruple := fn_known (fun_mk (st := s_is_quadruple) lis_quadruple cis_quadruple kis_quadruple) (PySem.W.mg_of X G ais_quadruple) sc_is_quadruple rfl ((fun_mk (st := s_is_quadruple) lis_quadruple cis_quadruple kis_quadruple).binds fun _ _ _ _ _ _ us hl => match us, hl with | [_], _ => rfl) (k := k_is_quadruple - 1) fun X W B e1 e2 e3 e4 e5 hf => by subst e1 e2 e3 e4 e5; exact b_is_quadruple B py
  have K_check_quadruple : Fn P w K mg base "check_quadruple" k_check_quadruple 1 ct_check_quadruple := fn_known (fun_mk (st := s_check_quadruple) lcheck_quadruple ccheck_quadruple kcheck_quadruple) (PySem.W.mg_of X G acheck_quadruple) sc_check_quadruple rfl ((fun_mk (st := s_check_quadruple) lcheck_quadruple ccheck_quadruple kcheck_quadruple).binds fun _ _ _ _ _ _ us hl => match us, hl with | [_], _ => rfl) (k := k_check_quadruple - 1) fun X W B e1 e2 e3 e4 e5 hf => by subst e1 e2 e3 e4 e5; exact b_check_quadruple B (by decide) py K_is_quadruple E_InvalidFour
  have K_other_curvature : Fn P w K mg base "other_curvature" k_other_curvature 2 ct_other_curvature := fn_known (fun_mk (st := s_other_curvature) lother_curvature cother_curvature kother_curvature) (PySem.W.mg_of X G aother_curvature) sc_other_curvature rfl ((fun_mk (st := s_other_curvature) lother_curvature cother_curvature kother_curvature).binds fun _ _ _ _ _ _ us hl => match us, hl with | [_, _], _ => rfl) (k := k_other_curvature - 1) fun X W B e1 e2 e3 e4 e5 hf => by subst e1 e2 e3 e4 e5; exact b_other_curvature B py
  have K_exchange : Fn P w K mg base "exchange" k_exchange 2 ct_exchange := fn_known (fun_mk (st := s_exchange) lexchange cexchange kexchange) (PySem.W.mg_of X G aexchange) sc_exchange rfl ((fun_mk (st := s_exchange) lexchange cexchange kexchange).binds fun _ _ _ _ _ _ us hl => match us, hl with | [_, _], _ => rfl) (k := k_exchange - 1) fun X W B e1 e2 e3 e4 e5 hf => by subst e1 e2 e3 e4 e5; exact b_exchange B (by decide) py K_other_curvature
  have K_curvatures_along : Fn P w K mg base "curvatures_along" k_curvatures_along 2 ct_curvatures_along := fn_known (fun_mk (st := s_curvatures_along) lcurvatures_along ccurvatures_along kcurvatures_along) (PySem.W.mg_of X G acurvatures_along) sc_curvatures_along rfl ((fun_mk (st := s_curvatures_along) lcurvatures_along ccurvatures_along kcurvatures_along).binds fun _ _ _ _ _ _ us hl => match us, hl with | [_, _], _ => rfl) (k := k_curvatures_along - 1) fun X W B e1 e2 e3 e4 e5 hf => by subst e1 e2 e3 e4 e5; exact b_curvatures_along B (by decide) (by decide) (by decide) py K_check_quadruple K_check_word K_exchange
  have K_curvatures_at : Fn P w K mg base "curvatures_at" k_curvatures_at 2 ct_curvatures_at := fn_known (fun_mk (st := s_curvatures_at) lcurvatures_at ccurvatures_at kcurvatures_at) (PySem.W.mg_of X G acurvatures_at) sc_curvatures_at rfl ((fun_mk (st := s_curvatures_at) lcurvatures_at ccurvatures_at kcurvatures_at).binds fun _ _ _ _ _ _ us hl => match us, hl with | [_, _], _ => rfl) (k := k_curvatures_at - 1) fun X W B e1 e2 e3 e4 e5 hf => by subst e1 e2 e3 e4 e5; exact b_curvatures_at B (by decide) py K_curvatures_along
  have K__law_word : Fn P w K mg base "_law_word" k__law_word 3 ct__law_word := fn_known (fun_mk (st := s__law_word) l_law_word c_law_word k_law_word) (PySem.W.mg_of X G a_law_word) sc__law_word rfl ((fun_mk (st := s__law_word) l_law_word c_law_word k_law_word).binds fun _ _ _ _ _ _ us hl => match us, hl with | [_, _, _], _ => rfl) (k := k__law_word - 1) fun X W B e1 e2 e3 e4 e5 hf => by subst e1 e2 e3 e4 e5; exact b__law_word B py
  have K__law_reduced : Fn P w K mg base "_law_reduced" k__law_reduced 1 ct__law_reduced := fn_known (fun_mk (st := s__law_reduced) l_law_reduced c_law_reduced k_law_reduced) (PySem.W.mg_of X G a_law_reduced) sc__law_reduced rfl ((fun_mk (st := s__law_reduced) l_law_reduced c_law_reduced k_law_reduced).binds fun _ _ _ _ _ _ us hl => match us, hl with | [_], _ => rfl) (k := k__law_reduced - 1) fun X W B e1 e2 e3 e4 e5 hf => by subst e1 e2 e3 e4 e5; exact b__law_reduced B py
  have K__law_exchange : Fn P w K mg base "_law_exchange" k__law_exchange 2 ct__law_exchange := fn_known (fun_mk (st := s__law_exchange) l_law_exchange c_law_exchange k_law_exchange) (PySem.W.mg_of X G a_law_exchange) sc__law_exchange rfl ((fun_mk (st := s__law_exchange) l_law_exchange c_law_exchange k_law_exchange).binds fun _ _ _ _ _ _ us hl => match us, hl with | [_, _], _ => rfl) (k := k__law_exchange - 1) fun X W B e1 e2 e3 e4 e5 hf => by subst e1 e2 e3 e4 e5; exact b__law_exchange B py
  have K__law_quadruple : Fn P w K mg base "_law_quadruple" k__law_quadruple 2 ct__law_quadruple := fn_known (fun_mk (st := s__law_quadruple) l_law_quadruple c_law_quadruple k_law_quadruple) (PySem.W.mg_of X G a_law_quadruple) sc__law_quadruple rfl ((fun_mk (st := s__law_quadruple) l_law_quadruple c_law_quadruple k_law_quadruple).binds fun _ _ _ _ _ _ us hl => match us, hl with | [_, _], _ => rfl) (k := k__law_quadruple - 1) fun X W B e1 e2 e3 e4 e5 hf => by subst e1 e2 e3 e4 e5; exact b__law_quadruple B hf (by decide) py K__law_exchange
  have K__law_fits : Fn P w K mg base "_law_fits" k__law_fits 1 ct__law_fits := fn_known (fun_mk (st := s__law_fits) l_law_fits c_law_fits k_law_fits) (PySem.W.mg_of X G a_law_fits) sc__law_fits rfl ((fun_mk (st := s__law_fits) l_law_fits c_law_fits k_law_fits).binds fun _ _ _ _ _ _ us hl => match us, hl with | [_], _ => rfl) (k := k__law_fits - 1) fun X W B e1 e2 e3 e4 e5 hf => by subst e1 e2 e3 e4 e5; exact b__law_fits B py
  exact fn_ok (fun_mk (st := s_law) llaw claw klaw) sc_law rfl (k := k_law - 1) fun X W B e1 e2 e3 e4 e5 hf => by subst e1 e2 e3 e4 e5; exact b_law B hf (by decide) (by decide) (by decide) (by decide) (by decide) (by decide) (by decide) (by decide) py K__law_numbers K__law_quadruple K__law_word K_is_quadruple K__law_exchange K_curvatures_along K_curvatures_at K__law_fits
end Law
open PySem PySem.W PyProof.Rows in
set_option maxRecDepth 100000 in
set_option maxHeartbeats 0 in
theorem PySem.Challenge.cw_fourtouch_k15_curvatures_at_words_holds : PySem.Challenge.rw_fourtouch_k15_curvatures_at_words.Holds := by
  w_on; o_law; k_head; (case hw => w_witness2)
  k_fill
  refine DL.walk_end (l := PySem.Challenge.rw_fourtouch_k15_curvatures_at_words) (n := 63) (k := Law.k_law) (x := "_law_script") (ct := Law.ct_law) rfl (by decide) rfl ⟨rfl, by decide, by decide⟩ (fun w h Y => PySem.W.kIn_of Y) ?F (fun ns _ _ => ⟨ns, rfl, rfl⟩)
  case F =>
    intro w mg fa h KX G hmg
    refine' Law.ends KX G hmg ?mLETTERS ?kLETTERS ?mInvalidWord ?x1InvalidWord ?x2InvalidWord ?x3InvalidWord ?x4InvalidWord ?mInvalidFour ?x1InvalidFour ?x2InvalidFour ?x3InvalidFour ?x4InvalidFour ?zabs ?zall ?zany ?zbool ?zdict ?zdivmod ?zenumerate ?zint ?zisinstance ?zlen ?zlist ?zmax ?zmin ?zrange ?zrepr ?zsorted ?zstr ?zsum ?ztuple ?ztype ?zzip ?zValueError ?a_law_row ?l_law_row ?c_law_row ?k_law_row ?a_law_numbers ?l_law_numbers ?c_law_numbers ?k_law_numbers ?acheck_word ?lcheck_word ?ccheck_word ?kcheck_word ?ais_quadruple ?lis_quadruple ?cis_quadruple ?kis_quadruple ?acheck_quadruple ?lcheck_quadruple ?ccheck_quadruple ?kcheck_quadruple ?aother_curvature ?lother_curvature ?cother_curvature ?kother_curvature ?aexchange ?lexchange ?cexchange ?kexchange ?acurvatures_along ?lcurvatures_along ?ccurvatures_along ?kcurvatures_along ?acurvatures_at ?lcurvatures_at ?ccurvatures_at ?kcurvatures_at ?a_law_word ?l_law_word ?c_law_word ?k_law_word ?a_law_reduced ?l_law_reduced ?c_law_reduced ?k_law_reduced ?a_law_exchange ?l_law_exchange ?c_law_exchange ?k_law_exchange ?a_law_quadruple ?l_law_quadruple ?c_law_quadruple ?k_law_quadruple ?a_law_fits ?l_law_fits ?c_law_fits ?k_law_fits ?alaw ?llaw ?claw ?klaw
    (case mLETTERS => k_is)
    (case kLETTERS => k_is)
    (case mInvalidWord => k_is)
    (case x1InvalidWord => k_exc)
    (case x2InvalidWord => k_is)
    (case x3InvalidWord => k_is)
    (case x4InvalidWord => k_is)
    (case mInvalidFour => k_is)
    (case x1InvalidFour => k_exc)
    (case x2InvalidFour => k_is)
    (case x3InvalidFour => k_is)
    (case x4InvalidFour => k_is)
    (case zabs => k_is)
    (case zall => k_is)
    (case zany => k_is)
    (case zbool => k_is)
    (case zdict => k_is)
    (case zdivmod => k_is)
    (case zenumerate => k_is)
    (case zint => k_is)
    (case zisinstance => k_is)
    (case zlen => k_is)
    (case zlist => k_is)
    (case zmax => k_is)
    (case zmin => k_is)
    (case zrange => k_is)
    (case zrepr => k_is)
    (case zsorted => k_is)
    (case zstr => k_is)
    (case zsum => k_is)
    (case ztuple => k_is)
    (case ztype => k_is)
    (case zzip => k_is)
    (case zValueError => k_is)
    (case a_law_row => k_is)
    (case l_law_row => k_is)
    (case c_law_row => k_is)
    (case k_law_row => k_is)
    (case a_law_numbers => k_is)
    (case l_law_numbers => k_is)
    (case c_law_numbers => k_is)
    (case k_law_numbers => k_is)
    (case acheck_word => k_is)
    (case lcheck_word => k_is)
    (case ccheck_word => k_is)
    (case kcheck_word => k_is)
    (case ais_quadruple => k_is)
    (case lis_quadruple => k_is)
    (case cis_quadruple => k_is)
    (case kis_quadruple => k_is)
    (case acheck_quadruple => k_is)
    (case lcheck_quadruple => k_is)
    (case ccheck_quadruple => k_is)
    (case kcheck_quadruple => k_is)
    (case aother_curvature => k_is)
    (case lother_curvature => k_is)
    (case cother_curvature => k_is)
    (case kother_curvature => k_is)
    (case aexchange => k_is)
    (case lexchange => k_is)
    (case cexchange => k_is)
    (case kexchange => k_is)
    (case acurvatures_along => k_is)
    (case lcurvatures_along => k_is)
    (case ccurvatures_along => k_is)
    (case kcurvatures_along => k_is)
    (case acurvatures_at => k_is)
    (case lcurvatures_at => k_is)
    (case ccurvatures_at => k_is)
    (case kcurvatures_at => k_is)
    (case a_law_word => k_is)
    (case l_law_word => k_is)
    (case c_law_word => k_is)
    (case k_law_word => k_is)
    (case a_law_reduced => k_is)
    (case l_law_reduced => k_is)
    (case c_law_reduced => k_is)
    (case k_law_reduced => k_is)
    (case a_law_exchange => k_is)
    (case l_law_exchange => k_is)
    (case c_law_exchange => k_is)
    (case k_law_exchange => k_is)
    (case a_law_quadruple => k_is)
    (case l_law_quadruple => k_is)
    (case c_law_quadruple => k_is)
    (case k_law_quadruple => k_is)
    (case a_law_fits => k_is)
    (case l_law_fits => k_is)
    (case c_law_fits => k_is)
    (case k_law_fits => k_is)
    (case alaw => k_is)
    (case llaw => k_is)
    (case claw => k_is)
    (case klaw => k_is)
#print axioms PySem.Challenge.cw_fourtouch_k15_curvatures_at_words_holds
