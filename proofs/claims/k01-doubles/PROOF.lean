import PyProof.Rows.All
import Wide.All
import OpenK.AllK
import Wide.FinOn
import HandS.ForMost
import HandS.ForExc
import HandS.CallSlots
import HandS.TryMany
import HandS.Evl
import HandS.Flow
import HandS.IsInst
import HandS.Wide
import HandS.Deep
import HandS.TupAny
import HandS.Style
import HandS.Zip
import PyProof.ReprBulk
import HandS.EndBits
import KE.KTupSum
import HandS.Exc
import HandS.TryOnly
import HandS.ExcIs
import HandS.ExcField
import KE.DataCmp
import PySem.Challenge.RW_fourtouch_k01_doubles_and_relations
set_option Elab.async false
set_option linter.all false
set_option maxRecDepth 100000
set_option maxHeartbeats 4000000
namespace DL
open PySem PySem.Spec PyProof.Rows L2 Evl

/-! ## data -/
inductive D where
  | non
  | bl (b : Bool)
  | int (i : Int)
  | str (x : Str)
  | tup (ds : List D)
  | lst (ds : List D)
  | scr (ns : List Int)
  | obj (c : Str) (fs : List (Str × D))
  | exo (a : Addr) (d : Option Addr) (fs : List (Str × D))

mutual
inductive Rp (K : PySem.W.Frag) (mg : Str → Option Value) (H : Hp) : V → D → Prop
  | non : Rp K mg H .non .non
  | bl (b : Bool) : Rp K mg H (.bl b) (.bl b)
  | int (i : Int) : Rp K mg H (.int i) (.int i)
  | str (x : Str) : Rp K mg H (.str x) (.str x)
  | tup {a : Addr} {xs : List V} {ds : List D} : SqT K H a xs → RpA K mg H xs ds → Rp K mg H (.ref a) (.tup ds)
  | lst {a : Addr} {xs : List V} {ds : List D} : H a = some (.lst xs) → RpA K mg H xs ds → Rp K mg H (.ref a) (.lst ds)
  | scr {a : Addr} {ns : List Int} : SqL K H a (ns.map V.int) → Rp K mg H (.ref a) (.scr ns)
  | obj {a C dx : Addr} {c : Str} {vs : List (Str × V)} {fs : List (Str × D)} : mg c = some (.ref C) → H a = some (.ins C dx vs) → RpF K mg H vs fs → Rp K mg H (.ref a) (.obj c fs)
  | exo (a : Addr) (d : Option Addr) : Rp K mg H (.ref a) (.exo a d [])
  | exf {a dx : Addr} {vs : List (Str × V)} {fs : List (Str × D)} : H dx = some (.xd vs) → RpF K mg H vs fs → Rp K mg H (.ref a) (.exo a (some dx) fs)
inductive RpA (K : PySem.W.Frag) (mg : Str → Option Value) (H : Hp) : List V → List D → Prop
  | nil : RpA K mg H [] []
  | cons {v : V} {vs : List V} {d : D} {ds : List D} : Rp K mg H v d → RpA K mg H vs ds → RpA K mg H (v :: vs) (d :: ds)
inductive RpF (K : PySem.W.Frag) (mg : Str → Option Value) (H : Hp) : List (Str × V) → List (Str × D) → Prop
  | nil : RpF K mg H [] []
  | cons {f : Str} {v : V} {vs : List (Str × V)} {d : D} {ds : List (Str × D)} : Rp K mg H v d → RpF K mg H vs ds → RpF K mg H ((f, v) :: vs) ((f, d) :: ds)
end

section
variable {K : PySem.W.Frag} {mg : Str → Option Value} {H H' : Hp}
mutual
theorem Rp.mono (e : Ex H H') : ∀ (d : D) (v : V), Rp K mg H v d → Rp K mg H' v d
  | .non, _, .non => .non
  | .bl _, _, .bl b => .bl b
  | .int _, _, .int b => .int b
  | .str _, _, .str b => .str b
  | .tup ds, _, .tup h r => .tup (ex_t e h) (RpA.mono e ds _ r)
  | .lst ds, _, .lst h r => .lst (e _ _ h) (RpA.mono e ds _ r)
  | .scr _, _, .scr h => .scr (ex_l e h)
  | .obj c fs, _, .obj m h r => .obj m (e _ _ h) (RpF.mono e fs _ r)
  | .exo _ _ _, _, .exo a d => .exo a d
  | .exo _ _ fs, _, .exf h r => .exf (e _ _ h) (RpF.mono e fs _ r)
theorem RpA.mono (e : Ex H H') : ∀ (ds : List D) (vs : List V), RpA K mg H vs ds → RpA K mg H' vs ds
  | [], _, .nil => .nil
  | d :: ds, _, .cons r t => .cons (Rp.mono e d _ r) (RpA.mono e ds _ t)
theorem RpF.mono (e : Ex H H') : ∀ (ds : List (Str × D)) (vs : List (Str × V)), RpF K mg H vs ds → RpF K mg H' vs ds
  | [], _, .nil => .nil
  | (_, d) :: ds, _, .cons r t => .cons (Rp.mono e d _ r) (RpF.mono e ds _ t)
end
theorem Rp.up {d : D} {v : V} (e : Ex H H') (r : Rp K mg H v d) : Rp K mg H' v d := Rp.mono e d v r
theorem RpA.up {d : List D} {v : List V} (e : Ex H H') (r : RpA K mg H v d) : RpA K mg H' v d := RpA.mono e d v r
theorem RpA.length : ∀ {vs : List V} {ds : List D}, RpA K mg H vs ds → vs.length = ds.length
  | _, _, .nil => rfl
  | _, _, .cons _ t => by simp [RpA.length t]
theorem RpA.get : ∀ {vs : List V} {ds : List D} {i : Nat} {d : D}, RpA K mg H vs ds → ds[i]? = some d → ∃ v, vs[i]? = some v ∧ Rp K mg H v d
  | _, _, i, _, .nil, e => by simp at e
  | _, _, 0, _, .cons r _, e => by simp at e; subst e; exact ⟨_, rfl, r⟩
  | _, _, i + 1, _, .cons _ t, e => by
    obtain ⟨v, h1, h2⟩ := RpA.get (i := i) t (by simpa using e)
    exact ⟨v, by simpa using h1, h2⟩
theorem RpA.getV : ∀ {vs : List V} {ds : List D} {i : Nat} {v : V}, RpA K mg H vs ds → vs[i]? = some v → ∃ d, ds[i]? = some d ∧ Rp K mg H v d
  | _, _, i, _, .nil, e => by simp at e
  | _, _, 0, _, .cons r _, e => by simp at e; subst e; exact ⟨_, rfl, r⟩
  | _, _, i + 1, _, .cons _ t, e => by
    obtain ⟨v, h1, h2⟩ := RpA.getV (i := i) t (by simpa using e)
    exact ⟨v, by simpa using h1, h2⟩
theorem RpA.append : ∀ {vs ws : List V} {ds es : List D}, RpA K mg H vs ds → RpA K mg H ws es → RpA K mg H (vs ++ ws) (ds ++ es)
  | _, _, _, _, .nil, s => s
  | _, _, _, _, .cons r t, s => .cons r (RpA.append t s)
theorem RpA.take : ∀ {vs : List V} {ds : List D} (n : Nat), RpA K mg H vs ds → RpA K mg H (vs.take n) (ds.take n)
  | _, _, 0, _ => .nil
  | _, _, _ + 1, .nil => .nil
  | _, _, n + 1, .cons r t => .cons r (RpA.take n t)
theorem RpA.drop : ∀ {vs : List V} {ds : List D} (n : Nat), RpA K mg H vs ds → RpA K mg H (vs.drop n) (ds.drop n)
  | _, _, 0, r => r
  | _, _, _ + 1, .nil => .nil
  | _, _, n + 1, .cons r t => RpA.drop n t
theorem RpA.set {x : V} {u : D} (r : Rp K mg H x u) : ∀ {xs : List V} {us : List D} (i : Nat), RpA K mg H xs us → RpA K mg H (xs.set i x) (us.set i u)
  | _, _, _, .nil => .nil
  | _, _, 0, .cons _ t => .cons r t
  | _, _, i + 1, .cons q t => .cons q (RpA.set r i t)
theorem RpA.reverse : ∀ {xs : List V} {us : List D}, RpA K mg H xs us → RpA K mg H xs.reverse us.reverse
  | _, _, .nil => .nil
  | _, _, .cons q t => by
    rw [List.reverse_cons, List.reverse_cons]
    exact RpA.append (RpA.reverse t) (.cons q .nil)
theorem RpA.dropLast {xs : List V} {us : List D} (h : RpA K mg H xs us) : RpA K mg H xs.dropLast us.dropLast := by
  rw [List.dropLast_eq_take, List.dropLast_eq_take, h.length]
  exact h.take _
theorem RpA.ints : ∀ {ns : List Int} {vs : List V}, RpA K mg H vs (ns.map D.int) → vs = ns.map V.int
  | [], _, .nil => rfl
  | n :: ns, _, .cons (.int _) t => by rw [RpA.ints t]; rfl
theorem RpA.of_ints : ∀ (ns : List Int), RpA K mg H (ns.map V.int) (ns.map D.int)
  | [] => .nil
  | n :: ns => .cons (.int _) (RpA.of_ints ns)
theorem RpA.bls : ∀ {ns : List Bool} {vs : List V}, RpA K mg H vs (ns.map D.bl) → vs = ns.map V.bl
  | [], _, .nil => rfl
  | n :: ns, _, .cons (.bl _) t => by rw [RpA.bls t]; rfl
theorem RpA.strs : ∀ {ns : List Str} {vs : List V}, RpA K mg H vs (ns.map D.str) → vs = ns.map V.str
  | [], _, .nil => rfl
  | n :: ns, _, .cons (.str _) t => by rw [RpA.strs t]; rfl
theorem RpA.of_strs : ∀ (ns : List Str), RpA K mg H (ns.map V.str) (ns.map D.str)
  | [] => .nil
  | n :: ns => .cons (.str _) (RpA.of_strs ns)
end

/-! ## outcomes -/
inductive R (α : Type) where
  | ok (a : α)
  | ex (c : Str) (fs : List (Str × D))

inductive Sl where
  | any
  | val (d : D)
  | own (ds : List D)
abbrev Rho := List Sl

inductive Out where
  | nx (ρ : Rho)
  | rt (d : D)
  | bk (ρ : Rho)
  | ct (ρ : Rho)
  | ex (c : Str) (fs : List (Str × D)) (ρ : Rho)

/-- F: what stands for good; H: all -/
structure Stp (F H F' H' : Hp) : Prop where
  ef : Ex F F'
  eh : Ex H H'
  sub : Ex F' H'
  ag : ∀ a, H a ≠ none → F' a = F a
theorem Stp.refl {F H : Hp} (h : Ex F H) : Stp F H F H := ⟨Ex.refl _, Ex.refl _, h, fun _ _ => rfl⟩
theorem Stp.trans {F H F1 H1 F2 H2 : Hp} (a : Stp F H F1 H1) (b : Stp F1 H1 F2 H2) : Stp F H F2 H2 :=
  ⟨a.ef.trans b.ef, a.eh.trans b.eh, b.sub, fun x hx => by
    have : H1 x ≠ none := by
      cases e : H x with
      | none => exact absurd e hx
      | some o => rw [a.eh x o e]; simp
    rw [b.ag x this, a.ag x hx]⟩
/-- a new object, for good -/
theorem Stp.new {F H : Hp} {p : Addr} {o : HO} (h : Ex F H) (hp : H p = none) : Stp F H (upd F p o) (upd H p o) := by
  have fp : F p = none := by
    cases e : F p with
    | none => rfl
    | some u => rw [h p u e] at hp; cases hp
  refine ⟨Ex.new fp, Ex.new hp, fun a u e => ?_, fun a ha => ?_⟩
  · by_cases q : a = p
    · subst q; rw [upd_same] at e ⊢; exact e
    · rw [upd_ne q] at e ⊢; exact h a u e
  · have q : a ≠ p := by rintro rfl; exact ha hp
    rw [upd_ne q]
/-- a new object, not yet for good -/
theorem Stp.newO {F H : Hp} {p : Addr} {o : HO} (h : Ex F H) (hp : H p = none) : Stp F H F (upd H p o) :=
  ⟨Ex.refl _, Ex.new hp, h.trans (Ex.new hp), fun _ _ => rfl⟩

def ExR (K : PySem.W.Frag) (mg : Str → Option Value) (cls : Value) (dd : Option Addr) (H : Hp) (c : Str) (fs : List (Str × D)) : Prop :=
  ∃ C, mg c = some (.ref C) ∧ cls = .ref C ∧ (fs = [] → dd = none) ∧ (fs ≠ [] → ∃ d vs, dd = some d ∧ H d = some (.xd vs) ∧ RpF K mg H vs fs)

structure EnvS (K : PySem.W.Frag) (mg : Str → Option Value) (F0 H0 F H : Hp) (σ : L2.St) (ρ : Rho) : Prop where
  st : Stp F0 H0 F H
  len : σ.length = ρ.length
  vals : ∀ (i : Nat) (d : D), ρ[i]? = some (Sl.val d) → ∃ v, σ[i]? = some (some v) ∧ Rp K mg F v d
  owns : ∀ (i : Nat) (ds : List D), ρ[i]? = some (Sl.own ds) → ∃ l xs, σ[i]? = some (some (.ref l)) ∧ H0 l = none ∧ F l = none ∧ H l = some (.lst xs) ∧ RpA K mg F xs ds
  dist : ∀ (i j : Nat) (ds es : List D), i ≠ j → ρ[i]? = some (Sl.own ds) → ρ[j]? = some (Sl.own es) → σ[i]? ≠ σ[j]?

section
variable {K : PySem.W.Frag} {mg : Str → Option Value} {F0 H0 F H F' H' : Hp} {σ : L2.St} {ρ : Rho}
theorem EnvS.sub (e : EnvS K mg F0 H0 F H σ ρ) : Ex F H := e.st.sub
theorem EnvS.step (e : EnvS K mg F0 H0 F H σ ρ) (s : Stp F H F' H') : EnvS K mg F0 H0 F' H' σ ρ := by
  refine ⟨e.st.trans s, e.len, fun i d h => ?_, fun i ds h => ?_, e.dist⟩
  · obtain ⟨v, h1, h2⟩ := e.vals i d h
    exact ⟨v, h1, h2.up s.ef⟩
  · obtain ⟨l, xs, h1, h2, h3, h4, h5⟩ := e.owns i ds h
    refine ⟨l, xs, h1, h2, ?_, s.eh l _ h4, h5.up s.ef⟩
    rw [s.ag l (by rw [h4]; simp), h3]
/-- seen from now on -/
theorem EnvS.now (e : EnvS K mg F0 H0 F H σ ρ) (h : ∀ (i : Nat) (ds : List D), ρ[i]? ≠ some (Sl.own ds)) : EnvS K mg F H F H σ ρ :=
  ⟨Stp.refl e.sub, e.len, e.vals, fun i ds q => absurd q (h i ds), fun i j ds es _ q => absurd q (h i ds)⟩
theorem EnvS.setVal (e : EnvS K mg F0 H0 F H σ ρ) {i : Nat} {v : V} {d : D} (r : Rp K mg F v d) : EnvS K mg F0 H0 F H (σ.set i (some v)) (ρ.set i (.val d)) := by
  have hl := e.len
  refine ⟨e.st, by simp [hl], fun j d' h => ?_, fun j ds h => ?_, fun j k ds es hjk h1 h2 => ?_⟩
  · by_cases q : i = j
    · subst q
      have hi : i < ρ.length := by
        have := List.getElem?_eq_some_iff.mp h
        simpa using this.1
      rw [List.getElem?_set_self hi] at h
      cases h
      exact ⟨v, by rw [List.getElem?_set_self (by omega)], r⟩
    · rw [List.getElem?_set_ne q] at h ⊢
      exact e.vals j d' h
  · by_cases q : i = j
    · subst q
      have hi : i < ρ.length := by
        have := List.getElem?_eq_some_iff.mp h
        simpa using this.1
      rw [List.getElem?_set_self hi] at h
      cases h
    · rw [List.getElem?_set_ne q] at h ⊢
      exact e.owns j ds h
  · have nj : i ≠ j := by
      rintro rfl
      have hi : i < ρ.length := by
        have := List.getElem?_eq_some_iff.mp h1
        simpa using this.1
      rw [List.getElem?_set_self hi] at h1
      cases h1
    have nk : i ≠ k := by
      rintro rfl
      have hi : i < ρ.length := by
        have := List.getElem?_eq_some_iff.mp h2
        simpa using this.1
      rw [List.getElem?_set_self hi] at h2
      cases h2
    rw [List.getElem?_set_ne nj] at h1 ⊢
    rw [List.getElem?_set_ne nk] at h2 ⊢
    exact e.dist j k ds es hjk h1 h2
theorem lt_of_get {α : Type} {l : List α} {i : Nat} {a : α} (h : l[i]? = some a) : i < l.length := (List.getElem?_eq_some_iff.mp h).1
/-- a new list of our own -/
theorem EnvS.setOwn (e : EnvS K mg F0 H0 F H σ ρ) {i : Nat} {l : Addr} {xs : List V} {ds : List D} (h0 : H0 l = none) (hf : F l = none) (hh : H l = some (.lst xs)) (hn : ∀ (j : Nat) (es : List D), ρ[j]? = some (Sl.own es) → σ[j]? ≠ some (some (.ref l)))
    (r : RpA K mg F xs ds) : EnvS K mg F0 H0 F H (σ.set i (some (.ref l))) (ρ.set i (.own ds)) := by
  have hl := e.len
  refine ⟨e.st, by simp [hl], fun j d' h => ?_, fun j es h => ?_, fun j k ds1 es1 hjk h1 h2 => ?_⟩
  · by_cases q : i = j
    · subst q
      have hi : i < ρ.length := by simpa using lt_of_get h
      rw [List.getElem?_set_self hi] at h
      cases h
    · rw [List.getElem?_set_ne q] at h ⊢
      exact e.vals j d' h
  · by_cases q : i = j
    · subst q
      have hi : i < ρ.length := by simpa using lt_of_get h
      rw [List.getElem?_set_self hi] at h
      cases h
      exact ⟨l, xs, by rw [List.getElem?_set_self (by omega)], h0, hf, hh, r⟩
    · rw [List.getElem?_set_ne q] at h ⊢
      exact e.owns j es h
  · by_cases qj : i = j
    · subst qj
      have hi : i < ρ.length := by simpa using lt_of_get h1
      have hk : i ≠ k := hjk
      rw [List.getElem?_set_ne hk] at h2
      rw [List.getElem?_set_self (by omega), List.getElem?_set_ne hk]
      intro z
      exact hn k es1 h2 z.symm
    · rw [List.getElem?_set_ne qj] at h1 ⊢
      by_cases qk : i = k
      · subst qk
        have hi : i < ρ.length := by simpa using lt_of_get h2
        rw [List.getElem?_set_self (by omega)]
        exact hn j ds1 h1
      · rw [List.getElem?_set_ne qk] at h2 ⊢
        exact e.dist j k ds1 es1 hjk h1 h2
/-- an own list changes -/
theorem EnvS.mutOwn (e : EnvS K mg F0 H0 F H σ ρ) {i : Nat} {l : Addr} {xs : List V} {ds es : List D} (hi : ρ[i]? = some (Sl.own ds)) (hs : σ[i]? = some (some (.ref l))) (r : RpA K mg F xs es) :
    EnvS K mg F0 H0 F (upd H l (.lst xs)) σ (ρ.set i (.own es)) := by
  obtain ⟨l', xs', h1, h2, h3, h4, h5⟩ := e.owns i ds hi
  rw [hs] at h1
  cases h1
  have hil := lt_of_get hi
  have hnf : ∀ a o, F a = some o → a ≠ l := by rintro a o q rfl; rw [h3] at q; cases q
  refine ⟨⟨e.st.ef, fun a o q => ?_, fun a o q => ?_, e.st.ag⟩, by simp [e.len], fun j d h => ?_, fun j fs h => ?_, fun j k ds1 es1 hjk h1 h2 => ?_⟩
  · rw [upd_ne (by rintro rfl; rw [h2] at q; cases q)]; exact e.st.eh a o q
  · rw [upd_ne (hnf a o q)]; exact e.sub a o q
  · have q : i ≠ j := by
      rintro rfl
      rw [List.getElem?_set_self hil] at h
      cases h
    rw [List.getElem?_set_ne q] at h
    exact e.vals j d h
  · by_cases q : i = j
    · subst q
      rw [List.getElem?_set_self hil] at h
      cases h
      exact ⟨l, xs, hs, h2, h3, upd_same, r⟩
    · rw [List.getElem?_set_ne q] at h
      obtain ⟨l2, ys, g1, g2, g3, g4, g5⟩ := e.owns j fs h
      refine ⟨l2, ys, g1, g2, g3, ?_, g5⟩
      rw [upd_ne]
      · exact g4
      · rintro rfl
        exact e.dist i j ds fs q hi h (by rw [hs, g1])
  · have f : ∀ (j : Nat) (es1 : List D), (ρ.set i (.own es))[j]? = some (Sl.own es1) → ∃ es2, ρ[j]? = some (Sl.own es2) := fun j es1 h => by
      by_cases q : i = j
      · subst q; exact ⟨ds, hi⟩
      · rw [List.getElem?_set_ne q] at h; exact ⟨es1, h⟩
    obtain ⟨a, ha⟩ := f j ds1 h1
    obtain ⟨b, hb⟩ := f k es1 h2
    exact e.dist j k a b hjk ha hb
/-- an own list is left as it is from now on -/
theorem EnvS.freeze (e : EnvS K mg F0 H0 F H σ ρ) {i : Nat} {ds : List D} (hi : ρ[i]? = some (Sl.own ds)) : ∃ F', EnvS K mg F0 H0 F' H σ (ρ.set i (.val (.lst ds))) ∧ Ex F F' := by
  obtain ⟨l, xs, h1, h2, h3, h4, h5⟩ := e.owns i ds hi
  have hil := lt_of_get hi
  have ef : Ex F (upd F l (.lst xs)) := Ex.new h3
  refine ⟨upd F l (.lst xs), ⟨⟨e.st.ef.trans ef, e.st.eh, fun a o q => ?_, fun a ha => ?_⟩, by simp [e.len], fun j d h => ?_, fun j es h => ?_, fun j k ds1 es1 hjk g1 g2 => ?_⟩, ef⟩
  · by_cases z : a = l
    · subst z; rw [upd_same] at q; cases q; exact h4
    · rw [upd_ne z] at q; exact e.sub a o q
  · rw [upd_ne (by rintro rfl; exact ha h2)]; exact e.st.ag a ha
  · by_cases q : i = j
    · subst q
      rw [List.getElem?_set_self hil] at h
      cases h
      exact ⟨_, h1, .lst upd_same (h5.up ef)⟩
    · rw [List.getElem?_set_ne q] at h
      obtain ⟨v, g1, g2⟩ := e.vals j d h
      exact ⟨v, g1, g2.up ef⟩
  · have q : i ≠ j := by
      rintro rfl
      rw [List.getElem?_set_self hil] at h
      cases h
    rw [List.getElem?_set_ne q] at h
    obtain ⟨l2, ys, g1, g2, g3, g4, g5⟩ := e.owns j es h
    refine ⟨l2, ys, g1, g2, ?_, g4, g5.up ef⟩
    rw [upd_ne]
    · exact g3
    · rintro rfl
      exact e.dist i j ds es q hi h (by rw [h1, g1])
  · have f : ∀ (j : Nat) (es1 : List D), (ρ.set i (.val (.lst ds)))[j]? = some (Sl.own es1) → ρ[j]? = some (Sl.own es1) := fun j es1 h => by
      by_cases q : i = j
      · subst q
        rw [List.getElem?_set_self hil] at h
        cases h
      · rw [List.getElem?_set_ne q] at h; exact h
    exact e.dist j k ds1 es1 hjk (f j ds1 g1) (f k es1 g2)
/-- less is known -/
inductive Le : Rho → Rho → Prop
  | nil : Le [] []
  | any {s : Sl} {a b : Rho} : Le a b → Le (s :: a) (.any :: b)
  | same {s : Sl} {a b : Rho} : Le a b → Le (s :: a) (s :: b)
theorem Le.refl : ∀ (a : Rho), Le a a
  | [] => .nil
  | _ :: a => .same (Le.refl a)
theorem Le.length : ∀ {a b : Rho}, Le a b → a.length = b.length
  | _, _, .nil => rfl
  | _, _, .any t => by simp [t.length]
  | _, _, .same t => by simp [t.length]
theorem Le.get : ∀ {a b : Rho} {i : Nat} {s : Sl}, Le a b → b[i]? = some s → s ≠ .any → a[i]? = some s
  | _, _, i, s, .nil, e, _ => by simp at e
  | _, _, 0, s, .any _, e, n => by simp at e; exact absurd e.symm n
  | _, _, 0, s, .same _, e, n => by simpa using e
  | _, _, i + 1, s, .any t, e, n => by simpa using t.get (i := i) (by simpa using e) n
  | _, _, i + 1, s, .same t, e, n => by simpa using t.get (i := i) (by simpa using e) n
theorem EnvS.weaken {ρ' : Rho} (e : EnvS K mg F0 H0 F H σ ρ) (h : Le ρ ρ') : EnvS K mg F0 H0 F H σ ρ' :=
  ⟨e.st, e.len.trans h.length, fun i d q => e.vals i d (h.get q (by simp)), fun i d q => e.owns i d (h.get q (by simp)), fun i j ds es n q r => e.dist i j ds es n (h.get q (by simp)) (h.get r (by simp))⟩
end
end DL

namespace DL
open PySem PySem.Spec PyProof.Rows L2 Evl

/-! ## weakest readings -/
def wE (X : Cx) (e : Expr) : TE := fun σ H Q => ∃ t, PE X e t ∧ t σ H Q
def wT (X : Cx) (e : Expr) : TT := fun σ H Q => ∃ t, PT X e t ∧ t σ H Q
def wW (X : Cx) (e : Expr) : TT := fun σ H Q => ∃ t, PW X e t ∧ t σ H Q
def wA (X : Cx) (e : List Expr) : TA := fun σ H Q => ∃ t, PA X e t ∧ t σ H Q
def wS (X : Cx) (e : Stmt) : TS := fun D σ H => ∃ t, PS X e t ∧ t D σ H
def wSs (X : Cx) (e : List Stmt) : TS := fun D σ H => ∃ t, PSs X e t ∧ t D σ H
def wG (X : Cx) (e : Expr) : TG := fun v σ H Q => ∃ t, PG X e t ∧ t v σ H Q
def wGs (X : Cx) (e : List Expr) : TGs := fun v σ H Q => ∃ t, PGs X e t ∧ t v σ H Q
def wI (X : Cx) (tg e : Expr) : TI := fun σ H Q => ∃ t, PI X tg e t ∧ t σ H Q
def wTs (X : Cx) (e : List Expr) : TT := fun σ H Q => ∃ t, PTs X e t ∧ t σ H Q
section
variable {X : Cx} {e tg : Expr} {es : List Expr} {st : Stmt} {sts : List Stmt}
theorem pe_w : PE X e (wE X e) := ⟨fun pins s σ H Q I h => by obtain ⟨t, h, q⟩ := h; exact h.run pins s σ H Q I q⟩
theorem pt_w : PT X e (wT X e) := ⟨fun pins s σ H Q I h => by obtain ⟨t, h, q⟩ := h; exact h.run pins s σ H Q I q⟩
theorem pw_w : PW X e (wW X e) := ⟨fun wh pins s σ H Q I h => by obtain ⟨t, h, q⟩ := h; exact h.run wh pins s σ H Q I q⟩
theorem pa_w : PA X es (wA X es) := ⟨fun pos pins s σ H Q I h => by obtain ⟨t, h, q⟩ := h; exact h.run pos pins s σ H Q I q⟩
theorem ps_w : PS X st (wS X st) := ⟨fun pins s σ H D I h => by obtain ⟨t, h, q⟩ := h; exact h.run pins s σ H D I q⟩
theorem pss_w : PSs X sts (wSs X sts) := ⟨fun pins s σ H D I h => by obtain ⟨t, h, q⟩ := h; exact h.run pins s σ H D I q⟩
theorem pg_w : PG X e (wG X e) := ⟨fun pins s σ H v u Q I r h => by obtain ⟨t, h, q⟩ := h; exact h.run pins s σ H v u Q I r q⟩
theorem pgs_w : PGs X es (wGs X es) := ⟨fun pins s σ H v u Q I r h => by obtain ⟨t, h, q⟩ := h; exact h.run pins s σ H v u Q I r q⟩
theorem pi_w : PI X tg e (wI X tg e) := ⟨fun pins s σ H R I h => by obtain ⟨t, h, q⟩ := h; exact h.run pins s σ H R I q⟩
theorem pts_w : PTs X es (wTs X es) := ⟨fun pins s σ H Q I h => by obtain ⟨t, h, q⟩ := h; exact h.run pins s σ H Q I q⟩
end

/-! ## posts -/
def PostE (K : PySem.W.Frag) (mg : Str → Option Value) (W : WX) (σ : L2.St) (F H : Hp) (Q : VK) : R D → Prop
  | .ok d => ∀ v F' H', Stp F H F' H' → Rp K mg F' v d → Q v H'
  | .ex c fs => ∀ cls dd F' H', Stp F H F' H' → ExR K mg cls dd F' c fs → W cls dd σ H'
def PostT (K : PySem.W.Frag) (mg : Str → Option Value) (W : WX) (σ : L2.St) (F H : Hp) (Q : Bool → Hp → Prop) : R Bool → Prop
  | .ok d => ∀ F' H', Stp F H F' H' → Q d H'
  | .ex c fs => ∀ cls dd F' H', Stp F H F' H' → ExR K mg cls dd F' c fs → W cls dd σ H'
def PostA (K : PySem.W.Frag) (mg : Str → Option Value) (W : WX) (σ : L2.St) (F H : Hp) (Q : List V → Hp → Prop) : R (List D) → Prop
  | .ok d => ∀ v F' H', Stp F H F' H' → RpA K mg F' v d → Q v H'
  | .ex c fs => ∀ cls dd F' H', Stp F H F' H' → ExR K mg cls dd F' c fs → W cls dd σ H'
/-- a new list, held by nobody -/
def PostL (K : PySem.W.Frag) (mg : Str → Option Value) (F H : Hp) (Q : VK) (ds : List D) : Prop :=
  ∀ l xs F' H', Stp F H F' H' → F' l = none → H l = none → H' l = some (.lst xs) → RpA K mg F' xs ds → Q (.ref l) H'
def PostS (K : PySem.W.Frag) (mg : Str → Option Value) (W : WX) (F0 H0 : Hp) (Dn : Ends) : Out → Prop
  | .nx ρ => ∀ F H σ, EnvS K mg F0 H0 F H σ ρ → Dn.nx σ H
  | .rt d => ∀ v F H, Stp F0 H0 F H → Rp K mg F v d → Dn.rt v H
  | .bk ρ => ∀ F H σ, EnvS K mg F0 H0 F H σ ρ → Dn.bk σ H
  | .ct ρ => ∀ F H σ, EnvS K mg F0 H0 F H σ ρ → Dn.ct σ H
  | .ex c fs ρ => ∀ cls dd F H σ, EnvS K mg F0 H0 F H σ ρ → ExR K mg cls dd F c fs → W cls dd σ H

def DE (X : Cx) (W : WX) (e : Expr) (ρ : Rho) (r : R D) : Prop := ∀ F0 H0 F H σ Q, EnvS X.K X.mg F0 H0 F H σ ρ → PostE X.K X.mg W σ F H Q r → wE X e σ H Q
def DT (X : Cx) (W : WX) (e : Expr) (ρ : Rho) (r : R Bool) : Prop := ∀ F0 H0 F H σ Q, EnvS X.K X.mg F0 H0 F H σ ρ → PostT X.K X.mg W σ F H Q r → wT X e σ H Q
def DW (X : Cx) (W : WX) (e : Expr) (ρ : Rho) (r : R Bool) : Prop := ∀ F0 H0 F H σ Q, EnvS X.K X.mg F0 H0 F H σ ρ → PostT X.K X.mg W σ F H Q r → wW X e σ H Q
def DTs (X : Cx) (W : WX) (e : List Expr) (ρ : Rho) (r : R Bool) : Prop := ∀ F0 H0 F H σ Q, EnvS X.K X.mg F0 H0 F H σ ρ → PostT X.K X.mg W σ F H Q r → wTs X e σ H Q
def DA (X : Cx) (W : WX) (e : List Expr) (ρ : Rho) (r : R (List D)) : Prop := ∀ F0 H0 F H σ Q, EnvS X.K X.mg F0 H0 F H σ ρ → PostA X.K X.mg W σ F H Q r → wA X e σ H Q
def DF (X : Cx) (W : WX) (e : Expr) (ρ : Rho) (ds : List D) : Prop := ∀ F0 H0 F H σ Q, EnvS X.K X.mg F0 H0 F H σ ρ → PostL X.K X.mg F H Q ds → wE X e σ H Q
def DS (X : Cx) (W : WX) (e : Stmt) (ρ : Rho) (r : Out) : Prop := ∀ F0 H0 F H σ Dn, EnvS X.K X.mg F0 H0 F H σ ρ → PostS X.K X.mg W F0 H0 Dn r → wS X e Dn σ H
def DSs (X : Cx) (W : WX) (e : List Stmt) (ρ : Rho) (r : Out) : Prop := ∀ F0 H0 F H σ Dn, EnvS X.K X.mg F0 H0 F H σ ρ → PostS X.K X.mg W F0 H0 Dn r → wSs X e Dn σ H

/-- names -/
structure Bx (X : Cx) (N : List Str) (sc : Scope) : Prop where
  n : X.N = N
  sc : X.env.scope = sc
  nd : N.Nodup
/-- a body -/
structure Bd (X : Cx) (N : List Str) (sc : Scope) (k : Nat) (W : WX) : Prop extends Bx X N sc where
  calm : X.calm = true
  room : Room k X.A
  tk : Takes X W
  po : PassesOwn (model X.prog X.w) X.A X.env X.xe

section
variable {X : Cx} {W : WX} {e a b c : Expr} {es : List Expr} {ρ : Rho} {N : List Str} {sc : Scope} {k : Nat} {pos : Pos} {x y z : D} {d : D} {r : R D} {F F' H H' : Hp}

theorem PostE.mono {σ : L2.St} {Q Q' : VK} (h : PostE X.K X.mg W σ F H Q r) (hq : ∀ v H', Q v H' → Q' v H') : PostE X.K X.mg W σ F H Q' r := by
  cases r with
  | ok d => exact fun v F' H' s q => hq _ _ (h v F' H' s q)
  | ex c fs => exact h
theorem DE.of_eq {r' : R D} (h : DE X W e ρ r) (q : r = r') : DE X W e ρ r' := q ▸ h
theorem DT.of_eq {r r' : R Bool} (h : DT X W e ρ r) (q : r = r') : DT X W e ρ r' := q ▸ h
theorem DE.ofD {d d' : D} (h : DE X W e ρ (.ok d)) (q : d = d') : DE X W e ρ (.ok d') := q ▸ h
theorem DT.ofB {d d' : Bool} (h : DT X W e ρ (.ok d)) (q : d = d') : DT X W e ρ (.ok d') := q ▸ h
/-- the value that stays as it is -/
theorem DE.use (h : DE X W e ρ (.ok d)) {F0 H0 : Hp} {σ : L2.St} {Q : VK} (E : EnvS X.K X.mg F0 H0 F H σ ρ) (q : ∀ v F' H', Stp F H F' H' → Rp X.K X.mg F' v d → Q v H') : wE X e σ H Q := h F0 H0 F H σ Q E q

/-! ## names, constants -/
theorem de_int {i : Int} {j : Nat} : DE X W (.Constant (.int i) j pos) ρ (.ok (.int i)) := fun F0 H0 F H σ Q E q => ⟨_, pe_int, q _ F H (Stp.refl E.sub) (.int i)⟩
theorem de_str {i : Str} {j : Nat} : DE X W (.Constant (.str i) j pos) ρ (.ok (.str i)) := fun F0 H0 F H σ Q E q => ⟨_, pe_str, q _ F H (Stp.refl E.sub) (.str i)⟩
theorem de_bl {i : Bool} {j : Nat} : DE X W (.Constant (.bool i) j pos) ρ (.ok (.bl i)) := fun F0 H0 F H σ Q E q => ⟨_, pe_bl, q _ F H (Stp.refl E.sub) (.bl i)⟩
theorem de_non {j : Nat} : DE X W (.Constant .none j pos) ρ (.ok .non) := fun F0 H0 F H σ Q E q => ⟨_, pe_non, q _ F H (Stp.refl E.sub) .non⟩
theorem de_var (B : Bx X N sc) (i : Nat) {s : Str} (hN : N[i]? = some s := by rfl) (hr : ρ[i]? = some (Sl.val d) := by rfl)
    (hv : Vis sc s := by first | exact Or.inl rfl | exact Or.inr (Or.inl rfl) | exact Or.inr (Or.inr rfl)) (hd : (s == ("__debug__" : Str)) = false := by decide) (hcd : (s == ("__classdict__" : Str)) = false := by decide) :
    DE X W (.Name s pos) ρ (.ok d) := fun F0 H0 F H σ Q E q => by
  obtain ⟨v, h1, h2⟩ := E.vals i d hr
  exact ⟨_, pe_var (i := i) (by rw [B.n]; exact hN) (by rw [B.sc]; exact hv) hd hcd, v, h1, q v F H (Stp.refl E.sub) h2⟩
/-- a value of the module -/
def GlD (K : PySem.W.Frag) (mg : Str → Option Value) (s : Str) (d : D) : Prop := ∃ v u, mg s = some u ∧ RelV v u ∧ ∀ H, Rp K mg H v d
theorem de_glob (B : Bx X N sc) {s : Str} (hm : GlD X.K X.mg s d) (hg : sc.names.lookup s = some .globalImplicit := by rfl) (hd : (s == ("__debug__" : Str)) = false := by decide) : DE X W (.Name s pos) ρ (.ok d) := fun F0 H0 F H σ Q E q => by
  obtain ⟨v, u, h1, h2, h3⟩ := hm
  exact ⟨_, pe_glob (show X.env.scope.names.lookup s = _ by rw [B.sc]; exact hg) h1 h2 hd, q v F H (Stp.refl E.sub) (h3 F)⟩

/-! ## operators -/
def ROp (K : PySem.W.Frag) (mg : Str → Option Value) (r : R2) (x y z : D) : Prop :=
  ∀ F H vx vy Q, Ex F H → Rp K mg F vx x → Rp K mg F vy y → (∀ v F' H', Stp F H F' H' → Rp K mg F' v z → Q v H') → r vx vy H Q
theorem de_op {op : Operator} {r : R2} (ho : OpR X (binaryOp op) r) (ha : DE X W a ρ (.ok x)) (hb : DE X W b ρ (.ok y)) (hr : ROp X.K X.mg r x y z) : DE X W (.BinOp a op b pos) ρ (.ok z) :=
  fun F0 H0 F H σ Q E q => ⟨_, pe_op ho pe_w pe_w, ha.use E fun v1 F1 H1 s1 r1 => hb.use (E.step s1) fun v2 F2 H2 s2 r2 =>
    hr F2 H2 v1 v2 Q s2.sub (r1.up s2.ef) r2 fun v F3 H3 s3 r3 => q v F3 H3 ((s1.trans s2).trans s3) r3⟩
theorem de_cmp {op : CmpOp} {r : R2} (ho : OpR X (compareOp op) r) (ha : DE X W a ρ (.ok x)) (hb : DE X W b ρ (.ok y)) (hr : ROp X.K X.mg r x y z) (hm : behindInMarks op b = false) : DE X W (.Compare a [op] [b] pos) ρ (.ok z) :=
  fun F0 H0 F H σ Q E q => ⟨_, pe_cmpR ho pe_w pe_w hm, ha.use E fun v1 F1 H1 s1 r1 => hb.use (E.step s1) fun v2 F2 H2 s2 r2 =>
    hr F2 H2 v1 v2 Q s2.sub (r1.up s2.ef) r2 fun v F3 H3 s3 r3 => q v F3 H3 ((s1.trans s2).trans s3) r3⟩
theorem dt_cmp {op : CmpOp} {r : R2} {t : Bool} (ho : OpR X (compareOp op) r) (ha : DE X W a ρ (.ok x)) (hb : DE X W b ρ (.ok y)) (hr : ROp X.K X.mg r x y (.bl t)) (hm : behindInMarks op b = false) : DT X W (.Compare a [op] [b] pos) ρ (.ok t) :=
  fun F0 H0 F H σ Q E q => ⟨_, pt_cmpR ho pe_w pe_w hm, ha.use E fun v1 F1 H1 s1 r1 => hb.use (E.step s1) fun v2 F2 H2 s2 r2 =>
    hr F2 H2 v1 v2 _ s2.sub (r1.up s2.ef) r2 fun v F3 H3 s3 r3 => by cases r3; exact ⟨t, rfl, q F3 H3 ((s1.trans s2).trans s3)⟩⟩
/-- a op b op' c -/
theorem dt_chain {op op' : CmpOp} {r r' : R2} {t u : Bool} (ho : OpR X (compareOp op) r) (ho' : OpR X (compareOp op') r') (ha : DE X W a ρ (.ok x)) (hb : DE X W b ρ (.ok y)) (hc : DE X W c ρ (.ok z)) (hr : ROp X.K X.mg r x y (.bl t)) (hr' : ROp X.K X.mg r' y z (.bl u))
    (hm : lastMarks [op, op'] [b, c] = false := by rfl) (hm' : behindInMarks op b = false := by rfl) : DT X W (.Compare a [op, op'] [b, c] pos) ρ (.ok (t && u)) :=
  fun F0 H0 F H σ Q E q => ⟨_, pt_chain ho ho' pe_w pe_w pe_w hm, ha.use E fun v1 F1 H1 s1 r1 => hb.use (E.step s1) fun v2 F2 H2 s2 r2 =>
    hr F2 H2 v1 v2 _ s2.sub (r1.up s2.ef) r2 fun v F3 H3 s3 r3 => by
      cases r3
      refine ⟨t, rfl, ?_⟩
      cases t with
      | true =>
        refine iteT ?_
        exact hc.use ((E.step (s1.trans s2)).step s3) fun v4 F4 H4 s4 r4 => hr' F4 H4 v2 v4 _ s4.sub (r2.up (s3.ef.trans s4.ef)) r4 fun v5 F5 H5 s5 r5 => by
          cases r5
          exact ⟨u, rfl, q F5 H5 ((((s1.trans s2).trans s3).trans s4).trans s5)⟩
      | false => exact iteF ⟨false, rfl, q F3 H3 ((s1.trans s2).trans s3)⟩⟩
theorem rop_I0 {K : PySem.W.Frag} {mg : Str → Option Value} {g : Int → Int → V} {i j : Int} {z : D} (hz : ∀ H, Rp K mg H (g i j) z) : ROp K mg (rI0 g) (.int i) (.int j) z := fun F H vx vy Q e rx ry q => by
  cases rx; cases ry; exact ⟨i, j, rfl, rfl, q _ F H (Stp.refl e) (hz F)⟩
theorem rop_I {K : PySem.W.Frag} {mg : Str → Option Value} {C : Int → Int → Prop} {g : Int → Int → V} {i j : Int} {z : D} (hc : C i j) (hz : ∀ H, Rp K mg H (g i j) z) : ROp K mg (rI C g) (.int i) (.int j) z := fun F H vx vy Q e rx ry q => by
  cases rx; cases ry; exact ⟨i, j, rfl, rfl, hc, q _ F H (Stp.refl e) (hz F)⟩
variable {i j l : Int}
theorem de_add (ha : DE X W a ρ (.ok (.int i))) (hb : DE X W b ρ (.ok (.int j))) : DE X W (.BinOp a .Add b pos) ρ (.ok (.int (i + j))) := de_op op_add ha hb (rop_I0 fun _ => .int _)
theorem de_sub (ha : DE X W a ρ (.ok (.int i))) (hb : DE X W b ρ (.ok (.int j))) : DE X W (.BinOp a .Sub b pos) ρ (.ok (.int (i - j))) := de_op op_sub ha hb (rop_I0 fun _ => .int _)
theorem op_mulX : OpR X (binaryOp .Mult) (rI IntMulOk fun i j => .int (i * j)) := opI fun _ _ _ _ _ _ _ hc q => mul_int q hc
theorem mulR {i j : Int} (h : (decide (-(2 ^ 64) < j) && decide (j < 2 ^ 64)) = true) : IntMulOk i j := by
  rw [Bool.and_eq_true] at h
  exact .of_right (intBits_le_64 (of_decide_eq_true h.1) (of_decide_eq_true h.2))
theorem mulL {i j : Int} (h : (decide (-(2 ^ 64) < i) && decide (i < 2 ^ 64)) = true) : IntMulOk i j := by
  rw [Bool.and_eq_true] at h
  exact .of_left (intBits_le_64 (of_decide_eq_true h.1) (of_decide_eq_true h.2))
theorem de_mul (ha : DE X W a ρ (.ok (.int i))) (hb : DE X W b ρ (.ok (.int j))) (h : IntMulOk i j) : DE X W (.BinOp a .Mult b pos) ρ (.ok (.int (i * j))) := de_op op_mulX ha hb (rop_I h fun _ => .int _)
theorem de_mod (ha : DE X W a ρ (.ok (.int i))) (hb : DE X W b ρ (.ok (.int j))) (h : 0 < j) : DE X W (.BinOp a .Mod b pos) ρ (.ok (.int (i % j))) := de_op op_mod ha hb (rop_I h fun _ => .int _)
theorem de_fdiv (ha : DE X W a ρ (.ok (.int i))) (hb : DE X W b ρ (.ok (.int j))) (h : CDivW i j) : DE X W (.BinOp a .FloorDiv b pos) ρ (.ok (.int (i / j))) := de_op op_fdivW ha hb (rop_I h fun _ => .int _)
theorem de_pow (ha : DE X W a ρ (.ok (.int i))) (hb : DE X W b ρ (.ok (.int j))) (h : CPow i j) : DE X W (.BinOp a .Pow b pos) ρ (.ok (.int (i ^ j.toNat))) := de_op op_pow ha hb (rop_I h fun _ => .int _)
theorem de_neg (ha : DE X W a ρ (.ok (.int i))) : DE X W (.UnaryOp .USub a pos) ρ (.ok (.int (-i))) :=
  fun F0 H0 F H σ Q E q => ⟨_, pe_un un_neg pe_w, ha.use E fun v1 F1 H1 s1 r1 => by cases r1; exact ⟨i, rfl, q _ F1 H1 s1 (.int _)⟩⟩
theorem de_lt (ha : DE X W a ρ (.ok (.int i))) (hb : DE X W b ρ (.ok (.int j))) : DE X W (.Compare a [.Lt] [b] pos) ρ (.ok (.bl (decide (i < j)))) := de_cmp op_lt ha hb (rop_I0 fun _ => .bl _) (nomark _)
theorem de_le (ha : DE X W a ρ (.ok (.int i))) (hb : DE X W b ρ (.ok (.int j))) : DE X W (.Compare a [.LtE] [b] pos) ρ (.ok (.bl (decide (i ≤ j)))) := de_cmp op_le ha hb (rop_I0 fun _ => .bl _) (nomark _)
theorem de_gt (ha : DE X W a ρ (.ok (.int i))) (hb : DE X W b ρ (.ok (.int j))) : DE X W (.Compare a [.Gt] [b] pos) ρ (.ok (.bl (decide (j < i)))) := de_cmp op_gt ha hb (rop_I0 fun _ => .bl _) (nomark _)
theorem de_ge (ha : DE X W a ρ (.ok (.int i))) (hb : DE X W b ρ (.ok (.int j))) : DE X W (.Compare a [.GtE] [b] pos) ρ (.ok (.bl (decide (j ≤ i)))) := de_cmp op_ge ha hb (rop_I0 fun _ => .bl _) (nomark _)
theorem dt_lt (ha : DE X W a ρ (.ok (.int i))) (hb : DE X W b ρ (.ok (.int j))) : DT X W (.Compare a [.Lt] [b] pos) ρ (.ok (decide (i < j))) := dt_cmp op_lt ha hb (rop_I0 fun _ => .bl _) (nomark _)
theorem dt_le (ha : DE X W a ρ (.ok (.int i))) (hb : DE X W b ρ (.ok (.int j))) : DT X W (.Compare a [.LtE] [b] pos) ρ (.ok (decide (i ≤ j))) := dt_cmp op_le ha hb (rop_I0 fun _ => .bl _) (nomark _)
theorem dt_gt (ha : DE X W a ρ (.ok (.int i))) (hb : DE X W b ρ (.ok (.int j))) : DT X W (.Compare a [.Gt] [b] pos) ρ (.ok (decide (j < i))) := dt_cmp op_gt ha hb (rop_I0 fun _ => .bl _) (nomark _)
theorem dt_ge (ha : DE X W a ρ (.ok (.int i))) (hb : DE X W b ρ (.ok (.int j))) : DT X W (.Compare a [.GtE] [b] pos) ρ (.ok (decide (j ≤ i))) := dt_cmp op_ge ha hb (rop_I0 fun _ => .bl _) (nomark _)
theorem dt_le_lt (ha : DE X W a ρ (.ok (.int i))) (hb : DE X W b ρ (.ok (.int j))) (hc : DE X W c ρ (.ok (.int l))) (hm : lastMarks [.LtE, .Lt] [b, c] = false := by rfl) (hm' : behindInMarks .LtE b = false := by rfl) : DT X W (.Compare a [.LtE, .Lt] [b, c] pos) ρ (.ok (decide (i ≤ j) && decide (j < l))) :=
  dt_chain op_le op_lt ha hb hc (rop_I0 fun _ => .bl _) (rop_I0 fun _ => .bl _) hm hm'
theorem dt_le_le (ha : DE X W a ρ (.ok (.int i))) (hb : DE X W b ρ (.ok (.int j))) (hc : DE X W c ρ (.ok (.int l))) (hm : lastMarks [.LtE, .LtE] [b, c] = false := by rfl) (hm' : behindInMarks .LtE b = false := by rfl) : DT X W (.Compare a [.LtE, .LtE] [b, c] pos) ρ (.ok (decide (i ≤ j) && decide (j ≤ l))) :=
  dt_chain op_le op_le ha hb hc (rop_I0 fun _ => .bl _) (rop_I0 fun _ => .bl _) hm hm'

/-! ## equality -/
/-- scalars -/
def sD : D → Option V
  | .non => some .non
  | .bl b => some (.bl b)
  | .int i => some (.int i)
  | .str x => some (.str x)
  | _ => none
theorem sD_rp {K : PySem.W.Frag} {mg : Str → Option Value} {v w : V} (h : sD x = some w) (r : Rp K mg H v x) : v = w := by
  cases r <;> simp [sD] at h <;> exact h
theorem rop_eq {K : PySem.W.Frag} {mg : Str → Option Value} {v w : V} {t : Bool} (hx : sD x = some v) (hy : sD y = some w) (hs : scal v w = true) (ht : decide (v = w) = t) : ROp K mg rEq x y (.bl t) := fun F H vx vy Q e rx ry q => by
  cases sD_rp hx rx; cases sD_rp hy ry
  exact ⟨hs, q _ F H (Stp.refl e) (by rw [ht]; exact .bl _)⟩
theorem rop_ne {K : PySem.W.Frag} {mg : Str → Option Value} {v w : V} {t : Bool} (hx : sD x = some v) (hy : sD y = some w) (hs : scal v w = true) (ht : (!decide (v = w)) = t) : ROp K mg rNe x y (.bl t) := fun F H vx vy Q e rx ry q => by
  cases sD_rp hx rx; cases sD_rp hy ry
  exact ⟨hs, q _ F H (Stp.refl e) (by rw [ht]; exact .bl _)⟩
theorem decI : decide (V.int i = V.int j) = decide (i = j) := by
  by_cases h : i = j
  · subst h; simp
  · rw [decide_eq_false h, decide_eq_false (fun q => h (V.int.inj q))]
theorem decB {i j : Bool} : decide (V.bl i = V.bl j) = (i == j) := dec_bl
theorem decS {i j : Str} : decide (V.str i = V.str j) = decide (i = j) := by
  by_cases h : i = j
  · subst h; simp
  · rw [decide_eq_false h, decide_eq_false (fun q => h (V.str.inj q))]
theorem de_eq (ha : DE X W a ρ (.ok (.int i))) (hb : DE X W b ρ (.ok (.int j))) : DE X W (.Compare a [.Eq] [b] pos) ρ (.ok (.bl (decide (i = j)))) := de_cmp op_eq ha hb (rop_eq rfl rfl rfl decI) (nomark _)
theorem de_ne (ha : DE X W a ρ (.ok (.int i))) (hb : DE X W b ρ (.ok (.int j))) : DE X W (.Compare a [.NotEq] [b] pos) ρ (.ok (.bl (!decide (i = j)))) := de_cmp op_ne ha hb (rop_ne rfl rfl rfl (by rw [decI])) (nomark _)
theorem dt_eq (ha : DE X W a ρ (.ok (.int i))) (hb : DE X W b ρ (.ok (.int j))) : DT X W (.Compare a [.Eq] [b] pos) ρ (.ok (decide (i = j))) := dt_cmp op_eq ha hb (rop_eq rfl rfl rfl decI) (nomark _)
theorem dt_ne (ha : DE X W a ρ (.ok (.int i))) (hb : DE X W b ρ (.ok (.int j))) : DT X W (.Compare a [.NotEq] [b] pos) ρ (.ok (!decide (i = j))) := dt_cmp op_ne ha hb (rop_ne rfl rfl rfl (by rw [decI])) (nomark _)
variable {u v : Str} {p q : Bool}
theorem de_eqS (ha : DE X W a ρ (.ok (.str u))) (hb : DE X W b ρ (.ok (.str v))) : DE X W (.Compare a [.Eq] [b] pos) ρ (.ok (.bl (decide (u = v)))) := de_cmp op_eq ha hb (rop_eq rfl rfl rfl decS) (nomark _)
theorem de_neS (ha : DE X W a ρ (.ok (.str u))) (hb : DE X W b ρ (.ok (.str v))) : DE X W (.Compare a [.NotEq] [b] pos) ρ (.ok (.bl (!decide (u = v)))) := de_cmp op_ne ha hb (rop_ne rfl rfl rfl (by rw [decS])) (nomark _)
theorem dt_eqS (ha : DE X W a ρ (.ok (.str u))) (hb : DE X W b ρ (.ok (.str v))) : DT X W (.Compare a [.Eq] [b] pos) ρ (.ok (decide (u = v))) := dt_cmp op_eq ha hb (rop_eq rfl rfl rfl decS) (nomark _)
theorem dt_neS (ha : DE X W a ρ (.ok (.str u))) (hb : DE X W b ρ (.ok (.str v))) : DT X W (.Compare a [.NotEq] [b] pos) ρ (.ok (!decide (u = v))) := dt_cmp op_ne ha hb (rop_ne rfl rfl rfl (by rw [decS])) (nomark _)
theorem de_eqB (ha : DE X W a ρ (.ok (.bl p))) (hb : DE X W b ρ (.ok (.bl q))) : DE X W (.Compare a [.Eq] [b] pos) ρ (.ok (.bl (p == q))) := de_cmp op_eq ha hb (rop_eq rfl rfl rfl decB) (nomark _)
theorem de_neB (ha : DE X W a ρ (.ok (.bl p))) (hb : DE X W b ρ (.ok (.bl q))) : DE X W (.Compare a [.NotEq] [b] pos) ρ (.ok (.bl (!(p == q)))) := de_cmp op_ne ha hb (rop_ne rfl rfl rfl (by rw [decB])) (nomark _)
theorem dt_eqB (ha : DE X W a ρ (.ok (.bl p))) (hb : DE X W b ρ (.ok (.bl q))) : DT X W (.Compare a [.Eq] [b] pos) ρ (.ok (p == q)) := dt_cmp op_eq ha hb (rop_eq rfl rfl rfl decB) (nomark _)
theorem dt_neB (ha : DE X W a ρ (.ok (.bl p))) (hb : DE X W b ρ (.ok (.bl q))) : DT X W (.Compare a [.NotEq] [b] pos) ρ (.ok (!(p == q))) := dt_cmp op_ne ha hb (rop_ne rfl rfl rfl (by rw [decB])) (nomark _)

/-! data as a whole -/
mutual
def D.py : D → PyData
  | .non => .none
  | .bl b => .bool b
  | .int i => .int i
  | .str x => .str x
  | .tup ds => .tuple (pyAll ds)
  | .lst ds => .list (pyAll ds)
  | .scr _ => .none
  | .obj _ _ => .none
  | .exo _ _ _ => .none
def pyAll : List D → List PyData
  | [] => []
  | d :: ds => d.py :: pyAll ds
end
mutual
def D.plain : D → Bool
  | .tup ds => plainAll ds
  | .lst ds => plainAll ds
  | .scr _ => false
  | .obj _ _ => false
  | .exo _ _ _ => false
  | .str x => PyData.strOk x
  | _ => true
def plainAll : List D → Bool
  | [] => true
  | d :: ds => d.plain && plainAll ds
end
mutual
def D.dep : D → Nat
  | .tup ds => depAll ds + 1
  | .lst ds => depAll ds + 1
  | _ => 0
def depAll : List D → Nat
  | [] => 0
  | d :: ds => max d.dep (depAll ds)
end
/-! no lists within -/
mutual
def D.lfree : D → Bool
  | .tup ds => lfreeAll ds
  | .lst _ => false
  | .scr _ => false
  | .obj _ _ => false
  | .exo _ _ _ => false
  | _ => true
def lfreeAll : List D → Bool
  | [] => true
  | d :: ds => d.lfree && lfreeAll ds
end
section
variable {K : PySem.W.Frag} {mg : Str → Option Value}
mutual
theorem Rp.dp : ∀ (d : D) (v : V), d.plain = true → Rp K mg H v d → Dp K H v d.py
  | .non, _, _, .non => .non
  | .bl _, _, _, .bl b => .bl b
  | .int _, _, _, .int b => .int b
  | .str _, _, _, .str b => .str b
  | .tup ds, _, p, .tup h r => .tup h (RpA.dp ds _ (by simpa [D.plain] using p) r)
  | .lst ds, _, p, .lst h r => .lst (SqL.of h) (RpA.dp ds _ (by simpa [D.plain] using p) r)
  | .scr _, _, p, _ => by simp [D.plain] at p
  | .obj _ _, _, p, _ => by simp [D.plain] at p
  | .exo _ _ _, _, p, _ => by simp [D.plain] at p
theorem RpA.dp : ∀ (ds : List D) (vs : List V), plainAll ds = true → RpA K mg H vs ds → DpAll K H vs (pyAll ds)
  | [], _, _, .nil => .nil
  | d :: ds, _, p, .cons r t => by
    have p' : d.plain = true ∧ plainAll ds = true := by simpa [plainAll] using p
    exact .cons (Rp.dp d _ p'.1 r) (RpA.dp ds _ p'.2 t)
end
end
mutual
theorem lay_py : ∀ (d : D), d.plain = true → PyData.canLay0 d.py = true
  | .non, _ => by simp [D.py, PyData.canLay0]
  | .bl _, _ => by simp [D.py, PyData.canLay0]
  | .int _, _ => by simp [D.py, PyData.canLay0]
  | .str _, p => by simpa [D.py, PyData.canLay0, D.plain] using p
  | .tup ds, p => by simp [D.py, PyData.canLay0, lay_pyAll ds (by simpa [D.plain] using p)]
  | .lst ds, p => by simp [D.py, PyData.canLay0, lay_pyAll ds (by simpa [D.plain] using p)]
  | .scr _, _ => by simp [D.py, PyData.canLay0]
  | .obj _ _, _ => by simp [D.py, PyData.canLay0]
  | .exo _ _ _, _ => by simp [D.py, PyData.canLay0]
theorem lay_pyAll : ∀ (ds : List D), plainAll ds = true → PyData.canLayAll0 (pyAll ds) = true
  | [], _ => by simp [pyAll, PyData.canLayAll0]
  | d :: ds, p => by
    have p' : d.plain = true ∧ plainAll ds = true := by simpa [plainAll] using p
    simp [pyAll, PyData.canLayAll0, lay_py d p'.1, lay_pyAll ds p'.2]
end
mutual
theorem dep_py : ∀ (d : D), PyData.depth d.py = d.dep
  | .non => by simp [D.py, PyData.depth, D.dep]
  | .bl _ => by simp [D.py, PyData.depth, D.dep]
  | .int _ => by simp [D.py, PyData.depth, D.dep]
  | .str _ => by simp [D.py, PyData.depth, D.dep]
  | .tup ds => by simp [D.py, PyData.depth, D.dep, dep_pyAll ds]
  | .lst ds => by simp [D.py, PyData.depth, D.dep, dep_pyAll ds]
  | .scr _ => by simp [D.py, PyData.depth, D.dep]
  | .obj _ _ => by simp [D.py, PyData.depth, D.dep]
  | .exo _ _ _ => by simp [D.py, PyData.depth, D.dep]
theorem dep_pyAll : ∀ (ds : List D), PyData.depthAll (pyAll ds) = depAll ds
  | [] => by simp [pyAll, PyData.depthAll, depAll]
  | d :: ds => by simp [pyAll, PyData.depthAll, depAll, dep_py d, dep_pyAll ds]
end
def Sh (d : D) : Prop := d.plain = true ∧ d.dep ≤ 64
theorem Sh.shaped (h : Sh d) : SeqAt.shaped d.py = true := by
  show (PyData.canLay0 d.py && decide (PyData.depth d.py ≤ 64)) = true
  rw [lay_py _ h.1, dep_py, Bool.true_and]
  exact decide_eq_true h.2
def eqD (x y : D) : Bool := PyData.eqv x.py y.py
theorem rop_eqD {K : PySem.W.Frag} {mg : Str → Option Value} (hx : Sh x) (hy : Sh y) : ROp K mg (rEqD K) x y (.bl (eqD x y)) := fun F H vx vy Q e rx ry q =>
  ⟨x.py, y.py, Rp.dp x _ hx.1 (rx.up e), Rp.dp y _ hy.1 (ry.up e), hx.shaped, hy.shaped, q _ F H (Stp.refl e) (.bl _)⟩
theorem rop_neD {K : PySem.W.Frag} {mg : Str → Option Value} (hx : Sh x) (hy : Sh y) : ROp K mg (rNeD K) x y (.bl (!eqD x y)) := fun F H vx vy Q e rx ry q =>
  ⟨x.py, y.py, Rp.dp x _ hx.1 (rx.up e), Rp.dp y _ hy.1 (ry.up e), hx.shaped, hy.shaped, q _ F H (Stp.refl e) (.bl _)⟩
theorem de_eqD (B : Bd X N sc k W) (ha : DE X W a ρ (.ok x)) (hb : DE X W b ρ (.ok y)) (hx : Sh x) (hy : Sh y) : DE X W (.Compare a [.Eq] [b] pos) ρ (.ok (.bl (eqD x y))) := de_cmp (op_eqD B.room.units) ha hb (rop_eqD hx hy) (nomark _)
theorem de_neD (B : Bd X N sc k W) (ha : DE X W a ρ (.ok x)) (hb : DE X W b ρ (.ok y)) (hx : Sh x) (hy : Sh y) : DE X W (.Compare a [.NotEq] [b] pos) ρ (.ok (.bl (!eqD x y))) := de_cmp (op_neD B.room.units) ha hb (rop_neD hx hy) (nomark _)
theorem dt_eqD (B : Bd X N sc k W) (ha : DE X W a ρ (.ok x)) (hb : DE X W b ρ (.ok y)) (hx : Sh x) (hy : Sh y) : DT X W (.Compare a [.Eq] [b] pos) ρ (.ok (eqD x y)) := dt_cmp (op_eqD B.room.units) ha hb (rop_eqD hx hy) (nomark _)
theorem dt_neD (B : Bd X N sc k W) (ha : DE X W a ρ (.ok x)) (hb : DE X W b ρ (.ok y)) (hx : Sh x) (hy : Sh y) : DT X W (.Compare a [.NotEq] [b] pos) ρ (.ok (!eqD x y)) := dt_cmp (op_neD B.room.units) ha hb (rop_neD hx hy) (nomark _)
end
end DL

namespace DL
open PySem PySem.Spec PyProof.Rows L2 Evl
section
variable {X : Cx} {W : WX} {e a b c : Expr} {es rest : List Expr} {ρ : Rho} {N : List Str} {sc : Scope} {k : Nat} {pos : Pos} {x y z : D} {d : D} {r : R D} {F F' H H' : Hp} {p q s t : Bool}

/-! ## tests -/
theorem dt_val (ha : DE X W e ρ (.ok (.bl p))) (he : ∀ whole, isTrue e X.env whole = (do let v ← whole; standAt e.pos; holding [v] (truthy v)) := by intro _; rfl) : DT X W e ρ (.ok p) :=
  fun F0 H0 F H σ Q E q => ⟨_, pt_val pe_w he, ha.use E fun v F1 H1 s1 r1 => by cases r1; exact ⟨p, rfl, q F1 H1 s1⟩⟩
/-- truth -/
def truth : D → Option Bool
  | .non => some false
  | .bl b => some b
  | .int i => some (i != 0)
  | .str x => some ((x.length : Int) != 0)
  | .tup ds => some (!ds.isEmpty)
  | .lst ds => some (!ds.isEmpty)
  | .scr _ => none
  | .obj _ _ => none
  | .exo _ _ _ => none
def lenOk : D → Prop
  | .str x => x.length ≤ sizeLine
  | _ => True
theorem isEmpty_rp {K : PySem.W.Frag} {mg : Str → Option Value} {xs : List V} {ds : List D} (r : RpA K mg H xs ds) : xs.isEmpty = ds.isEmpty := by cases r <;> rfl
theorem truV_rp {K : PySem.W.Frag} {mg : Str → Option Value} {v : V} (r : Rp K mg H v x) (h : truth x = some p) (hl : lenOk x) : TruV K v H p := by
  cases r with
  | non => simp [truth] at h; subst h; rfl
  | bl b => simp [truth] at h; subst h; rfl
  | int b => simp [truth] at h; subst h; rfl
  | str b => simp only [truth, Option.some.injEq] at h; subst h; exact ⟨hl, rfl⟩
  | tup h1 h2 => simp only [truth, Option.some.injEq] at h; subst h; exact .inr (.inl ⟨_, h1, by rw [isEmpty_rp h2]⟩)
  | lst h1 h2 => simp only [truth, Option.some.injEq] at h; subst h; exact .inl ⟨_, SqL.of h1, by rw [isEmpty_rp h2]⟩
  | scr => simp [truth] at h
  | obj => simp [truth] at h
  | exo => simp [truth] at h
  | exf => simp [truth] at h
theorem dt_truth (ha : DE X W e ρ (.ok x)) (ht : truth x = some p) (hl : lenOk x := by exact True.intro) (he : ∀ whole, isTrue e X.env whole = (do let v ← whole; standAt e.pos; holding [v] (truthy v)) := by intro _; rfl) : DT X W e ρ (.ok p) :=
  fun F0 H0 F H σ Q E q => ⟨_, pt_truth pe_w he, ha.use E fun v F1 H1 s1 r1 => ⟨p, truV_rp (r1.up s1.sub) ht hl, q F1 H1 s1⟩⟩
/-- the truth of an own list -/
theorem dt_own (B : Bx X N sc) (i : Nat) {s : Str} {ds : List D} (hN : N[i]? = some s := by rfl) (hr : ρ[i]? = some (Sl.own ds) := by rfl)
    (hv : Vis sc s := by first | exact Or.inl rfl | exact Or.inr (Or.inl rfl) | exact Or.inr (Or.inr rfl)) (hd : (s == ("__debug__" : Str)) = false := by decide) (hcd : (s == ("__classdict__" : Str)) = false := by decide) :
    DT X W (.Name s pos) ρ (.ok (!ds.isEmpty)) := fun F0 H0 F H σ Q E q => by
  obtain ⟨l, xs, h1, h2, h3, h4, h5⟩ := E.owns i ds hr
  refine ⟨_, pt_truth (pe_var (i := i) (by rw [B.n]; exact hN) (by rw [B.sc]; exact hv) hd hcd) (by intro _; rfl), _, h1, !ds.isEmpty, .inl ⟨xs, SqL.of h4, by rw [isEmpty_rp h5]⟩, q F H (Stp.refl E.sub)⟩
theorem DT.use (h : DT X W e ρ (.ok p)) {F0 H0 : Hp} {σ : L2.St} {Q : Bool → Hp → Prop} (E : EnvS X.K X.mg F0 H0 F H σ ρ) (q : ∀ F' H', Stp F H F' H' → Q p H') : wT X e σ H Q := h F0 H0 F H σ Q E q
theorem DW.use (h : DW X W e ρ (.ok p)) {F0 H0 : Hp} {σ : L2.St} {Q : Bool → Hp → Prop} (E : EnvS X.K X.mg F0 H0 F H σ ρ) (q : ∀ F' H', Stp F H F' H' → Q p H') : wW X e σ H Q := h F0 H0 F H σ Q E q
theorem dt_not (ha : DT X W a ρ (.ok p)) : DT X W (.UnaryOp .Not a pos) ρ (.ok (!p)) := fun F0 H0 F H σ Q E q => ⟨_, pt_not pt_w, ha.use E fun F1 H1 s1 => q F1 H1 s1⟩
theorem dt_bool {op : BoolOp} (h : DW X W (.BoolOp op es pos) ρ (.ok p)) : DT X W (.BoolOp op es pos) ρ (.ok p) := fun F0 H0 F H σ Q E q => ⟨_, pw_w.pt, h.use E q⟩
theorem dw_and1 (ha : DT X W a ρ (.ok p)) : DW X W (.BoolOp .And [a] pos) ρ (.ok p) := fun F0 H0 F H σ Q E q => ⟨_, pw_and1 pt_w, ha.use E q⟩
theorem dw_or1 (ha : DT X W a ρ (.ok p)) : DW X W (.BoolOp .Or [a] pos) ρ (.ok p) := fun F0 H0 F H σ Q E q => ⟨_, pw_or1 pt_w, ha.use E q⟩
theorem dw_and (ha : DT X W a ρ (.ok p)) (hb : p = true → DW X W (.BoolOp .And (b :: rest) pos) ρ (.ok t)) : DW X W (.BoolOp .And (a :: b :: rest) pos) ρ (.ok (p && t)) :=
  fun F0 H0 F H σ Q E q => ⟨_, pw_and pt_w pw_w, ha.use E fun F1 H1 s1 => by
    cases p with
    | true => exact iteT ((hb rfl).use (E.step s1) fun F2 H2 s2 => q F2 H2 (s1.trans s2))
    | false => exact iteF (q F1 H1 s1)⟩
theorem dw_or (ha : DT X W a ρ (.ok p)) (hb : p = false → DW X W (.BoolOp .Or (b :: rest) pos) ρ (.ok t)) : DW X W (.BoolOp .Or (a :: b :: rest) pos) ρ (.ok (p || t)) :=
  fun F0 H0 F H σ Q E q => ⟨_, pw_or pt_w pw_w, ha.use E fun F1 H1 s1 => by
    cases p with
    | true => exact iteT (q F1 H1 s1)
    | false => exact iteF ((hb rfl).use (E.step s1) fun F2 H2 s2 => q F2 H2 (s1.trans s2))⟩
/-- the first decides -/
theorem dw_andF (ha : DT X W a ρ (.ok false)) : DW X W (.BoolOp .And (a :: b :: rest) pos) ρ (.ok false) := dw_and (t := false) ha fun q => nomatch q
theorem dw_orT (ha : DT X W a ρ (.ok true)) : DW X W (.BoolOp .Or (a :: b :: rest) pos) ρ (.ok true) := dw_or (t := true) ha fun q => nomatch q
/-! .. as values -/
theorem de_one {op : BoolOp} (h : DE X W a ρ r) : DE X W (.BoolOp op [a] pos) ρ r := fun F0 H0 F H σ Q E q => ⟨_, pe_one pe_w, h F0 H0 F H σ Q E q⟩
theorem de_and (ha : DE X W a ρ (.ok (.bl p))) (hb : p = true → DE X W (.BoolOp .And (b :: rest) pos) ρ (.ok (.bl t))) : DE X W (.BoolOp .And (a :: b :: rest) pos) ρ (.ok (.bl (p && t))) :=
  fun F0 H0 F H σ Q E q => ⟨_, L2.pe_and pe_w pe_w, ha.use E fun v F1 H1 s1 r1 => by
    cases r1
    refine ⟨p, rfl, ?_⟩
    cases p with
    | true => exact iteT ((hb rfl).use (E.step s1) fun v F2 H2 s2 r2 => q v F2 H2 (s1.trans s2) r2)
    | false => exact iteF (q _ F1 H1 s1 (.bl _))⟩
theorem de_or (ha : DE X W a ρ (.ok (.bl p))) (hb : p = false → DE X W (.BoolOp .Or (b :: rest) pos) ρ (.ok (.bl t))) : DE X W (.BoolOp .Or (a :: b :: rest) pos) ρ (.ok (.bl (p || t))) :=
  fun F0 H0 F H σ Q E q => ⟨_, L2.pe_or pe_w pe_w, ha.use E fun v F1 H1 s1 r1 => by
    cases r1
    refine ⟨p, rfl, ?_⟩
    cases p with
    | true => exact iteT (q _ F1 H1 s1 (.bl _))
    | false => exact iteF ((hb rfl).use (E.step s1) fun v F2 H2 s2 r2 => q v F2 H2 (s1.trans s2) r2)⟩
theorem de_not (ha : DE X W a ρ (.ok (.bl p))) : DE X W (.UnaryOp .Not a pos) ρ (.ok (.bl (!p))) := fun F0 H0 F H σ Q E q => ⟨_, pe_not pe_w, ha.use E fun v F1 H1 s1 r1 => by cases r1; exact ⟨p, rfl, q _ F1 H1 s1 (.bl _)⟩⟩
/-- not x by truth -/
theorem de_if (ht : DT X W c ρ (.ok p)) (ha : p = true → DE X W a ρ r) (hb : p = false → DE X W b ρ r) : DE X W (.IfExp c a b pos) ρ r :=
  fun F0 H0 F H σ Q E q => ⟨_, pe_ifExp pt_w pe_w pe_w, ht.use E fun F1 H1 s1 => by
    have q' : PostE X.K X.mg W σ F1 H1 Q r := by
      cases r with
      | ok d => exact fun v F' H' s q2 => q v F' H' (s1.trans s) q2
      | ex c fs => exact fun cls dd F' H' s q2 => q cls dd F' H' (s1.trans s) q2
    cases p with
    | true => exact iteT (ha rfl F0 H0 F1 H1 σ Q (E.step s1) q')
    | false => exact iteF (hb rfl F0 H0 F1 H1 σ Q (E.step s1) q')⟩
/-! ## is None, is True -/
def isNon : D → Bool
  | .non => true
  | _ => false
theorem isNon_rp {K : PySem.W.Frag} {mg : Str → Option Value} {v : V} (r : Rp K mg H v x) : decide (v = V.non) = isNon x := by
  cases r <;> simp [isNon]
theorem rop_isN {K : PySem.W.Frag} {mg : Str → Option Value} : ROp K mg (fun x y H Q => y = .non ∧ Q (.bl (decide (x = .non))) H) x .non (.bl (isNon x)) := fun F H vx vy Q e rx ry q => by
  cases ry
  exact ⟨rfl, q _ F H (Stp.refl e) (by rw [isNon_rp rx]; exact .bl _)⟩
theorem rop_notN {K : PySem.W.Frag} {mg : Str → Option Value} : ROp K mg (fun x y H Q => y = .non ∧ Q (.bl (!decide (x = .non))) H) x .non (.bl (!isNon x)) := fun F H vx vy Q e rx ry q => by
  cases ry
  exact ⟨rfl, q _ F H (Stp.refl e) (by rw [isNon_rp rx]; exact .bl _)⟩
theorem dt_isN {j : Nat} {p2 : Pos} (ha : DE X W a ρ (.ok x)) : DT X W (.Compare a [.Is] [.Constant .none j p2] pos) ρ (.ok (isNon x)) := dt_cmp op_isN ha de_non rop_isN (nomark _)
theorem dt_notN {j : Nat} {p2 : Pos} (ha : DE X W a ρ (.ok x)) : DT X W (.Compare a [.IsNot] [.Constant .none j p2] pos) ρ (.ok (!isNon x)) := dt_cmp op_notN ha de_non rop_notN (nomark _)
theorem de_isN {j : Nat} {p2 : Pos} (ha : DE X W a ρ (.ok x)) : DE X W (.Compare a [.Is] [.Constant .none j p2] pos) ρ (.ok (.bl (isNon x))) := de_cmp op_isN ha de_non rop_isN (nomark _)
theorem de_notN {j : Nat} {p2 : Pos} (ha : DE X W a ρ (.ok x)) : DE X W (.Compare a [.IsNot] [.Constant .none j p2] pos) ρ (.ok (.bl (!isNon x))) := de_cmp op_notN ha de_non rop_notN (nomark _)
/-- bools by is -/
theorem rop_isB {K : PySem.W.Frag} {mg : Str → Option Value} : ROp K mg rIsB (.bl p) (.bl q) (.bl (decide (p = q))) := fun F H vx vy Q e rx ry k => by
  cases rx; cases ry; exact ⟨p, q, rfl, rfl, k _ F H (Stp.refl e) (.bl _)⟩
theorem rop_notB {K : PySem.W.Frag} {mg : Str → Option Value} : ROp K mg rNotB (.bl p) (.bl q) (.bl (!decide (p = q))) := fun F H vx vy Q e rx ry k => by
  cases rx; cases ry; exact ⟨p, q, rfl, rfl, k _ F H (Stp.refl e) (.bl _)⟩
theorem dt_isB (ha : DE X W a ρ (.ok (.bl p))) (hb : DE X W b ρ (.ok (.bl q))) : DT X W (.Compare a [.Is] [b] pos) ρ (.ok (decide (p = q))) := dt_cmp op_isBl ha hb rop_isB (nomark _)
theorem dt_notB (ha : DE X W a ρ (.ok (.bl p))) (hb : DE X W b ρ (.ok (.bl q))) : DT X W (.Compare a [.IsNot] [b] pos) ρ (.ok (!decide (p = q))) := dt_cmp op_notBl ha hb rop_notB (nomark _)
theorem de_isB (ha : DE X W a ρ (.ok (.bl p))) (hb : DE X W b ρ (.ok (.bl q))) : DE X W (.Compare a [.Is] [b] pos) ρ (.ok (.bl (decide (p = q)))) := de_cmp op_isBl ha hb rop_isB (nomark _)

/-! ## argument lists, displays -/
theorem DA.use {ds : List D} (h : DA X W es ρ (.ok ds)) {F0 H0 : Hp} {σ : L2.St} {Q : List V → Hp → Prop} (E : EnvS X.K X.mg F0 H0 F H σ ρ) (q : ∀ v F' H', Stp F H F' H' → RpA X.K X.mg F' v ds → Q v H') : wA X es σ H Q := h F0 H0 F H σ Q E q
theorem da_nil : DA X W [] ρ (.ok []) := fun F0 H0 F H σ Q E q => ⟨_, pa_nil, q [] F H (Stp.refl E.sub) .nil⟩
theorem da_cons {ds : List D} (ha : DE X W e ρ (.ok d)) (hr : DA X W es ρ (.ok ds)) (hs : starEach (e :: es) X.env = (false, eval e X.env) :: starEach es X.env := by rfl) : DA X W (e :: es) ρ (.ok (d :: ds)) :=
  fun F0 H0 F H σ Q E q => ⟨_, pa_cons pe_w pa_w hs, ha.use E fun v F1 H1 s1 r1 => hr.use (E.step s1) fun vs F2 H2 s2 r2 => q (v :: vs) F2 H2 (s1.trans s2) (.cons (r1.up s2.ef) r2)⟩
theorem de_tup {ds : List D} {j : Nat} (h : DA X W es ρ (.ok ds)) (hl : ds.length ≤ sizeLine := by decide) : DE X W (.Tuple es j pos) ρ (.ok (.tup ds)) :=
  fun F0 H0 F H σ Q E q => ⟨_, pe_tup pa_w, h.use E fun vs F1 H1 s1 r1 => ⟨by rw [r1.length]; exact hl, fun p hp => by
    have s2 := Stp.new (o := .tup vs) s1.sub hp
    exact q _ _ _ (s1.trans s2) (.tup (SqT.of upd_same) (r1.up s2.ef))⟩⟩
theorem df_lst {ds : List D} (h : DA X W es ρ (.ok ds)) (hl : ds.length ≤ sizeLine := by decide) : DF X W (.List es pos) ρ ds :=
  fun F0 H0 F H σ Q E q => ⟨_, pe_lst pa_w, h.use E fun vs F1 H1 s1 r1 => ⟨by rw [r1.length]; exact hl, fun p hp => by
    have s2 := Stp.newO (o := .lst vs) s1.sub hp
    have hF : F1 p = none := by
      cases e : F1 p with
      | none => rfl
      | some o => rw [s1.sub p o e] at hp; cases hp
    have hH : H p = none := by
      cases e : H p with
      | none => rfl
      | some o => rw [s1.eh p o e] at hp; cases hp
    exact q p vs _ _ (s1.trans s2) hF hH upd_same r1⟩⟩
/-- a new list, for good -/
theorem DF.de {ds : List D} (h : DF X W e ρ ds) : DE X W e ρ (.ok (.lst ds)) := fun F0 H0 F H σ Q E q => by
  refine h F0 H0 F H σ Q E fun l xs F' H' s hF hH hl r => ?_
  have ef : Ex F' (upd F' l (.lst xs)) := Ex.new hF
  refine q _ (upd F' l (.lst xs)) H' ⟨s.ef.trans ef, s.eh, fun a o g => ?_, fun a ha => ?_⟩ (.lst upd_same (r.up ef))
  · by_cases z : a = l
    · subst z; rw [upd_same] at g; cases g; exact hl
    · rw [upd_ne z] at g; exact s.sub a o g
  · rw [upd_ne (by rintro rfl; exact ha hH)]; exact s.ag a ha

/-! ## subscripts -/
def RIx (K : PySem.W.Frag) (mg : Str → Option Value) (r : R2) (x y z : D) : Prop := ROp K mg r x y z
theorem de_ix {r : R2} (hr : IxR X r) (ha : DE X W a ρ (.ok x)) (hb : DE X W b ρ (.ok y)) (h : ROp X.K X.mg r x y z) (hs : PlainIx b := by intro _ _; rfl) : DE X W (.Subscript a b pos) ρ (.ok z) :=
  fun F0 H0 F H σ Q E q => ⟨_, pe_ix hr pe_w pe_w hs, ha.use E fun v1 F1 H1 s1 r1 => hb.use (E.step s1) fun v2 F2 H2 s2 r2 =>
    h F2 H2 v1 v2 Q s2.sub (r1.up s2.ef) r2 fun v F3 H3 s3 r3 => q v F3 H3 ((s1.trans s2).trans s3) r3⟩
theorem atI_rp {K : PySem.W.Frag} {mg : Str → Option Value} {xs : List V} {ds : List D} {i : Int} (r : RpA K mg F xs ds) (h : atI ds i = some z) : ∃ v, atI xs i = some v ∧ Rp K mg F v z := by
  unfold atI at h ⊢
  rw [r.length]
  cases e : ixN ds.length i with
  | none => rw [e] at h; cases h
  | some j =>
    rw [e] at h
    obtain ⟨v, h1, h2⟩ := r.get (show ds[j]? = some z from h)
    exact ⟨v, h1, h2⟩
theorem de_ixT {ds : List D} {i : Int} (ha : DE X W a ρ (.ok (.tup ds))) (hb : DE X W b ρ (.ok (.int i))) (h : atI ds i = some z) (hs : PlainIx b := by intro _ _; rfl) : DE X W (.Subscript a b pos) ρ (.ok z) :=
  de_ix ix_tup ha hb (fun F H vx vy Q e rx ry q => by
    cases ry
    cases rx with
    | tup h1 h2 =>
      obtain ⟨v, g1, g2⟩ := atI_rp h2 h
      exact ⟨_, _, _, _, rfl, rfl, ex_t e h1, g1, q v F H (Stp.refl e) g2⟩) hs
theorem de_ixL {ds : List D} {i : Int} (ha : DE X W a ρ (.ok (.lst ds))) (hb : DE X W b ρ (.ok (.int i))) (h : atI ds i = some z) (hs : PlainIx b := by intro _ _; rfl) : DE X W (.Subscript a b pos) ρ (.ok z) :=
  de_ix ix_list ha hb (fun F H vx vy Q e rx ry q => by
    cases ry
    cases rx with
    | lst h1 h2 =>
      obtain ⟨v, g1, g2⟩ := atI_rp h2 h
      exact ⟨_, _, _, _, rfl, rfl, SqL.of (e _ _ h1), g1, q v F H (Stp.refl e) g2⟩) hs
/-- either -/
def seqD : D → Option (List D)
  | .tup ds => some ds
  | .lst ds => some ds
  | _ => none
theorem de_ixQ {ds : List D} {i : Int} (ha : DE X W a ρ (.ok x)) (hx : seqD x = some ds) (hb : DE X W b ρ (.ok (.int i))) (h : atI ds i = some z) (hs : PlainIx b := by intro _ _; rfl) : DE X W (.Subscript a b pos) ρ (.ok z) := by
  cases x <;> simp [seqD] at hx
  · subst hx; exact de_ixT ha hb h hs
  · subst hx; exact de_ixL ha hb h hs
/-- an own list's item -/
theorem de_ixO (B : Bx X N sc) (i : Nat) {n : Str} {ds : List D} {j : Int} {p2 : Pos} (hb : DE X W b ρ (.ok (.int j))) (h : atI ds j = some z) (hN : N[i]? = some n := by rfl) (hr : ρ[i]? = some (Sl.own ds) := by rfl)
    (hv : Vis sc n := by first | exact Or.inl rfl | exact Or.inr (Or.inl rfl) | exact Or.inr (Or.inr rfl)) (hd : (n == ("__debug__" : Str)) = false := by decide) (hcd : (n == ("__classdict__" : Str)) = false := by decide)
    (hs : PlainIx b := by intro _ _; rfl) : DE X W (.Subscript (.Name n p2) b pos) ρ (.ok z) := fun F0 H0 F H σ Q E q => by
  obtain ⟨l, xs, h1, h2, h3, h4, h5⟩ := E.owns i ds hr
  refine ⟨_, pe_ix ix_list (pe_var (i := i) (by rw [B.n]; exact hN) (by rw [B.sc]; exact hv) hd hcd) pe_w hs, _, h1, hb.use E fun v2 F2 H2 s2 r2 => ?_⟩
  cases r2
  obtain ⟨v, g1, g2⟩ := atI_rp (h5.up s2.ef) h
  exact ⟨l, xs, j, v, rfl, rfl, SqL.of (s2.eh l _ h4), g1, q v F2 H2 s2 g2⟩

/-! ## slices -/
def DO (X : Cx) (W : WX) (e : Option Expr) (ρ : Rho) (o : Option Int) : Prop := match e, o with
  | none, none => True
  | some e, some i => DE X W e ρ (.ok (.int i))
  | _, _ => False
def wO (X : Cx) (e : Option Expr) : TO := fun σ H Q => ∃ t, PO X e t ∧ t σ H Q
theorem po_w {e : Option Expr} : PO X e (wO X e) := ⟨fun pins s σ H Q I h => by obtain ⟨t, h, q⟩ := h; exact h.run pins s σ H Q I q⟩
theorem DO.use {e : Option Expr} {o : Option Int} (h : DO X W e ρ o) {F0 H0 : Hp} {σ : L2.St} {Q : Option Int → Hp → Prop} (E : EnvS X.K X.mg F0 H0 F H σ ρ) (q : ∀ F' H', Stp F H F' H' → Q o H') : wO X e σ H Q := by
  cases e with
  | none =>
    cases o with
    | none => exact ⟨_, po_none, q F H (Stp.refl E.sub)⟩
    | some i => exact h.elim
  | some e =>
    cases o with
    | none => exact h.elim
    | some i => exact ⟨_, po_some pe_w, DE.use (show DE X W e ρ (.ok (.int i)) from h) E fun v F1 H1 s1 r1 => by cases r1; exact ⟨i, rfl, q F1 H1 s1⟩⟩
def cutD (ds : List D) (lo hi : Option Int) : List D := (ds.drop (HT.sIx ds.length 0 lo)).take (HT.sIx ds.length ds.length hi - HT.sIx ds.length 0 lo)
theorem cut_rp {K : PySem.W.Frag} {mg : Str → Option Value} {xs : List V} {ds : List D} {lo hi : Option Int} (r : RpA K mg F xs ds) : RpA K mg F (cutV xs lo hi) (cutD ds lo hi) := by
  unfold cutV cutD
  rw [r.length]
  exact (r.drop _).take _
variable {lo hi : Option Expr} {l u : Option Int} {ds : List D} {p2 : Pos}
theorem df_slL (ha : DE X W a ρ (.ok (.lst ds))) (hl : DO X W lo ρ l) (hu : DO X W hi ρ u) : DF X W (.Subscript a (.Slice lo hi none p2) pos) ρ (cutD ds l u) :=
  fun F0 H0 F H σ Q E q => ⟨_, pe_slice sl_list pe_w po_w po_w, ha.use E fun v1 F1 H1 s1 r1 => hl.use (E.step s1) fun F2 H2 s2 => hu.use ((E.step s1).step s2) fun F3 H3 s3 => by
    cases r1 with
    | lst h1 h2 =>
      rename_i a xs
      refine ⟨a, xs, rfl, SqL.of (((s2.ef.trans s3.ef).trans s3.sub) _ _ h1), fun p hp => ?_⟩
      have st := (s1.trans s2).trans s3
      have hF : F3 p = none := by
        cases e : F3 p with
        | none => rfl
        | some o => rw [s3.sub p o e] at hp; cases hp
      have hH : H p = none := by
        cases e : H p with
        | none => rfl
        | some o => rw [st.eh p o e] at hp; cases hp
      exact q p _ F3 _ (st.trans (Stp.newO s3.sub hp)) hF hH upd_same (cut_rp (h2.up (s2.ef.trans s3.ef)))⟩
theorem de_slT (ha : DE X W a ρ (.ok (.tup ds))) (hl : DO X W lo ρ l) (hu : DO X W hi ρ u) : DE X W (.Subscript a (.Slice lo hi none p2) pos) ρ (.ok (.tup (cutD ds l u))) :=
  fun F0 H0 F H σ Q E q => ⟨_, pe_slice sl_tupA pe_w po_w po_w, ha.use E fun v1 F1 H1 s1 r1 => hl.use (E.step s1) fun F2 H2 s2 => hu.use ((E.step s1).step s2) fun F3 H3 s3 => by
    cases r1 with
    | tup h1 h2 =>
      rename_i a xs
      have st := (s1.trans s2).trans s3
      have e3 := s2.ef.trans s3.ef
      refine ⟨a, xs, rfl, ex_t (e3.trans s3.sub) h1, fun hw => ?_, fun _ p hp => ?_⟩
      · refine q _ F3 H3 st ?_
        have e : cutD ds l u = ds := by
          unfold cutD
          rw [h2.length] at hw
          rw [hw.1, hw.2]
          simp
        rw [e]
        exact .tup (ex_t e3 h1) (h2.up e3)
      · have s4 := Stp.new (o := .tup (cutV xs l u)) s3.sub hp
        exact q _ _ _ (st.trans s4) (.tup (SqT.of upd_same) ((cut_rp (h2.up e3)).up s4.ef))⟩
/-! ## joined -/
theorem Stp.fresh {p : Addr} (s : Stp F H F' H') (hp : H' p = none) : H p = none ∧ F' p = none := by
  constructor
  · cases e : H p with
    | none => rfl
    | some o => rw [s.eh p o e] at hp; cases hp
  · cases e : F' p with
    | none => rfl
    | some o => rw [s.sub p o e] at hp; cases hp
theorem de_catT {es : List D} (ha : DE X W a ρ (.ok (.tup ds))) (hb : DE X W b ρ (.ok (.tup es))) (hz : ds.length + es.length ≤ sizeLine) : DE X W (.BinOp a .Add b pos) ρ (.ok (.tup (ds ++ es))) :=
  de_op op_catA ha hb fun F H vx vy Q e rx ry q => by
    cases rx with
    | @tup a1 xs1 _ h1 h2 =>
      cases ry with
      | @tup a2 xs2 _ g1 g2 =>
        refine ⟨_, _, _, _, rfl, rfl, ex_t e h1, ex_t e g1, by rw [h2.length, g2.length]; exact hz, fun n => ?_, fun _ n => ?_, fun _ _ p hp => ?_⟩
        · subst n
          cases h2
          exact q _ F H (Stp.refl e) (.tup g1 g2)
        · subst n
          cases g2
          rw [List.append_nil] at q
          exact q _ F H (Stp.refl e) (.tup h1 h2)
        · have s4 := Stp.new (o := .tup (xs1 ++ xs2)) e hp
          exact q _ _ _ s4 (.tup (SqT.of upd_same) ((h2.append g2).up s4.ef))
theorem df_slS {ns : List Int} (ha : DE X W a ρ (.ok (.scr ns))) (hl : DO X W lo ρ l) (hu : DO X W hi ρ u) : DF X W (.Subscript a (.Slice lo hi none p2) pos) ρ (cutD (ns.map D.int) l u) :=
  fun F0 H0 F H σ Q E q => ⟨_, pe_slice sl_list pe_w po_w po_w, ha.use E fun v1 F1 H1 s1 r1 => hl.use (E.step s1) fun F2 H2 s2 => hu.use ((E.step s1).step s2) fun F3 H3 s3 => by
    cases r1 with
    | scr h1 =>
      rename_i a
      refine ⟨a, _, rfl, ex_l ((s2.ef.trans s3.ef).trans s3.sub) h1, fun p hp => ?_⟩
      have st := (s1.trans s2).trans s3
      exact q p _ F3 _ (st.trans (Stp.newO s3.sub hp)) (s3.fresh hp).2 (st.fresh hp).1 upd_same (cut_rp (RpA.of_ints ns))⟩
/-- new lists joined -/
theorem df_cat {es : List D} (ha : DE X W a ρ (.ok (.lst ds))) (hb : DE X W b ρ (.ok (.lst es))) (hz : ds.length + es.length ≤ sizeLine) : DF X W (.BinOp a .Add b pos) ρ (ds ++ es) :=
  fun F0 H0 F H σ Q E q => ⟨_, pe_op op_cat pe_w pe_w, ha.use E fun v1 F1 H1 s1 r1 => hb.use (E.step s1) fun v2 F2 H2 s2 r2 => by
    cases r1 with
    | lst h1 h2 =>
      cases r2 with
      | lst g1 g2 =>
        refine ⟨_, _, _, _, rfl, rfl, (s2.ef.trans s2.sub) _ _ h1, s2.sub _ _ g1, by rw [h2.length, g2.length]; exact hz, fun p hp => ?_⟩
        have st := s1.trans s2
        exact q p _ F2 _ (st.trans (Stp.newO s2.sub hp)) (st.fresh hp).2 (st.fresh hp).1 upd_same ((h2.up s2.ef).append g2)⟩
/-- xs[::-1] -/
theorem df_revL {j : Nat} {q1 q2 q3 : Pos} (ha : DE X W a ρ (.ok (.lst ds))) : DF X W (.Subscript a (.Slice none none (some (.UnaryOp .USub (.Constant (.int 1) j q1) q2)) q3) pos) ρ ds.reverse :=
  fun F0 H0 F H σ Q E q => ⟨_, pe_revL pe_w, ha.use E fun v1 F1 H1 s1 r1 => by
    cases r1 with
    | lst h1 h2 =>
      refine ⟨_, _, rfl, SqL.of (s1.sub _ _ h1), fun p hp => ?_⟩
      exact q p _ F1 _ (s1.trans (Stp.newO s1.sub hp)) (s1.fresh hp).2 (s1.fresh hp).1 upd_same h2.reverse⟩
end
end DL

namespace DL
open PySem PySem.Spec PyProof.Rows L2 Evl

/-! ## contracts -/
abbrev Ct := List D → R D → Prop
def PostF (K : PySem.W.Frag) (mg : Str → Option Value) (F H : Hp) (Q : VK) (E : XK) : R D → Prop
  | .ok d => ∀ v F' H', Stp F H F' H' → Rp K mg F' v d → Q v H'
  | .ex c fs => ∀ cls dd F' H', Stp F H F' H' → ExR K mg cls dd F' c fs → E cls dd H'
def spOf (K : PySem.W.Frag) (mg : Str → Option Value) (n : Nat) (c : Ct) : Sp := fun vs H Q E => ∃ F ds r, Ex F H ∧ RpA K mg F vs ds ∧ ds.length = n ∧ c ds r ∧ PostF K mg F H Q E r
/-- a def that keeps its promise wherever no guard is on -/
structure FnG (P : Program) (w : World) (K : PySem.W.Frag) (mg : Str → Option Value) (base : Heap) (k : Nat) (f : Addr) (fd : FuncData) (ps : List Str) (sp : Sp) : Prop where
  len : ∀ vs H Q E, sp vs H Q E → vs.length = ps.length
  run : ∀ (A : Around) (outer : List Env) (s : Shared) (H : Hp) (args : Args) (us : List Value) (vs : List V) (Q : VK) (E : XK), A.guards = some [] → Room k A → Env0 P w K mg base A outer s H → BindsTo s fd args (ps.zip us) →
    Vals vs us → sp vs H Q E → codeAny (model P w) A (.call (.ref f) args) (CR (L2.CX P w) outer P w H s Q E) s
section
variable {P : Program} {w : World} {K : PySem.W.Frag} {mg : Str → Option Value} {base : Heap}
theorem fng_of {k : Nat} {f : Addr} {nm ql : Str} {prm : Arguments} {bod : List Stmt} {scp : Scope} {v1 v2 v3 v4 v5 v6 v7 : Value} {a1 a2 : Option Addr} {sl : Array (Option Value)} {N ps : List Str} {sp : Sp}
    (look : K.lookup f = some ⟨v7, a2, .func (PySem.W.fnOf nm ql prm bod scp v1 v2 v3 v4 a1 v5 v6), sl⟩) (cod : PySem.W.codeIn K v5 ql = true) (FS : FnScope N ps scp)
    (ln : ∀ vs H Q E, sp vs H Q E → vs.length = ps.length)
    (hb : ∀ (A : Around) (outer : List Env) (s : Shared) (H : Hp) (vs : List V) (Q : VK) (E : XK), A.guards = some [] → Room k (A.deeper (envOfC ql scp s.heap.objs.size f v5)) → sp vs H Q E →
      ∃ t, PSs (cxOf (L2.CX P w) P w K mg base N ql scp f v5 A outer s H E) bod t ∧ t { nx := fun _ H' => Q .non H', rt := Q } (start N vs) H) :
    FnG P w K mg base (k + 1) f (PySem.W.fnOf nm ql prm bod scp v1 v2 v3 v4 a1 v5 v6) ps sp := by
  constructor
  · exact ln
  intro A outer s H args us vs Q E hg hroom env0 hbinds hvals hspec
  have len1 : vs.length = ps.length := ln vs H Q E hspec
  have KH : K.In s.heap := env0.mod.kin.keeps fun b o q => (env0.bs b o q).1
  have noLim : s.heap.NoLimit := env0.mod.nolimit.keeps fun b o q => (env0.bs b o q).1
  refine codeAny_call_function hroom.depth (KH _ _ look) rfl FS.co FS.gen rfl (PySem.W.codeRec_of KH cod) (hbinds _ _ _ _ ?_)
  refine wpAny_newFunctionEnv_cells FS.kind (fun ⟨n, v⟩ hy => ?_) fun env henv s1 ic => ?_
  · have par := FS.par n (List.of_mem_zip hy).1
    exact par.elim (fun q => .inl q) fun q => .inr ⟨q, PySem.W.cellsFrom_some _ _ _ (.inl q)⟩
  subst henv
  refine ⟨noLim.keeps ic.toInCall.keep, codeAny_func ?_⟩
  obtain ⟨t, ht, hq⟩ := hb A outer s H vs Q E hg (hroom.deeper _) hspec
  have J : Inv (cxOf (L2.CX P w) P w K mg base N ql scp f v5 A outer s H E) [] (start N vs) H s1 := inv_start FS hroom.hd env0 len1 hvals ic
  have done : ∀ {σ' : L2.St} {H' : Hp} {v : V} {u : Value} {s' : Shared}, Inv (cxOf (L2.CX P w) P w K mg base N ql scp f v5 A outer s H E) [] σ' H' s' → RelV v u → Q v H' → CE outer P w H s Q u s' :=
    fun I rv q => ⟨_, _, I.os, I.bare, I.base, I.hok, rv, q⟩
  refine wpAny_mono (ht.run [] s1 _ H _ J hq) (fun fl s' sp' => ?_) fun _ _ h => h
  cases fl with
  | brk => obtain ⟨_, _, _, z⟩ := sp'; exact z.elim
  | cont => obtain ⟨_, _, _, z⟩ := sp'; exact z.elim
  | next => obtain ⟨_, _, I, z⟩ := sp'; exact done (v := V.non) (u := Value.none) I rfl z
  | ret u => obtain ⟨_, _, _, I, rv, z⟩ := sp'; exact done I rv z

/-- what a caller knows of a def -/
structure Fn (P : Program) (w : World) (K : PySem.W.Frag) (mg : Str → Option Value) (base : Heap) (x : Str) (k n : Nat) (c : Ct) : Prop where
  ex : ∃ f fd ps, mg x = some (.ref f) ∧ PySem.W.keepIn K (.ref f) = true ∧ Binds K fd ps [] ∧ ps.length = n ∧ FnG P w K mg base k f fd ps (spOf K mg n c)
end

section
variable {X : Cx} {W : WX} {e a b c : Expr} {es rest : List Expr} {ρ : Rho} {N : List Str} {sc : Scope} {k n : Nat} {pos : Pos} {x y z : D} {d : D} {r : R D} {F F' H H' : Hp} {p q s t : Bool} {ct : Ct} {ds : List D}
/-- a body, no guard being on -/
structure Bg (X : Cx) (N : List Str) (sc : Scope) (k : Nat) (W : WX) : Prop extends Bd X N sc k W where
  gd : X.A.guards = some []
theorem run_fng {f : Addr} {fd : FuncData} {ps : List Str} {sp : Sp} {pins : List (Addr × Obj)} {σ : L2.St} {s : Shared} {Q : VK} {us : List Value} {vs : List V} (tk : Takes X W) (hg : X.A.guards = some []) (G : FnG X.prog X.w X.K X.mg X.base k f fd ps sp) (hr : Room k X.A) (hb : Binds X.K fd ps [])
    (I : Inv X pins σ H s) (rv : Vals vs us) (h : sp vs H Q (WE W σ)) : wpAny (model X.prog X.w) X.A (call (.ref f) us) (EP X pins σ Q) X.xe s := by
  have l1 := G.len vs H Q _ h
  have bi := hb s us I.kIn (by rw [List.append_nil, ← rv.length]; exact l1)
  rw [List.append_nil] at bi
  refine wpAny_call (codeAny_mono (G.run X.A X.stack s H ⟨us, []⟩ us vs Q (WE W σ) hg hr I.env0 bi rv h) fun res s' z => ?_)
  cases res with
  | error e => exact passAt tk σ pins H s e s' I z
  | ok fl =>
    cases fl with
    | ret u => exact I.after z
    | next => exact False.elim z
    | brk => exact False.elim z
    | cont => exact False.elim z
theorem de_call {f : Str} {p0 : Pos} {kk : Nat} (B : Bg X N sc k W) (G : Fn X.prog X.w X.K X.mg X.base f kk n ct) (hk : kk ≤ k) (ha : DA X W (e :: es) ρ (.ok ds)) (hn : ds.length = n) (hc : ct ds r)
    (hg : sc.names.lookup f = some .globalImplicit := by rfl) (hd : (f == ("__debug__" : Str)) = false := by decide) (he : starEach (e :: es) X.env = (false, eval e X.env) :: starEach es X.env := by rfl)
    (hp : (backTo pos (starEach es X.env)).any (·.1) = false := by rfl) : DE X W (.Call (.Name f p0) (e :: es) [] pos) ρ r := fun F0 H0 F H σ Q E q => by
  obtain ⟨fa, fd, ps, g1, g2, g3, g4, g5⟩ := G.ex
  refine ⟨fun σ' H' Q' => wA X (e :: es) σ' H' fun vs H1 => spOf X.K X.mg n ct vs H1 Q' (WE W σ'), ⟨fun pins s σ' H' Q' I h => ?_⟩, ?_⟩
  · refine wpAny_Call_Name_kw (ld_glob I (show X.env.scope.names.lookup f = _ by rw [B.sc]; exact hg) g1 ?_ hd)
    refine PySem.W.callWith_K (h₀ := X.base) I.ok.mod.kin g2 (thn (pa_w.run pos pins s σ' H' _ I h) fun us s1 hh => ?_) he hp
    obtain ⟨vs, H1, I1, r1, q1⟩ := hh
    exact ⟨I1.kIn, run_fng B.tk B.gd g5 (B.room.mono hk) g3 I1 r1 q1⟩
  · refine ha.use E fun vs F1 H1 s1 r1 => ⟨F1, ds, r, s1.sub, r1, hn, hc, ?_⟩
    cases r with
    | ok d => exact fun v F' H' s2 r2 => q v F' H' (s1.trans s2) r2
    | ex c fs => exact fun cls dd F' H' s2 r2 => q cls dd F' H' (s1.trans s2) r2
theorem de_call0 {f : Str} {p0 : Pos} {kk : Nat} (B : Bg X N sc k W) (G : Fn X.prog X.w X.K X.mg X.base f kk 0 ct) (hk : kk ≤ k) (hc : ct [] r)
    (hg : sc.names.lookup f = some .globalImplicit := by rfl) (hd : (f == ("__debug__" : Str)) = false := by decide) : DE X W (.Call (.Name f p0) [] [] pos) ρ r := fun F0 H0 F H σ Q E q => by
  obtain ⟨fa, fd, ps, g1, g2, g3, g4, g5⟩ := G.ex
  refine ⟨fun σ' H' Q' => spOf X.K X.mg 0 ct [] H' Q' (WE W σ'), ⟨fun pins s σ' H' Q' I h => ?_⟩, ?_⟩
  · refine wpAny_Call_Name_kw (ld_glob I (show X.env.scope.names.lookup f = _ by rw [B.sc]; exact hg) g1 ?_ hd)
    exact PySem.W.callWith_K0 I.kIn g2 (run_fng (us := []) B.tk B.gd g5 (B.room.mono hk) g3 I .nil h)
  · refine ⟨F, [], r, E.sub, .nil, rfl, hc, ?_⟩
    cases r with
    | ok d => exact fun v F' H' s2 r2 => q v F' H' s2 r2
    | ex c fs => exact fun cls dd F' H' s2 r2 => q cls dd F' H' s2 r2

/-! ## an own list lent -/
mutual
theorem Rp.lend {K : PySem.W.Frag} {mg : Str → Option Value} {l : Addr} {xs : List V} (hf : F l = none) (hh : ∀ b u, F' b = some u → b ≠ l → H b = some u) : ∀ (d : D) (v : V), d.lfree = true → F' l = some (.lst xs) → Rp K mg F' v d → Rp K mg H v d
  | .non, _, _, _, .non => .non
  | .bl _, _, _, _, .bl b => .bl b
  | .int _, _, _, _, .int b => .int b
  | .str _, _, _, _, .str b => .str b
  | .tup ds, _, p, hl, .tup (a := a) (xs := ys) h r => by
    refine .tup ?_ (RpA.lend hf hh ds _ (by simpa [D.lfree] using p) hl r)
    have na : ∀ u, F' a = some u → (∀ zs, u ≠ .lst zs) → H a = some u := fun u e n => hh a u e (by rintro rfl; rw [hl] at e; cases e; exact n xs rfl)
    rcases h with (h | ⟨o, h⟩) | h
    · exact .inl (.inl (na _ h fun _ z => nomatch z))
    · exact .inl (.inr ⟨o, na _ h fun _ z => nomatch z⟩)
    · exact .inr h
  | .lst _, _, p, _, _ => by simp [D.lfree] at p
  | .scr _, _, p, _, _ => by simp [D.lfree] at p
  | .obj _ _, _, p, _, _ => by simp [D.lfree] at p
  | .exo _ _ _, _, p, _, _ => by simp [D.lfree] at p
theorem RpA.lend {K : PySem.W.Frag} {mg : Str → Option Value} {l : Addr} {xs : List V} (hf : F l = none) (hh : ∀ b u, F' b = some u → b ≠ l → H b = some u) : ∀ (ds : List D) (vs : List V), lfreeAll ds = true → F' l = some (.lst xs) → RpA K mg F' vs ds → RpA K mg H vs ds
  | [], _, _, _, .nil => .nil
  | d :: ds, _, p, hl, .cons r t => by
    have p' : d.lfree = true ∧ lfreeAll ds = true := by simpa [lfreeAll] using p
    exact .cons (Rp.lend hf hh d _ p'.1 hl r) (RpA.lend hf hh ds _ p'.2 hl t)
end
/-- what is asked of a heap in which our own list is left out again -/
def without (F : Hp) (l : Addr) : Hp := fun b => if b = l then none else F b
theorem without_same {F : Hp} {l : Addr} : without F l l = none := if_pos rfl
theorem without_ne {F : Hp} {l b : Addr} (h : b ≠ l) : without F l b = F b := if_neg h
/-- an expression that reads an own list as a list, and gives what has no list in it -/
theorem de_lend {i : Nat} (hi : ρ[i]? = some (Sl.own ds)) (h : DE X W e (ρ.set i (.val (.lst ds))) (.ok d)) (hd : d.lfree = true) : DE X W e ρ (.ok d) := fun F0 H0 F H σ Q E q => by
  obtain ⟨l, xs, h1, h2, h3, h4, h5⟩ := E.owns i ds hi
  have hil := lt_of_get hi
  have ef : Ex F (upd F l (.lst xs)) := Ex.new h3
  have E1 : EnvS X.K X.mg F0 H0 (upd F l (.lst xs)) H σ (ρ.set i (.val (.lst ds))) := by
    refine ⟨⟨E.st.ef.trans ef, E.st.eh, fun a o g => ?_, fun a ha => ?_⟩, by simp [E.len], fun j d' g => ?_, fun j es g => ?_, fun j m ds1 es1 hjm g1 g2 => ?_⟩
    · by_cases z : a = l
      · subst z; rw [upd_same] at g; cases g; exact h4
      · rw [upd_ne z] at g; exact E.sub a o g
    · rw [upd_ne (by rintro rfl; exact ha h2)]; exact E.st.ag a ha
    · by_cases z : i = j
      · subst z
        rw [List.getElem?_set_self hil] at g
        cases g
        exact ⟨_, h1, .lst upd_same (h5.up ef)⟩
      · rw [List.getElem?_set_ne z] at g
        obtain ⟨v, g1, g2⟩ := E.vals j d' g
        exact ⟨v, g1, g2.up ef⟩
    · have z : i ≠ j := by
        rintro rfl
        rw [List.getElem?_set_self hil] at g
        cases g
      rw [List.getElem?_set_ne z] at g
      obtain ⟨l2, ys, g1, g2, g3, g4, g5⟩ := E.owns j es g
      refine ⟨l2, ys, g1, g2, ?_, g4, g5.up ef⟩
      rw [upd_ne]
      · exact g3
      · rintro rfl
        exact E.dist i j ds es z hi g (by rw [h1, g1])
    · have f : ∀ (j : Nat) (es1 : List D), (ρ.set i (.val (.lst ds)))[j]? = some (Sl.own es1) → ρ[j]? = some (Sl.own es1) := fun j es1 g => by
        by_cases z : i = j
        · subst z
          rw [List.getElem?_set_self hil] at g
          cases g
        · rw [List.getElem?_set_ne z] at g; exact g
      exact E.dist j m ds1 es1 hjm (f j ds1 g1) (f m es1 g2)
  refine h F0 H0 (upd F l (.lst xs)) H σ Q E1 fun v F1 H1 s1 r1 => ?_
  have hl1 : F1 l = some (.lst xs) := s1.ef l _ upd_same
  refine q v (without F1 l) H1 ⟨fun a o g => ?_, s1.eh, fun a o g => ?_, fun a ha => ?_⟩ (Rp.lend (F := without F1 l) without_same (fun b u g nb => by rw [without_ne nb]; exact g) d v hd hl1 r1)
  · have na : a ≠ l := by rintro rfl; rw [h3] at g; cases g
    rw [without_ne na]
    exact s1.ef a o (ef a o g)
  · by_cases na : a = l
    · subst na; rw [without_same] at g; cases g
    · rw [without_ne na] at g; exact s1.sub a o g
  · by_cases na : a = l
    · subst na; rw [without_same, h3]
    · rw [without_ne na, s1.ag a ha, upd_ne na]

/-! ## built-in functions -/
def RCb (K : PySem.W.Frag) (mg : Str → Option Value) (r : List V → Hp → VK → Prop) (ds : List D) (z : D) : Prop := ∀ F H vs Q, Ex F H → RpA K mg F vs ds → (∀ v F' H', Stp F H F' H' → Rp K mg F' v z → Q v H') → r vs H Q
theorem de_callB {f : Str} {p0 : Pos} {id : String} {rr : List V → Hp → VK → Prop} (B : Bx X N sc) (hc : CallR X (.builtin id) rr) (hm : X.mg f = none) (hv : bootBuiltins f = some (.builtin id)) (ha : DA X W (e :: es) ρ (.ok ds)) (h : RCb X.K X.mg rr ds z)
    (hg : sc.names.lookup f = some .globalImplicit := by rfl) (hn : f ≠ "__name__" := by decide) (hd : (f == ("__debug__" : Str)) = false := by decide) (he : starEach (e :: es) X.env = (false, eval e X.env) :: starEach es X.env := by rfl)
    (hp : (backTo pos (starEach es X.env)).any (·.1) = false := by rfl) : DE X W (.Call (.Name f p0) (e :: es) [] pos) ρ (.ok z) := fun F0 H0 F H σ Q E q =>
  ⟨_, pe_callB hc (show X.env.scope.names.lookup f = _ by rw [B.sc]; exact hg) hm hv pa_w hn hd he hp, ha.use E fun vs F1 H1 s1 r1 => h F1 H1 vs Q s1.sub r1 fun v F2 H2 s2 r2 => q v F2 H2 (s1.trans s2) r2⟩
theorem de_callT {f : Str} {p0 : Pos} {T : String} {rr : List V → Hp → VK → Prop} (B : Bx X N sc) (hc : CallR X (.type T) rr) (hm : X.mg f = none) (hv : bootBuiltins f = some (.type T)) (ha : DA X W (e :: es) ρ (.ok ds)) (h : RCb X.K X.mg rr ds z)
    (hg : sc.names.lookup f = some .globalImplicit := by rfl) (hn : f ≠ "__name__" := by decide) (hd : (f == ("__debug__" : Str)) = false := by decide) (he : starEach (e :: es) X.env = (false, eval e X.env) :: starEach es X.env := by rfl)
    (hp : (backTo pos (starEach es X.env)).any (·.1) = false := by rfl) : DE X W (.Call (.Name f p0) (e :: es) [] pos) ρ (.ok z) := fun F0 H0 F H σ Q E q =>
  ⟨_, pe_callTy hc (show X.env.scope.names.lookup f = _ by rw [B.sc]; exact hg) hm hv pa_w hn hd he hp, ha.use E fun vs F1 H1 s1 r1 => h F1 H1 vs Q s1.sub r1 fun v F2 H2 s2 r2 => q v F2 H2 (s1.trans s2) r2⟩
variable {p0 : Pos} {i j : Int} {f : Str}
/-- a name of Python's own -/
structure Bi (X : Cx) (sc : Scope) (f : Str) (v : Value) : Prop where
  g : sc.names.lookup f = some .globalImplicit
  m : X.mg f = none
  v : bootBuiltins f = some v
  n : f ≠ "__name__"
  d : (f == ("__debug__" : Str)) = false
theorem de_abs (B : Bx X N sc) (hm : X.mg "abs" = none) (ha : DE X W a ρ (.ok (.int i))) (hg : sc.names.lookup ("abs" : Str) = some .globalImplicit := by rfl) (hs : starEach [a] X.env = (false, eval a X.env) :: starEach [] X.env := by rfl) :
    DE X W (.Call (.Name "abs" p0) [a] [] pos) ρ (.ok (.int (if i < 0 then -i else i))) :=
  de_callB B call_abs hm (by decide +kernel) (da_cons ha da_nil hs) (fun F H vs Q e r q => by cases r with | cons r1 r2 => cases r1; cases r2; exact ⟨i, rfl, q _ F H (Stp.refl e) (.int _)⟩) hg (he := hs)
theorem de_int1 (B : Bx X N sc) (hm : X.mg "int" = none) (ha : DE X W a ρ (.ok (.int i))) (hg : sc.names.lookup ("int" : Str) = some .globalImplicit := by rfl) (hs : starEach [a] X.env = (false, eval a X.env) :: starEach [] X.env := by rfl) :
    DE X W (.Call (.Name "int" p0) [a] [] pos) ρ (.ok (.int i)) :=
  de_callT B call_int1 hm (by decide +kernel) (da_cons ha da_nil hs) (fun F H vs Q e r q => by cases r with | cons r1 r2 => cases r1; cases r2; exact .inl ⟨i, rfl, q _ F H (Stp.refl e) (.int _)⟩) hg (he := hs)
theorem de_intB (B : Bx X N sc) (hm : X.mg "int" = none) (ha : DE X W a ρ (.ok (.bl p))) (hg : sc.names.lookup ("int" : Str) = some .globalImplicit := by rfl) (hs : starEach [a] X.env = (false, eval a X.env) :: starEach [] X.env := by rfl) :
    DE X W (.Call (.Name "int" p0) [a] [] pos) ρ (.ok (.int (if p then 1 else 0))) :=
  de_callT B call_int1 hm (by decide +kernel) (da_cons ha da_nil hs) (fun F H vs Q e r q => by cases r with | cons r1 r2 => cases r1; cases r2; exact .inr ⟨p, rfl, q _ F H (Stp.refl e) (.int _)⟩) hg (he := hs)
theorem de_max2 (B : Bd X N sc k W) (hm : X.mg "max" = none) (ha : DE X W a ρ (.ok (.int i))) (hb : DE X W b ρ (.ok (.int j))) (hg : sc.names.lookup ("max" : Str) = some .globalImplicit := by rfl)
    (hs : starEach [a, b] X.env = (false, eval a X.env) :: starEach [b] X.env := by rfl) (hs2 : starEach [b] X.env = (false, eval b X.env) :: starEach [] X.env := by rfl) (hp : (backTo pos (starEach [b] X.env)).any (·.1) = false := by rfl) :
    DE X W (.Call (.Name "max" p0) [a, b] [] pos) ρ (.ok (.int (if j > i then j else i))) :=
  de_callB B.toBx (call_max2 B.calm) hm (by decide +kernel) (da_cons ha (da_cons hb da_nil hs2) hs) (fun F H vs Q e r q => by
    cases r with
    | cons r1 r2 => cases r1; cases r2 with | cons r2 r3 => cases r2; cases r3; exact ⟨i, j, rfl, q _ F H (Stp.refl e) (.int _)⟩) hg (he := hs) (hp := hp)
theorem de_min2 (B : Bd X N sc k W) (hm : X.mg "min" = none) (ha : DE X W a ρ (.ok (.int i))) (hb : DE X W b ρ (.ok (.int j))) (hg : sc.names.lookup ("min" : Str) = some .globalImplicit := by rfl)
    (hs : starEach [a, b] X.env = (false, eval a X.env) :: starEach [b] X.env := by rfl) (hs2 : starEach [b] X.env = (false, eval b X.env) :: starEach [] X.env := by rfl) (hp : (backTo pos (starEach [b] X.env)).any (·.1) = false := by rfl) :
    DE X W (.Call (.Name "min" p0) [a, b] [] pos) ρ (.ok (.int (if j < i then j else i))) :=
  de_callB B.toBx (call_min2 B.calm) hm (by decide +kernel) (da_cons ha (da_cons hb da_nil hs2) hs) (fun F H vs Q e r q => by
    cases r with
    | cons r1 r2 => cases r1; cases r2 with | cons r2 r3 => cases r2; cases r3; exact ⟨i, j, rfl, q _ F H (Stp.refl e) (.int _)⟩) hg (he := hs) (hp := hp)
/-- len, of a list or a tuple -/
theorem de_len (B : Bx X N sc) (hm : X.mg "len" = none) (ha : DE X W a ρ (.ok x)) (hx : seqD x = some ds) (hg : sc.names.lookup ("len" : Str) = some .globalImplicit := by rfl) (hs : starEach [a] X.env = (false, eval a X.env) :: starEach [] X.env := by rfl) :
    DE X W (.Call (.Name "len" p0) [a] [] pos) ρ (.ok (.int (ds.length : Int))) :=
  de_callB B call_len_seq hm (by decide +kernel) (da_cons ha da_nil hs) (fun F H vs Q e r q => by
    cases r with
    | cons r1 r2 =>
      cases r2
      cases x <;> simp [seqD] at hx
      · subst hx
        cases r1 with
        | tup h1 h2 => exact ⟨_, _, rfl, .inr (ex_t e h1), q _ F H (Stp.refl e) (by rw [h2.length]; exact .int _)⟩
      · subst hx
        cases r1 with
        | lst h1 h2 => exact ⟨_, _, rfl, .inl (SqL.of (e _ _ h1)), q _ F H (Stp.refl e) (by rw [h2.length]; exact .int _)⟩) hg (he := hs)
theorem de_lenS (B : Bx X N sc) {u : Str} (hm : X.mg "len" = none) (ha : DE X W a ρ (.ok (.str u))) (hu : u.length ≤ sizeLine) (hg : sc.names.lookup ("len" : Str) = some .globalImplicit := by rfl) (hs : starEach [a] X.env = (false, eval a X.env) :: starEach [] X.env := by rfl) :
    DE X W (.Call (.Name "len" p0) [a] [] pos) ρ (.ok (.int (u.length : Int))) :=
  de_callB B call_len_str hm (by decide +kernel) (da_cons ha da_nil hs) (fun F H vs Q e r q => by cases r with | cons r1 r2 => cases r1; cases r2; exact ⟨u, rfl, hu, q _ F H (Stp.refl e) (.int _)⟩) hg (he := hs)
theorem de_sum (B : Bd X N sc k W) {ns : List Int} (hm : X.mg "sum" = none) (ha : DE X W a ρ (.ok (.lst (ns.map D.int)))) (hg : sc.names.lookup ("sum" : Str) = some .globalImplicit := by rfl) (hs : starEach [a] X.env = (false, eval a X.env) :: starEach [] X.env := by rfl) :
    DE X W (.Call (.Name "sum" p0) [a] [] pos) ρ (.ok (.int ns.sum)) :=
  de_callB B.toBx (cr_sum B.calm) hm (by decide +kernel) (da_cons ha da_nil hs) (fun F H vs Q e r q => by
    cases r with
    | cons r1 r2 =>
      cases r2
      cases r1 with
      | lst h1 h2 => rw [h2.ints] at h1; exact ⟨_, ns, rfl, SqL.of (e _ _ h1), q _ F H (Stp.refl e) (.int _)⟩) hg (he := hs)
theorem de_all (B : Bd X N sc k W) {ns : List Bool} (hm : X.mg "all" = none) (ha : DE X W a ρ (.ok (.lst (ns.map D.bl)))) (hg : sc.names.lookup ("all" : Str) = some .globalImplicit := by rfl) (hs : starEach [a] X.env = (false, eval a X.env) :: starEach [] X.env := by rfl) :
    DE X W (.Call (.Name "all" p0) [a] [] pos) ρ (.ok (.bl (ns.all id))) :=
  de_callB B.toBx (cr_all B.calm) hm (by decide +kernel) (da_cons ha da_nil hs) (fun F H vs Q e r q => by
    cases r with
    | cons r1 r2 =>
      cases r2
      cases r1 with
      | lst h1 h2 => rw [h2.bls] at h1; exact ⟨_, ns, rfl, SqL.of (e _ _ h1), q _ F H (Stp.refl e) (.bl _)⟩) hg (he := hs)
theorem de_any (B : Bd X N sc k W) {ns : List Bool} (hm : X.mg "any" = none) (ha : DE X W a ρ (.ok (.lst (ns.map D.bl)))) (hg : sc.names.lookup ("any" : Str) = some .globalImplicit := by rfl) (hs : starEach [a] X.env = (false, eval a X.env) :: starEach [] X.env := by rfl) :
    DE X W (.Call (.Name "any" p0) [a] [] pos) ρ (.ok (.bl (ns.any id))) :=
  de_callB B.toBx (cr_any B.calm) hm (by decide +kernel) (da_cons ha da_nil hs) (fun F H vs Q e r q => by
    cases r with
    | cons r1 r2 =>
      cases r2
      cases r1 with
      | lst h1 h2 => rw [h2.bls] at h1; exact ⟨_, ns, rfl, SqL.of (e _ _ h1), q _ F H (Stp.refl e) (.bl _)⟩) hg (he := hs)
/-- tuple(..) -/
theorem de_tupleL (B : Bx X N sc) (hm : X.mg "tuple" = none) (ha : DE X W a ρ (.ok x)) (hx : seqD x = some ds) (hg : sc.names.lookup ("tuple" : Str) = some .globalImplicit := by rfl) (hs : starEach [a] X.env = (false, eval a X.env) :: starEach [] X.env := by rfl) :
    DE X W (.Call (.Name "tuple" p0) [a] [] pos) ρ (.ok (.tup ds)) :=
  de_callT B call_tuple_of hm (by decide +kernel) (da_cons ha da_nil hs) (fun F H vs Q e r q => by
    cases r with
    | cons r1 r2 =>
      cases r2
      cases x <;> simp [seqD] at hx
      · subst hx
        cases r1 with
        | tup h1 h2 => exact ⟨_, _, rfl, .inr ⟨ex_t e h1, q _ F H (Stp.refl e) (.tup h1 h2)⟩⟩
      · subst hx
        cases r1 with
        | @lst a1 xs1 _ h1 h2 =>
          refine ⟨_, _, rfl, .inl ⟨SqL.of (e _ _ h1), fun p hp => ?_⟩⟩
          have s4 := Stp.new (o := .tup xs1) e hp
          exact q _ _ _ s4 (.tup (SqT.of upd_same) (h2.up s4.ef))) hg (he := hs)
/-- list(..), a new list -/
theorem df_list (B : Bx X N sc) (hm : X.mg "list" = none) (ha : DE X W a ρ (.ok x)) (hx : seqD x = some ds) (hg : sc.names.lookup ("list" : Str) = some .globalImplicit := by rfl) (hs : starEach [a] X.env = (false, eval a X.env) :: starEach [] X.env := by rfl)
    (hp : (backTo pos (starEach [] X.env)).any (·.1) = false := by rfl) :
    DF X W (.Call (.Name "list" p0) [a] [] pos) ρ ds := fun F0 H0 F H σ Q E q =>
  ⟨_, pe_callTy call_list_of (show X.env.scope.names.lookup ("list" : Str) = _ by rw [B.sc]; exact hg) hm (by decide +kernel) (pa_cons pe_w pa_nil hs) (by decide) (by decide) hs hp, ha.use E fun v F1 H1 s1 r1 => by
    cases x <;> simp [seqD] at hx
    · subst hx
      cases r1 with
      | tup h1 h2 => exact ⟨_, _, rfl, .inr (ex_t s1.sub h1), fun p hp => q p _ F1 _ (s1.trans (Stp.newO s1.sub hp)) (s1.fresh hp).2 (s1.fresh hp).1 upd_same h2⟩
    · subst hx
      cases r1 with
      | lst h1 h2 => exact ⟨_, _, rfl, .inl (SqL.of (s1.sub _ _ h1)), fun p hp => q p _ F1 _ (s1.trans (Stp.newO s1.sub hp)) (s1.fresh hp).2 (s1.fresh hp).1 upd_same h2⟩⟩
end
end DL

namespace DL
open PySem PySem.Spec PyProof.Rows L2 Evl
section
variable {X : Cx} {W : WX} {e a b c tg : Expr} {es rest tgs : List Expr} {ρ ρ' ρ1 ρ2 ρ3 : Rho} {N : List Str} {sc : Scope} {k n : Nat} {pos : Pos} {x y z : D} {d : D} {r : R D} {F F' H H' F0 H0 : Hp} {p q s t : Bool} {ct : Ct} {ds : List D} {o : Out} {st : Stmt} {sts body : List Stmt} {js : List Nat}

/-! ## another beginning -/
def over (H0 F1 : Hp) : Hp := fun a => match H0 a with | some o => some o | none => F1 a
theorem over_some {F1 : Hp} {a : Addr} {o : HO} (h : H0 a = some o) : over H0 F1 a = some o := by unfold over; rw [h]
theorem over_none {F1 : Hp} {a : Addr} (h : H0 a = none) : over H0 F1 a = F1 a := by unfold over; rw [h]
theorem Stp.over {F1 H1 : Hp} (a : Stp F0 H0 F1 H1) (e1 : Ex F1 F) (s : Stp F0 H0 F H) : Stp F1 (over H0 F1) F H := by
  refine ⟨e1, fun x o h => ?_, s.sub, fun x hx => ?_⟩
  · cases g : H0 x with
    | some u => rw [over_some g] at h; cases h; exact s.eh x _ g
    | none => rw [over_none g] at h; exact s.sub x o (e1 x o h)
  · cases g : H0 x with
    | some u => rw [s.ag x (by rw [g]; simp), a.ag x (by rw [g]; simp)]
    | none =>
      rw [over_none g] at hx
      cases g2 : F1 x with
      | none => exact absurd g2 hx
      | some u => exact e1 x u g2
theorem Stp.unover {F1 H1 : Hp} (a : Stp F0 H0 F1 H1) (s : Stp F1 (DL.over H0 F1) F H) : Stp F0 H0 F H := by
  refine ⟨a.ef.trans s.ef, fun x o h => s.eh x o (over_some h), s.sub, fun x hx => ?_⟩
  cases g : H0 x with
  | none => exact absurd g hx
  | some u => rw [s.ag x (by rw [over_some g]; simp), a.ag x hx]
theorem EnvS.over {K : PySem.W.Frag} {mg : Str → Option Value} {F1 H1 : Hp} {σ : L2.St} (a : Stp F0 H0 F1 H1) (e1 : Ex F1 F) (E : EnvS K mg F0 H0 F H σ ρ) : EnvS K mg F1 (DL.over H0 F1) F H σ ρ :=
  ⟨a.over e1 E.st, E.len, E.vals, fun i ds h => by
    obtain ⟨l, xs, h1, h2, h3, h4, h5⟩ := E.owns i ds h
    refine ⟨l, xs, h1, ?_, h3, h4, h5⟩
    rw [over_none h2]
    exact (match g : F1 l with
    | none => rfl
    | some u => by rw [e1 l u g] at h3; cases h3), E.dist⟩
theorem EnvS.unover {K : PySem.W.Frag} {mg : Str → Option Value} {F1 H1 : Hp} {σ : L2.St} (a : Stp F0 H0 F1 H1) (E : EnvS K mg F1 (DL.over H0 F1) F H σ ρ) : EnvS K mg F0 H0 F H σ ρ :=
  ⟨a.unover E.st, E.len, E.vals, fun i ds h => by
    obtain ⟨l, xs, h1, h2, h3, h4, h5⟩ := E.owns i ds h
    refine ⟨l, xs, h1, ?_, h3, h4, h5⟩
    exact (match g : H0 l with
    | none => rfl
    | some u => by rw [over_some g] at h2; cases h2), E.dist⟩
theorem EnvS.setAny {K : PySem.W.Frag} {mg : Str → Option Value} {σ : L2.St} (E : EnvS K mg F0 H0 F H σ ρ) (i : Nat) (v : Option V) : EnvS K mg F0 H0 F H (σ.set i v) (ρ.set i .any) := by
  have ne : ∀ (j : Nat) (s : Sl), (ρ.set i .any)[j]? = some s → s ≠ .any → i ≠ j ∧ ρ[j]? = some s := fun j s h hs => by
    by_cases q : i = j
    · subst q
      have hi : i < ρ.length := by simpa using lt_of_get h
      rw [List.getElem?_set_self hi] at h
      exact absurd (Option.some.inj h).symm hs
    · rw [List.getElem?_set_ne q] at h; exact ⟨q, h⟩
  refine ⟨E.st, by simp [E.len], fun j d h => ?_, fun j ds h => ?_, fun j m ds es hn h1 h2 => ?_⟩
  · obtain ⟨q, h⟩ := ne j _ h (by simp)
    rw [List.getElem?_set_ne q]; exact E.vals j d h
  · obtain ⟨q, h⟩ := ne j _ h (by simp)
    rw [List.getElem?_set_ne q]; exact E.owns j ds h
  · obtain ⟨q1, h1⟩ := ne j _ h1 (by simp)
    obtain ⟨q2, h2⟩ := ne m _ h2 (by simp)
    rw [List.getElem?_set_ne q1, List.getElem?_set_ne q2]; exact E.dist j m ds es hn h1 h2

/-! ## targets -/
def Agr (js : List Nat) (σ' σ : L2.St) : Prop := σ'.length = σ.length ∧ ∀ i, i ∉ js → σ'[i]? = σ[i]?
def DG (X : Cx) (tg : Expr) (d : D) (ρ ρ' : Rho) (js : List Nat) : Prop := ∀ F0 H0 F H σ v Q, EnvS X.K X.mg F0 H0 F H σ ρ → Rp X.K X.mg F v d →
  (∀ F' H' σ', Stp F H F' H' → EnvS X.K X.mg F0 H0 F' H' σ' ρ' → Agr js σ' σ → Q σ' H') → wG X tg v σ H Q
def DGs (X : Cx) (tgs : List Expr) (ds : List D) (ρ ρ' : Rho) (js : List Nat) : Prop := ∀ F0 H0 F H σ vs Q, EnvS X.K X.mg F0 H0 F H σ ρ → RpA X.K X.mg F vs ds →
  (∀ F' H' σ', Stp F H F' H' → EnvS X.K X.mg F0 H0 F' H' σ' ρ' → Agr js σ' σ → Q σ' H') → wGs X tgs vs σ H Q
theorem dg_name (B : Bx X N sc) (i : Nat) {s : Str} (hN : N[i]? = some s := by rfl) (hx : Loc sc s := by first | exact Or.inl rfl | exact Or.inr rfl) (hf : X.fn s = true ∨ sc.names.lookup s = some .local := by first | exact Or.inl rfl | exact Or.inr rfl | (apply Or.inl; apply_assumption)) :
    DG X (.Name s pos) d ρ (ρ.set i (.val d)) [i] := fun F0 H0 F H σ v Q E r q => by
  refine ⟨_, pg_name (i := i) (by rw [B.n]; exact B.nd) (by rw [B.n]; exact hN) (by rw [B.sc]; exact hx) (by rw [B.sc]; exact hf), ?_⟩
  exact q F H _ (Stp.refl E.sub) (E.setVal r) ⟨by simp, fun j hj => List.getElem?_set_ne (by simpa using Ne.symm (show j ≠ i by simpa using hj))⟩
theorem dgs_nil : DGs X [] [] ρ ρ [] := fun F0 H0 F H σ vs Q E r q => by cases r; exact ⟨_, pgs_nil, rfl, q F H σ (Stp.refl E.sub) E ⟨rfl, fun _ _ => rfl⟩⟩
theorem dgs_cons {ks : List Nat} (h1 : DG X tg d ρ ρ1 js) (h2 : DGs X tgs ds ρ1 ρ2 ks) (hs : (assignEach (tg :: tgs) X.env).map (·.2) = assign tg X.env :: (assignEach tgs X.env).map (·.2) := by rfl) : DGs X (tg :: tgs) (d :: ds) ρ ρ2 (js ++ ks) :=
  fun F0 H0 F H σ vs Q E r q => by
    cases r with
    | cons r1 r2 =>
      refine ⟨_, pgs_cons pg_w pgs_w hs, _, _, rfl, h1 F0 H0 F H σ _ _ E r1 fun F1 H1 σ1 s1 E1 a1 => h2 F0 H0 F1 H1 σ1 _ _ E1 (r2.up s1.ef) fun F2 H2 σ2 s2 E2 a2 => q F2 H2 σ2 (s1.trans s2) E2 ⟨by rw [a2.1, a1.1], fun i hi => ?_⟩⟩
      simp only [List.mem_append, not_or] at hi
      rw [a2.2 i hi.2, a1.2 i hi.1]
theorem dg_tup {j : Nat} (B : Bd X N sc k W) (hd : seqD d = some ds) (h : DGs X tgs ds ρ ρ' js) (hl : (assignEach tgs X.env).length = ds.length := by rfl) (hst : (assignEach tgs X.env).findIdx? (·.1) = none := by rfl) : DG X (.Tuple tgs j pos) d ρ ρ' js :=
  fun F0 H0 F H σ v Q E r q => by
    cases d <;> simp [seqD] at hd
    · subst hd
      cases r with
      | tup h1 h2 => exact ⟨_, pg_tup B.calm pgs_w hl hst, _, _, rfl, ex_t E.sub h1, h2.length, h F0 H0 F H σ _ Q E h2 q⟩
    · subst hd
      cases r with
      | lst h1 h2 => exact ⟨_, pg_lst B.calm pgs_w hl hst, _, _, rfl, SqL.of (E.sub _ _ h1), h2.length, h F0 H0 F H σ _ Q E h2 q⟩

/-! ## small statements -/
theorem ds_set (B : Bx X N sc) (i : Nat) {s : Str} {p' : Pos} (he : DE X W e ρ (.ok d)) (hN : N[i]? = some s := by rfl) (hx : Loc sc s := by first | exact Or.inl rfl | exact Or.inr rfl) (hf : X.fn s = true ∨ sc.names.lookup s = some .local := by first | exact Or.inl rfl | exact Or.inr rfl | (apply Or.inl; apply_assumption))
    (hs : swapsWith e (some (.Name s p')) pos.line X.env = pure false := by rfl) : DS X W (.Assign [.Name s p'] e pos) ρ (.nx (ρ.set i (.val d))) := fun F0 H0 F H σ Dn E q =>
  ⟨_, ps_set (i := i) (by rw [B.n]; exact B.nd) (by rw [B.n]; exact hN) (by rw [B.sc]; exact hx) pe_w hs (by rw [B.sc]; exact hf), he.use E fun v F1 H1 s1 r1 => q F1 H1 _ ((E.step s1).setVal r1)⟩
/-- a new list of our own -/
theorem EnvS.own1 {K : PySem.W.Frag} {mg : Str → Option Value} {σ : L2.St} {l : Addr} {xs : List V} {i : Nat} (E : EnvS K mg F0 H0 F H σ ρ) (s : Stp F H F' H') (hF : F' l = none) (hH : H l = none) (hl : H' l = some (.lst xs)) (r : RpA K mg F' xs ds) :
    EnvS K mg F0 H0 F' H' (σ.set i (some (.ref l))) (ρ.set i (.own ds)) := by
  refine (E.step s).setOwn ?_ hF hl (fun j es h z => ?_) r
  · cases g : H0 l with
    | none => rfl
    | some u => rw [E.st.eh l u g] at hH; cases hH
  · obtain ⟨l2, ys, g1, g2, g3, g4, g5⟩ := E.owns j es h
    rw [g1] at z
    cases z
    rw [g4] at hH; cases hH
theorem ds_own (B : Bx X N sc) (i : Nat) {s : Str} {p' : Pos} (he : DF X W e ρ ds) (hN : N[i]? = some s := by rfl) (hx : Loc sc s := by first | exact Or.inl rfl | exact Or.inr rfl) (hf : X.fn s = true ∨ sc.names.lookup s = some .local := by first | exact Or.inl rfl | exact Or.inr rfl | (apply Or.inl; apply_assumption))
    (hs : swapsWith e (some (.Name s p')) pos.line X.env = pure false := by rfl) : DS X W (.Assign [.Name s p'] e pos) ρ (.nx (ρ.set i (.own ds))) := fun F0 H0 F H σ Dn E q =>
  ⟨_, ps_set (i := i) (by rw [B.n]; exact B.nd) (by rw [B.n]; exact hN) (by rw [B.sc]; exact hx) pe_w hs (by rw [B.sc]; exact hf), he F0 H0 F H σ _ E fun l xs F1 H1 s1 hF hH hl r1 => q F1 H1 _ (E.own1 s1 hF hH hl r1)⟩
theorem ds_asg (he : DE X W e ρ (.ok d)) (hg : DG X tg d ρ ρ' js) (hs : swapsWithSole [tg] e pos.line X.env = pure false := by rfl) (hw : swappedStores [tg] e X.env = pure none := by rfl) (h1 : (assignEach [tg] X.env).map (·.2) = [assign tg X.env] := by rfl) :
    DS X W (.Assign [tg] e pos) ρ (.nx ρ') := fun F0 H0 F H σ Dn E q =>
  ⟨_, ps_asg pe_w pg_w hs hw h1, he.use E fun v F1 H1 s1 r1 => hg F0 H0 F1 H1 σ v _ (E.step s1) r1 fun F2 H2 σ2 s2 E2 _ => q F2 H2 σ2 E2⟩
/-- a, b = x, y -/
theorem Bx.env (B : Bx X N sc) : X.env = { X.env with scope := sc } := by rw [← B.sc]
theorem ds_par (B : Bd X N sc k W) (i j : Nat) {s u : Str} {px py pt pt2 : Pos} {kt k2 : Nat} (he : DA X W [a, b] ρ (.ok [x, y])) (hij : i ≠ j := by decide) (hi : N[i]? = some s := by rfl) (hj : N[j]? = some u := by rfl)
    (hx : sc.names.lookup s = some .local := by rfl) (hy : sc.names.lookup u = some .local := by rfl)
    (hw : swappedStores [.Tuple [.Name s px, .Name u py] kt pt] (.Tuple [a, b] k2 pt2) { X.env with scope := sc } = pure (some [s, u]) := by rfl) (hs : swapsWithSole [.Tuple [.Name s px, .Name u py] kt pt] (.Tuple [a, b] k2 pt2) pos.line X.env = pure false := by rfl) :
    DS X W (.Assign [.Tuple [.Name s px, .Name u py] kt pt] (.Tuple [a, b] k2 pt2) pos) ρ (.nx ((ρ.set i (.val x)).set j (.val y))) := fun F0 H0 F H σ Dn E q =>
  ⟨_, ps_par B.calm (by rw [B.n]; exact B.nd) (by rw [B.n]; exact hi) (by rw [B.n]; exact hj) hij (by rw [B.sc]; exact hx) (by rw [B.sc]; exact hy) pa_w (by rw [B.toBx.env]; exact hw) hs, he.use E fun vs F1 H1 s1 r1 => by
    cases r1 with
    | cons r1 r2 =>
      cases r2 with
      | cons r2 r3 =>
        cases r3
        exact ⟨_, _, rfl, q F1 H1 _ (((E.step s1).setVal r1).setVal r2)⟩⟩
theorem ds_ret (he : DE X W e ρ (.ok d)) : DS X W (.Return (some e) pos) ρ (.rt d) := fun F0 H0 F H σ Dn E q => ⟨_, ps_ret pe_w, he.use E fun v F1 H1 s1 r1 => q v F1 H1 (E.st.trans s1) r1⟩
theorem ds_retN : DS X W (.Return none pos) ρ (.rt .non) := fun F0 H0 F H σ Dn E q => ⟨_, ps_retN, q _ F H E.st .non⟩
theorem ds_expr (he : DE X W e ρ (.ok d)) (hs : swapsWith e none pos.line X.env = pure false := by rfl) : DS X W (.Expr e pos) ρ (.nx ρ) := fun F0 H0 F H σ Dn E q => ⟨_, ps_expr pe_w hs, he.use E fun v F1 H1 s1 r1 => q F1 H1 σ (E.step s1)⟩
/-- what a statement's expression raises -/
theorem ds_exprX {f : Str} {fs : List (Str × D)} (he : DE X W e ρ (.ex f fs)) (hs : swapsWith e none pos.line X.env = pure false := by rfl) : DS X W (.Expr e pos) ρ (.ex f fs ρ) := fun F0 H0 F H σ Dn E q =>
  ⟨_, ps_expr pe_w hs, he F0 H0 F H σ _ E fun cls dd F1 H1 s1 r1 => q cls dd F1 H1 σ (E.step s1) r1⟩
theorem ds_retX {f : Str} {fs : List (Str × D)} (he : DE X W e ρ (.ex f fs)) : DS X W (.Return (some e) pos) ρ (.ex f fs ρ) := fun F0 H0 F H σ Dn E q =>
  ⟨_, ps_ret pe_w, he F0 H0 F H σ _ E fun cls dd F1 H1 s1 r1 => q cls dd F1 H1 σ (E.step s1) r1⟩
theorem ds_setX {s : Str} {p' : Pos} {f : Str} {fs : List (Str × D)} (B : Bx X N sc) (i : Nat) (he : DE X W e ρ (.ex f fs)) (hN : N[i]? = some s := by rfl) (hx : Loc sc s := by first | exact Or.inl rfl | exact Or.inr rfl) (hf : X.fn s = true ∨ sc.names.lookup s = some .local := by first | exact Or.inl rfl | exact Or.inr rfl | (apply Or.inl; apply_assumption))
    (hs : swapsWith e (some (.Name s p')) pos.line X.env = pure false := by rfl) : DS X W (.Assign [.Name s p'] e pos) ρ (.ex f fs ρ) := fun F0 H0 F H σ Dn E q =>
  ⟨_, ps_set (i := i) (by rw [B.n]; exact B.nd) (by rw [B.n]; exact hN) (by rw [B.sc]; exact hx) pe_w hs (by rw [B.sc]; exact hf), he F0 H0 F H σ _ E fun cls dd F1 H1 s1 r1 => q cls dd F1 H1 σ (E.step s1) r1⟩
theorem ds_if {tb eb : List Stmt} (ht : DT X W c ρ (.ok p)) (ha : p = true → DSs X W tb ρ o) (hb : p = false → DSs X W eb ρ o) : DS X W (.If c tb eb pos) ρ o := fun F0 H0 F H σ Dn E q =>
  ⟨_, ps_if pt_w pss_w pss_w, ht.use E fun F1 H1 s1 => by
    cases p with
    | true => exact iteT (ha rfl F0 H0 F1 H1 σ Dn (E.step s1) q)
    | false => exact iteF (hb rfl F0 H0 F1 H1 σ Dn (E.step s1) q)⟩
theorem ds_pass : DS X W (.Pass pos) ρ (.nx ρ) := fun F0 H0 F H σ Dn E q => ⟨_, ps_pass, q F H σ E⟩
theorem ds_break : DS X W (.Break pos) ρ (.bk ρ) := fun F0 H0 F H σ Dn E q => ⟨_, ps_break, q F H σ E⟩
theorem ds_cont : DS X W (.Continue pos) ρ (.ct ρ) := fun F0 H0 F H σ Dn E q => ⟨_, ps_continue, q F H σ E⟩
theorem ds_doc {u : Str} {j : Nat} {p' : Pos} : DS X W (.Expr (.Constant (.str u) j p') pos) ρ (.nx ρ) := fun F0 H0 F H σ Dn E q => ⟨_, ps_doc, q F H σ E⟩

/-! ## blocks -/
theorem dss_nil : DSs X W [] ρ (.nx ρ) := fun F0 H0 F H σ Dn E q => ⟨_, pss_nil, q F H σ E⟩
theorem dss_cons (h1 : DS X W st ρ (.nx ρ1)) (h2 : DSs X W sts ρ1 o) : DSs X W (st :: sts) ρ o := fun F0 H0 F H σ Dn E q =>
  ⟨_, pss_cons ps_w pss_w, h1 F0 H0 F H σ { Dn with nx := wSs X sts Dn } E fun F1 H1 σ1 E1 => h2 F0 H0 F1 H1 σ1 Dn E1 q⟩
/-- what leaves the block here -/
def Out.leaves : Out → Bool
  | .nx _ => false
  | _ => true
theorem PostS.nx_irr {K : PySem.W.Frag} {mg : Str → Option Value} {Dn : Ends} {g : L2.St → Hp → Prop} (ho : o.leaves = true) (q : PostS K mg W F0 H0 Dn o) : PostS K mg W F0 H0 { Dn with nx := g } o := by
  cases o with
  | nx _ => simp [Out.leaves] at ho
  | rt _ => exact q
  | bk _ => exact q
  | ct _ => exact q
  | ex _ _ _ => exact q
theorem dss_stop (h1 : DS X W st ρ o) (ho : o.leaves = true := by rfl) : DSs X W (st :: sts) ρ o := fun F0 H0 F H σ Dn E q =>
  ⟨_, pss_cons ps_w (pss_never), h1 F0 H0 F H σ { Dn with nx := tNever Dn } E (PostS.nx_irr ho q)⟩
theorem dss_one (h1 : DS X W st ρ o) : DSs X W [st] ρ o := fun F0 H0 F H σ Dn E q => ⟨_, pss_one ps_w, h1 F0 H0 F H σ Dn E q⟩
theorem dss_weak (h : Le ρ ρ') (h2 : DSs X W sts ρ' o) : DSs X W sts ρ o := fun F0 H0 F H σ Dn E q => h2 F0 H0 F H σ Dn (E.weaken h) q
theorem ds_weak (h : Le ρ ρ') (h2 : DS X W st ρ' o) : DS X W st ρ o := fun F0 H0 F H σ Dn E q => h2 F0 H0 F H σ Dn (E.weaken h) q
theorem dss_weakO (h : DSs X W sts ρ (.nx ρ1)) (hl : Le ρ1 ρ2) : DSs X W sts ρ (.nx ρ2) := fun F0 H0 F H σ Dn E q => h F0 H0 F H σ Dn E fun F1 H1 σ1 E1 => q F1 H1 σ1 (E1.weaken hl)
theorem ds_weakO (h : DS X W st ρ (.nx ρ1)) (hl : Le ρ1 ρ2) : DS X W st ρ (.nx ρ2) := fun F0 H0 F H σ Dn E q => h F0 H0 F H σ Dn E fun F1 H1 σ1 E1 => q F1 H1 σ1 (E1.weaken hl)
theorem DSs.of_eq {o' : Out} (h : DSs X W sts ρ o) (q : o = o') : DSs X W sts ρ o' := q ▸ h
theorem DS.of_eq {o' : Out} (h : DS X W st ρ o) (q : o = o') : DS X W st ρ o' := q ▸ h
/-- an own list is finished -/
theorem dss_freeze (i : Nat) (hi : ρ[i]? = some (Sl.own ds)) (h : DSs X W sts (ρ.set i (.val (.lst ds))) o) : DSs X W sts ρ o := fun F0 H0 F H σ Dn E q => by
  obtain ⟨F1, E1, _⟩ := E.freeze hi
  exact h F0 H0 F1 H σ Dn E1 q
theorem ds_freeze (i : Nat) (hi : ρ[i]? = some (Sl.own ds)) (h : DS X W st (ρ.set i (.val (.lst ds))) o) : DS X W st ρ o := fun F0 H0 F H σ Dn E q => by
  obtain ⟨F1, E1, _⟩ := E.freeze hi
  exact h F0 H0 F1 H σ Dn E1 q
/-- by cases outside -/
theorem dss_by {P1 : Prop} [Decidable P1] (h1 : P1 → DSs X W sts ρ o) (h2 : ¬ P1 → DSs X W sts ρ o) : DSs X W sts ρ o := if h : P1 then h1 h else h2 h

/-! ## own lists changed -/
/-- a method's call with arguments, as it stands -/
def BmOk (X : Cx) (o : Expr) (name : Str) (apos cpos : Pos) (e : Expr) (es : List Expr) : Prop := attributeBase o name X.env (eval o X.env) = eval o X.env ∧
  ((backTo cpos (starEach (e :: es) X.env)).all (fun x => !x.1) && (backToKw cpos (keywordEach [] X.env)).all (fun x => x.1.isSome) && decide ((e :: es).length + ([] : List Keyword).length + (if ([] : List Keyword).isEmpty then 0 else 1) < 30)) = true ∧
  (apos.endLine == cpos.line) = true ∧ starEach (e :: es) X.env = (false, eval e X.env) :: starEach es X.env ∧ (backTo cpos (starEach es X.env)).any (·.1) = false
def Bm0Ok (X : Cx) (o : Expr) (name : Str) (apos cpos : Pos) : Prop := attributeBase o name X.env (eval o X.env) = eval o X.env ∧ (apos.endLine == cpos.line) = true
theorem ds_app (B : Bx X N sc) (i : Nat) {s : Str} {p1 p2 p3 : Pos} (he : DE X W e ρ (.ok d)) (hi : ρ[i]? = some (Sl.own ds) := by rfl) (hz : ds.length < sizeLine) (hN : N[i]? = some s := by rfl)
    (hv : Vis sc s := by first | exact Or.inl rfl | exact Or.inr (Or.inl rfl) | exact Or.inr (Or.inr rfl)) (hd : (s == ("__debug__" : Str)) = false := by decide) (hcd : (s == ("__classdict__" : Str)) = false := by decide)
    (bm : BmOk X (.Name s p1) "append" p2 p3 e [] := by exact ⟨rfl, rfl, rfl, rfl, rfl⟩) (hs : swapsWith (.Call (.Attribute (.Name s p1) "append" p2) [e] [] p3) none pos.line X.env = pure false := by rfl) :
    DS X W (.Expr (.Call (.Attribute (.Name s p1) "append" p2) [e] [] p3) pos) ρ (.nx (ρ.set i (.own (ds ++ [d])))) := fun F0 H0 F H σ Dn E q => by
  obtain ⟨l, xs, h1, h2, h3, h4, h5⟩ := E.owns i ds hi
  refine ⟨_, ps_expr (pe_bm PySem.F.plainAttrs_list PySem.F.slot_list_append PySem.F.type_list_append mt_append (pe_var (i := i) (by rw [B.n]; exact hN) (by rw [B.sc]; exact hv) hd hcd) (pa_cons pe_w pa_nil bm.2.2.2.1) bm.1 bm.2.1 bm.2.2.1 bm.2.2.2.1 bm.2.2.2.2) hs, ?_⟩
  refine ⟨_, h1, .inl ⟨rfl, xs, SqL.of h4⟩, he.use E fun v F1 H1 s1 r1 => ?_⟩
  refine ⟨l, xs, v, rfl, rfl, s1.eh l _ h4, by rw [h5.length]; exact hz, ?_⟩
  exact q F1 _ σ ((E.step s1).mutOwn hi h1 ((h5.up s1.ef).append (.cons r1 .nil)))
theorem ds_pop (B : Bx X N sc) (i : Nat) {s : Str} {p1 p2 p3 : Pos} (hi : ρ[i]? = some (Sl.own ds) := by rfl) (hz : ds ≠ []) (hN : N[i]? = some s := by rfl)
    (hv : Vis sc s := by first | exact Or.inl rfl | exact Or.inr (Or.inl rfl) | exact Or.inr (Or.inr rfl)) (hd : (s == ("__debug__" : Str)) = false := by decide) (hcd : (s == ("__classdict__" : Str)) = false := by decide)
    (bm : Bm0Ok X (.Name s p1) "pop" p2 p3 := by exact ⟨rfl, rfl⟩) (hs : swapsWith (.Call (.Attribute (.Name s p1) "pop" p2) [] [] p3) none pos.line X.env = pure false := by rfl) :
    DS X W (.Expr (.Call (.Attribute (.Name s p1) "pop" p2) [] [] p3) pos) ρ (.nx (ρ.set i (.own ds.dropLast))) := fun F0 H0 F H σ Dn E q => by
  obtain ⟨l, xs, h1, h2, h3, h4, h5⟩ := E.owns i ds hi
  refine ⟨_, ps_expr (pe_bm0 PySem.F.plainAttrs_list PySem.F.slot_list_pop PySem.F.type_list_pop mt_pop (pe_var (i := i) (by rw [B.n]; exact hN) (by rw [B.sc]; exact hv) hd hcd) bm.1 bm.2) hs, ?_⟩
  have hl := h5.length
  have hpos : 0 < ds.length := List.length_pos_iff.mpr hz
  have hlt : xs.length - 1 < xs.length := by omega
  refine ⟨_, h1, .inl ⟨rfl, xs, SqL.of h4⟩, l, xs, xs[xs.length - 1], rfl, rfl, h4, List.getElem?_eq_getElem hlt, ?_⟩
  exact q F _ σ (E.mutOwn hi h1 h5.dropLast)
theorem ds_setI (B : Bx X N sc) (i : Nat) {s : Str} {p1 p2 : Pos} {m : Nat} {ix : Int} (he : DE X W e ρ (.ok d)) (hb : DE X W b ρ (.ok (.int ix))) (hm : ixN ds.length ix = some m) (hi : ρ[i]? = some (Sl.own ds) := by rfl) (hN : N[i]? = some s := by rfl)
    (hv : Vis sc s := by first | exact Or.inl rfl | exact Or.inr (Or.inl rfl) | exact Or.inr (Or.inr rfl)) (hd : (s == ("__debug__" : Str)) = false := by decide) (hcd : (s == ("__classdict__" : Str)) = false := by decide)
    (hs : swapsWithSole [.Subscript (.Name s p1) b p2] e pos.line X.env = pure false := by rfl) (hw : swappedStores [.Subscript (.Name s p1) b p2] e X.env = pure none := by rfl) (h1 : (assignEach [.Subscript (.Name s p1) b p2] X.env).map (·.2) = [assign (.Subscript (.Name s p1) b p2) X.env] := by rfl)
    (ha : ∀ v, assign (.Subscript (.Name s p1) b p2) X.env v = (do
      let ov ← holding [v] (eval (.Name s p1) X.env)
      let iv ← holding [v, ov] (eval b X.env)
      standAt p2
      holding [v, ov, iv] (setItem ov iv v)
      release [v, ov, iv] []) := by intro _; rfl) :
    DS X W (.Assign [.Subscript (.Name s p1) b p2] e pos) ρ (.nx (ρ.set i (.own (ds.set m d)))) := fun F0 H0 F H σ Dn E q => by
  obtain ⟨l, xs, g1, g2, g3, g4, g5⟩ := E.owns i ds hi
  refine ⟨_, ps_asg pe_w (pg_sub (pe_var (i := i) (by rw [B.n]; exact hN) (by rw [B.sc]; exact hv) hd hcd) pe_w set_list ha) hs hw h1, ?_⟩
  refine he.use E fun v F1 H1 s1 r1 => ⟨_, g1, hb.use (E.step s1) fun v2 F2 H2 s2 r2 => ?_⟩
  cases r2
  refine ⟨l, xs, ix, m, rfl, rfl, s2.eh l _ (s1.eh l _ g4), by rw [g5.length]; exact hm, ?_⟩
  exact q F2 _ σ (((E.step s1).step s2).mutOwn hi g1 (((g5.up s1.ef).up s2.ef).set (r1.up s2.ef) m))
end
end DL

namespace DL
open PySem PySem.Spec PyProof.Rows L2 Evl

/-! ## what is walked -/
def ItD (K : PySem.W.Frag) (mg : Str → Option Value) (J : It) (items : List D) (F : Hp) : Prop := ∀ F2 H2, Ex F F2 → Ex F2 H2 →
  (∀ (i : Nat) (d : D), items[i]? = some d → J.go i H2 ∧ ∀ x H3, J.yld i H2 x H3 → ∃ F3, Stp F2 H2 F3 H3 ∧ Rp K mg F3 x d) ∧ J.stop items.length H2
section
variable {X : Cx} {W : WX} {e e2 a b c tg elt : Expr} {es rest tgs ifs : List Expr} {ρ ρ' ρ1 ρ2 ρ3 : Rho} {N : List Str} {sc : Scope} {k n : Nat} {pos : Pos} {x y z : D} {d : D} {r : R D} {F F' H H' F0 H0 : Hp} {p q s t : Bool} {ct : Ct} {ds items : List D} {o : Out} {st : Stmt} {sts body : List Stmt} {js : List Nat}
def DI (X : Cx) (W : WX) (tg e : Expr) (ρ : Rho) (items : List D) : Prop := ∀ F0 H0 F H σ R, EnvS X.K X.mg F0 H0 F H σ ρ → (∀ J F' H', Stp F H F' H' → ItD X.K X.mg J items F' → R J H') → wI X tg e σ H R
theorem di_seq (he : DE X W e ρ (.ok x)) (hx : seqD x = some ds) : DI X W tg e ρ ds := fun F0 H0 F H σ R E q => by
  cases x <;> simp [seqD] at hx
  · subst hx
    refine ⟨_, pi_tup pe_w, he.use E fun v F1 H1 s1 r1 => ?_⟩
    cases r1 with
    | tup h1 h2 =>
      rename_i a xs
      refine ⟨a, rfl, ⟨xs, ex_t s1.sub h1⟩, q _ F1 H1 s1 fun F2 H2 e1 e2 => ⟨fun i d hi => ?_, ⟨xs, ex_t (e1.trans e2) h1, by rw [h2.length]; exact Nat.le_refl _⟩⟩⟩
      obtain ⟨v, g1, g2⟩ := h2.get hi
      refine ⟨⟨xs, v, ex_t (e1.trans e2) h1, g1⟩, fun x H3 hy => ?_⟩
      obtain ⟨e3, hy⟩ := hy
      have e4 := hy xs (ex_t (e1.trans e2) h1)
      rw [g1] at e4
      cases e4
      rw [e3]
      exact ⟨F2, Stp.refl e2, g2.up e1⟩
  · subst hx
    refine ⟨_, pi_list pe_w, he.use E fun v F1 H1 s1 r1 => ?_⟩
    cases r1 with
    | lst h1 h2 =>
      rename_i a xs
      refine ⟨a, rfl, ⟨xs, SqL.of (s1.sub _ _ h1)⟩, q _ F1 H1 s1 fun F2 H2 e1 e2 => ⟨fun i d hi => ?_, ⟨xs, SqL.of (e2 _ _ (e1 _ _ h1)), by rw [h2.length]; exact Nat.le_refl _⟩⟩⟩
      obtain ⟨v, g1, g2⟩ := h2.get hi
      refine ⟨⟨xs, v, SqL.of (e2 _ _ (e1 _ _ h1)), g1⟩, fun x H3 hy => ?_⟩
      obtain ⟨e3, hy⟩ := hy
      have e4 := hy xs (SqL.of (e2 _ _ (e1 _ _ h1)))
      rw [g1] at e4
      cases e4
      rw [e3]
      exact ⟨F2, Stp.refl e2, g2.up e1⟩
/-- lo, lo + 1, .. -/
def rngD (lo : Int) (n : Nat) : List D := (List.range n).map fun (i : Nat) => D.int (lo + (i : Int))
theorem rngD_length (lo : Int) (n : Nat) : (rngD lo n).length = n := by unfold rngD; simp
theorem itd_rng {K : PySem.W.Frag} {mg : Str → Option Value} {lo : Int} {n : Nat} : ItD K mg (Itr lo n) (rngD lo n) F := fun F2 H2 e1 e2 => by
  refine ⟨fun i d hi => ?_, by rw [rngD_length]; exact Nat.le_refl n⟩
  have hl := lt_of_get hi
  rw [rngD_length] at hl
  unfold rngD at hi
  rw [List.getElem?_map, List.getElem?_range hl] at hi
  simp only [Option.map_some, Option.some.injEq] at hi
  subst hi
  refine ⟨hl, fun x H3 hy => ?_⟩
  obtain ⟨e3, e4⟩ := hy
  subst e3 e4
  exact ⟨F2, Stp.refl e2, .int _⟩
theorem di_range1 {p0 : Pos} {i : Int} (B : Bx X N sc) (hm : X.mg "range" = none) (he : DE X W a ρ (.ok (.int i))) (h : -(2 ^ 62) ≤ i ∧ i < 2 ^ 62) (hg : sc.names.lookup ("range" : Str) = some .globalImplicit := by rfl)
    (hs : starEach [a] X.env = [(false, eval a X.env)] := by rfl) : DI X W tg (.Call (.Name "range" p0) [a] [] pos) ρ (rngD 0 i.toNat) := fun F0 H0 F H σ R E q =>
  ⟨_, pi_range1 (show X.env.scope.names.lookup _ = _ by rw [B.sc]; exact hg) hm (pa_cons pe_w pa_nil (by rw [hs] <;> rfl)) hs, he.use E fun v F1 H1 s1 r1 => by cases r1; exact ⟨i, rfl, h.1, h.2, q _ F1 H1 s1 itd_rng⟩⟩
theorem di_range2 {p0 : Pos} {i j : Int} (B : Bx X N sc) (hm : X.mg "range" = none) (he : DE X W a ρ (.ok (.int i))) (hb : DE X W b ρ (.ok (.int j))) (h : -(2 ^ 62) ≤ i ∧ i < 2 ^ 62 ∧ -(2 ^ 62) ≤ j ∧ j < 2 ^ 62)
    (hg : sc.names.lookup ("range" : Str) = some .globalImplicit := by rfl) (hs : starEach [a, b] X.env = [(false, eval a X.env), (false, eval b X.env)] := by rfl) (hs2 : starEach [b] X.env = [(false, eval b X.env)] := by rfl) :
    DI X W tg (.Call (.Name "range" p0) [a, b] [] pos) ρ (rngD i (j - i).toNat) := fun F0 H0 F H σ R E q =>
  ⟨_, pi_range2 (show X.env.scope.names.lookup _ = _ by rw [B.sc]; exact hg) hm (pa_cons pe_w (pa_cons pe_w pa_nil (by rw [hs2] <;> rfl)) (by rw [hs, hs2])) hs hs2, he.use E fun v F1 H1 s1 r1 => by
    cases r1
    exact hb.use (E.step s1) fun v2 F2 H2 s2 r2 => by cases r2; exact ⟨i, j, rfl, h, q _ F2 H2 (s1.trans s2) itd_rng⟩⟩
/-- zip of two lists, or of two tuples -/
def zipD : List D → List D → List D
  | x :: xs, y :: ys => .tup [x, y] :: zipD xs ys
  | _, _ => []
theorem zipD_get : ∀ {xs ys : List D} {i : Nat} {d : D}, (zipD xs ys)[i]? = some d → ∃ x y, xs[i]? = some x ∧ ys[i]? = some y ∧ d = .tup [x, y]
  | [], _, _, _, h => by simp [zipD] at h
  | _ :: _, [], _, _, h => by simp [zipD] at h
  | x :: xs, y :: ys, 0, d, h => by simp [zipD] at h; exact ⟨x, y, by simp, by simp, h.symm⟩
  | x :: xs, y :: ys, i + 1, d, h => by
    obtain ⟨u, v, h1, h2, h3⟩ := zipD_get (xs := xs) (ys := ys) (i := i) (by simpa [zipD] using h)
    exact ⟨u, v, by simpa using h1, by simpa using h2, h3⟩
theorem zipD_length : ∀ (xs ys : List D), xs.length ≤ (zipD xs ys).length ∨ ys.length ≤ (zipD xs ys).length
  | [], _ => .inl (Nat.zero_le _)
  | _ :: _, [] => .inr (Nat.zero_le _)
  | x :: xs, y :: ys => by
    rcases zipD_length xs ys with h | h
    · exact .inl (by simp [zipD]; exact h)
    · exact .inr (by simp [zipD]; exact h)
theorem di_zip {p0 tpos : Pos} {elts : List Expr} {kk : Nat} {es : List D} (B : Bx X N sc) (hm : X.mg "zip" = none) (he : DE X W e ρ (.ok x)) (hb : DE X W e2 ρ (.ok y)) (hxy : (x = .lst ds ∧ y = .lst es) ∨ (x = .tup ds ∧ y = .tup es)) (hg : sc.names.lookup ("zip" : Str) = some .globalImplicit := by rfl)
    (hs : starEach [e, e2] X.env = (false, eval e X.env) :: starEach [e2] X.env := by rfl) (hs2 : starEach [e2] X.env = (false, eval e2 X.env) :: starEach [] X.env := by rfl) (hpl : (backTo pos (starEach [e2] X.env)).any (·.1) = false := by rfl) :
    DI X W (.Tuple elts kk tpos) (.Call (.Name "zip" p0) [e, e2] [] pos) ρ (zipD ds es) := fun F0 H0 F H σ R E q =>
  ⟨_, RZ.pi_zipA (show X.env.scope.names.lookup _ = _ by rw [B.sc]; exact hg) hm (pa_cons pe_w (pa_cons pe_w pa_nil hs2) hs) hs hpl, he.use E fun v F1 H1 s1 r1 => hb.use (E.step s1) fun v2 F2 H2 s2 r2 => by
    have st := s1.trans s2
    rcases hxy with ⟨rfl, rfl⟩ | ⟨rfl, rfl⟩
    · cases r1 with
      | @lst a xs _ h1 h2 =>
        cases r2 with
        | @lst b ys _ g1 g2 =>
          have k1 := s2.ef _ _ h1
          have k2 := h2.up s2.ef
          refine ⟨a, b, xs, ys, rfl, .inl ⟨SqL.of (s2.sub _ _ k1), SqL.of (s2.sub _ _ g1), q _ F2 H2 st fun F3 H3 e1 e2 => ⟨fun i d hi => ?_, xs, ys, SqL.of (e2 _ _ (e1 _ _ k1)), SqL.of (e2 _ _ (e1 _ _ g1)), ?_⟩⟩⟩
          · obtain ⟨u, w, i1, i2, rfl⟩ := zipD_get hi
            obtain ⟨uv, j1, j2⟩ := k2.get i1
            obtain ⟨wv, j3, j4⟩ := g2.get i2
            refine ⟨⟨xs, ys, uv, wv, SqL.of (e2 _ _ (e1 _ _ k1)), SqL.of (e2 _ _ (e1 _ _ g1)), j1, j3⟩, fun x H4 hy => ?_⟩
            obtain ⟨T, x', y', rfl, hT, rfl, hx, hy⟩ := hy
            have m1 := hx xs (SqL.of (e2 _ _ (e1 _ _ k1)))
            have m2 := hy ys (SqL.of (e2 _ _ (e1 _ _ g1)))
            rw [j1] at m1; rw [j3] at m2
            cases m1; cases m2
            have s4 := Stp.new (o := .tup [uv, wv]) e2 hT
            exact ⟨_, s4, .tup (SqT.of upd_same) (.cons ((j2.up e1).up s4.ef) (.cons ((j4.up e1).up s4.ef) .nil))⟩
          · rw [k2.length, g2.length]; exact zipD_length ds es
    · cases r1 with
      | @tup a xs _ h1 h2 =>
        cases r2 with
        | @tup b ys _ g1 g2 =>
          have k1 := ex_t s2.ef h1
          have k2 := h2.up s2.ef
          refine ⟨a, b, xs, ys, rfl, .inr ⟨ex_t s2.sub k1, ex_t s2.sub g1, q _ F2 H2 st fun F3 H3 e1 e2 => ⟨fun i d hi => ?_, xs, ys, ex_t (e1.trans e2) k1, ex_t (e1.trans e2) g1, ?_⟩⟩⟩
          · obtain ⟨u, w, i1, i2, rfl⟩ := zipD_get hi
            obtain ⟨uv, j1, j2⟩ := k2.get i1
            obtain ⟨wv, j3, j4⟩ := g2.get i2
            refine ⟨⟨xs, ys, uv, wv, ex_t (e1.trans e2) k1, ex_t (e1.trans e2) g1, j1, j3⟩, fun x H4 hy => ?_⟩
            obtain ⟨T, x', y', rfl, hT, rfl, hx, hy⟩ := hy
            have m1 := hx xs (ex_t (e1.trans e2) k1)
            have m2 := hy ys (ex_t (e1.trans e2) g1)
            rw [j1] at m1; rw [j3] at m2
            cases m1; cases m2
            have s4 := Stp.new (o := .tup [uv, wv]) e2 hT
            exact ⟨_, s4, .tup (SqT.of upd_same) (.cons ((j2.up e1).up s4.ef) (.cons ((j4.up e1).up s4.ef) .nil))⟩
          · rw [k2.length, g2.length]; exact zipD_length ds es⟩

/-! ## for -/
inductive DFor (X : Cx) (W : WX) (tg : Expr) (body : List Stmt) : List D → Rho → Out → Prop
  | nil {ρ : Rho} : DFor X W tg body [] ρ (.nx ρ)
  | step {d : D} {ds : List D} {ρ ρ1 ρ2 ρ3 : Rho} {js : List Nat} {o : Out} (h1 : DG X tg d ρ ρ1 js) (h2 : DSs X W body ρ1 (.nx ρ2)) (hl : Le ρ2 ρ3) (h3 : DFor X W tg body ds ρ3 o) : DFor X W tg body (d :: ds) ρ o
  | cont {d : D} {ds : List D} {ρ ρ1 ρ2 ρ3 : Rho} {js : List Nat} {o : Out} (h1 : DG X tg d ρ ρ1 js) (h2 : DSs X W body ρ1 (.ct ρ2)) (hl : Le ρ2 ρ3) (h3 : DFor X W tg body ds ρ3 o) : DFor X W tg body (d :: ds) ρ o
  | brk {d : D} {ds : List D} {ρ ρ1 ρ2 : Rho} {js : List Nat} (h1 : DG X tg d ρ ρ1 js) (h2 : DSs X W body ρ1 (.bk ρ2)) : DFor X W tg body (d :: ds) ρ (.nx ρ2)
  | ret {d : D} {ds : List D} {ρ ρ1 : Rho} {js : List Nat} {r : D} (h1 : DG X tg d ρ ρ1 js) (h2 : DSs X W body ρ1 (.rt r)) : DFor X W tg body (d :: ds) ρ (.rt r)
  | exc {d : D} {ds : List D} {ρ ρ1 ρ2 : Rho} {js : List Nat} {c : Str} {fs : List (Str × D)} (h1 : DG X tg d ρ ρ1 js) (h2 : DSs X W body ρ1 (.ex c fs ρ2)) : DFor X W tg body (d :: ds) ρ (.ex c fs ρ2)
  | weak {ds : List D} {ρ ρ1 : Rho} {o : Out} (hl : Le ρ ρ1) (h : DFor X W tg body ds ρ1 o) : DFor X W tg body ds ρ o
theorem drop_get {α : Type} {l : List α} {i : Nat} {a : α} {r : List α} (h : l.drop i = a :: r) : l[i]? = some a ∧ l.drop (i + 1) = r := by
  constructor
  · have := congrArg (fun l => l[0]?) h
    simpa using this
  · have := congrArg List.tail h
    simpa using this
theorem ds_for (B : Bd X N sc k W) (hi : DI X W tg e ρ items) (h : DFor X W tg body items ρ o) (hs : ∀ x, foldedSetIterable e X.env x = pure x := by intro _; rfl) : DS X W (.For tg e body [] pos) ρ o := fun F0 H0 F H σ Dn E q => by
  refine ⟨_, ps_for B.po B.calm pi_w pg_w pss_w hs, hi F0 H0 F H σ _ E fun J F1 H1 s1 hJ => ?_⟩
  have S1 : Stp F0 H0 F1 H1 := E.st.trans s1
  refine ⟨fun i m σ2 H2 => m = items.length - i ∧ i ≤ items.length ∧ ∃ F2 ρ2, EnvS X.K X.mg F0 H0 F2 H2 σ2 ρ2 ∧ Ex F1 F2 ∧ DFor X W tg body (items.drop i) ρ2 o, ⟨items.length, by simp, Nat.zero_le _, F1, ρ, E.step s1, Ex.refl _, by simpa using h⟩, ?_⟩
  rintro i m σ2 H2 ⟨rfl, hil, F2, ρ2, E2, e12, hd⟩
  obtain ⟨jg, js⟩ := hJ F2 H2 e12 E2.sub
  clear h
  generalize hr : items.drop i = rest at hd
  induction hd generalizing F2 with
  | nil =>
    have hn : items.length ≤ i := by
      have := congrArg List.length hr
      simp at this; omega
    have : i = items.length := by omega
    subst this
    exact .inl ⟨js, q F2 H2 σ2 E2⟩
  | @weak ds ρ4 ρ5 o4 hl _ ih => exact ih q F2 (E2.weaken hl) e12 jg hr
  | @step d ds ρ4 ρ5 ρ6 ρ7 js1 o4 h1 h2 hl h3 _ =>
    obtain ⟨g1, g2⟩ := drop_get hr
    obtain ⟨hg, hy⟩ := jg i d g1
    refine .inr ⟨hg, fun σ' H' => ∃ F' ρ', EnvS X.K X.mg F0 H0 F' H' σ' ρ' ∧ Ex F1 F' ∧ DFor X W tg body (items.drop (i + 1)) ρ' o4, fun σ' H' hN => ⟨items.length - (i + 1), ?_, rfl, ?_, hN⟩, fun x H3 yl => ?_⟩
    · have := lt_of_get g1; omega
    · have := lt_of_get g1; omega
    · obtain ⟨F3, s3, r3⟩ := hy x H3 yl
      have E3 := (E2.step s3).over S1 (e12.trans s3.ef)
      refine h1 _ _ F3 H3 σ2 x _ E3 r3 fun F4 H4 σ4 s4 E4 _ => h2 _ _ F4 H4 σ4 _ E4 fun F5 H5 σ5 E5 => ?_
      refine ⟨F5, ρ7, (E5.unover S1).weaken hl, E5.st.ef, by rw [g2]; exact h3⟩
  | @cont d ds ρ4 ρ5 ρ6 ρ7 js1 o4 h1 h2 hl h3 _ =>
    obtain ⟨g1, g2⟩ := drop_get hr
    obtain ⟨hg, hy⟩ := jg i d g1
    refine .inr ⟨hg, fun σ' H' => ∃ F' ρ', EnvS X.K X.mg F0 H0 F' H' σ' ρ' ∧ Ex F1 F' ∧ DFor X W tg body (items.drop (i + 1)) ρ' o4, fun σ' H' hN => ⟨items.length - (i + 1), ?_, rfl, ?_, hN⟩, fun x H3 yl => ?_⟩
    · have := lt_of_get g1; omega
    · have := lt_of_get g1; omega
    · obtain ⟨F3, s3, r3⟩ := hy x H3 yl
      have E3 := (E2.step s3).over S1 (e12.trans s3.ef)
      refine h1 _ _ F3 H3 σ2 x _ E3 r3 fun F4 H4 σ4 s4 E4 _ => h2 _ _ F4 H4 σ4 _ E4 fun F5 H5 σ5 E5 => ?_
      refine ⟨F5, ρ7, (E5.unover S1).weaken hl, E5.st.ef, by rw [g2]; exact h3⟩
  | @brk d ds ρ4 ρ5 ρ6 js1 h1 h2 =>
    obtain ⟨g1, g2⟩ := drop_get hr
    obtain ⟨hg, hy⟩ := jg i d g1
    refine .inr ⟨hg, fun _ _ => False, fun _ _ z => z.elim, fun x H3 yl => ?_⟩
    obtain ⟨F3, s3, r3⟩ := hy x H3 yl
    have E3 := (E2.step s3).over S1 (e12.trans s3.ef)
    exact h1 _ _ F3 H3 σ2 x _ E3 r3 fun F4 H4 σ4 s4 E4 _ => h2 _ _ F4 H4 σ4 _ E4 fun F5 H5 σ5 E5 => q F5 H5 σ5 (E5.unover S1)
  | @ret d ds ρ4 ρ5 js1 r4 h1 h2 =>
    obtain ⟨g1, g2⟩ := drop_get hr
    obtain ⟨hg, hy⟩ := jg i d g1
    refine .inr ⟨hg, fun _ _ => False, fun _ _ z => z.elim, fun x H3 yl => ?_⟩
    obtain ⟨F3, s3, r3⟩ := hy x H3 yl
    have E3 := (E2.step s3).over S1 (e12.trans s3.ef)
    exact h1 _ _ F3 H3 σ2 x _ E3 r3 fun F4 H4 σ4 s4 E4 _ => h2 _ _ F4 H4 σ4 _ E4 fun v F5 H5 S5 r5 => q v F5 H5 (S1.unover S5) r5
  | @exc d ds ρ4 ρ5 ρ6 js1 c4 fs4 h1 h2 =>
    obtain ⟨g1, g2⟩ := drop_get hr
    obtain ⟨hg, hy⟩ := jg i d g1
    refine .inr ⟨hg, fun _ _ => False, fun _ _ z => z.elim, fun x H3 yl => ?_⟩
    obtain ⟨F3, s3, r3⟩ := hy x H3 yl
    have E3 := (E2.step s3).over S1 (e12.trans s3.ef)
    exact h1 _ _ F3 H3 σ2 x _ E3 r3 fun F4 H4 σ4 s4 E4 _ => h2 _ _ F4 H4 σ4 _ E4 fun cls dd F5 H5 σ5 E5 r5 => q cls dd F5 H5 σ5 (E5.unover S1) r5
/-- a loop as a fold: the state b as slots; each turn from env b to env (f b a) -/
theorem DFor.fold {α β : Type} (env : β → Rho) (g : α → D) (f : β → α → β) : ∀ (l : List α) (b : β),
    (∀ b a, a ∈ l → ∃ ρ1 js ρ2, DG X tg (g a) (env b) ρ1 js ∧ DSs X W body ρ1 (.nx ρ2) ∧ Le ρ2 (env (f b a))) → DFor X W tg body (l.map g) (env b) (.nx (env (l.foldl f b)))
  | [], b, _ => .nil
  | a :: l, b, h => by
    obtain ⟨ρ1, js, ρ2, h1, h2, h3⟩ := h b a List.mem_cons_self
    exact .step h1 h2 h3 (DFor.fold env g f l (f b a) fun b c hc => h b c (List.mem_cons_of_mem _ hc))

/-! ## while -/
inductive DWh (X : Cx) (W : WX) (c : Expr) (body : List Stmt) : Nat → Rho → Out → Prop
  | stop {ρ : Rho} (ht : DT X W c ρ (.ok false)) : DWh X W c body 0 ρ (.nx ρ)
  | step {n : Nat} {ρ ρ1 ρ2 : Rho} {o : Out} (ht : DT X W c ρ (.ok true)) (h : DSs X W body ρ (.nx ρ1)) (hl : Le ρ1 ρ2) (h2 : DWh X W c body n ρ2 o) : DWh X W c body (n + 1) ρ o
  | cont {n : Nat} {ρ ρ1 ρ2 : Rho} {o : Out} (ht : DT X W c ρ (.ok true)) (h : DSs X W body ρ (.ct ρ1)) (hl : Le ρ1 ρ2) (h2 : DWh X W c body n ρ2 o) : DWh X W c body (n + 1) ρ o
  | brk {ρ ρ1 : Rho} (ht : DT X W c ρ (.ok true)) (h : DSs X W body ρ (.bk ρ1)) : DWh X W c body 0 ρ (.nx ρ1)
  | ret {ρ : Rho} {d : D} (ht : DT X W c ρ (.ok true)) (h : DSs X W body ρ (.rt d)) : DWh X W c body 0 ρ (.rt d)
  | exc {ρ ρ1 : Rho} {f : Str} {fs : List (Str × D)} (ht : DT X W c ρ (.ok true)) (h : DSs X W body ρ (.ex f fs ρ1)) : DWh X W c body 0 ρ (.ex f fs ρ1)
theorem ds_while (B : Bd X N sc k W) (h : ∃ n, DWh X W c body n ρ o) : DS X W (.While c body [] pos) ρ o := fun F0 H0 F H σ Dn E q => by
  obtain ⟨n0, h⟩ := h
  refine ⟨_, ps_while B.po pt_w pss_w, fun n σ1 H1 => ∃ F1 ρ1, EnvS X.K X.mg F0 H0 F1 H1 σ1 ρ1 ∧ DWh X W c body n ρ1 o, ⟨n0, F, ρ, E, h⟩, ?_⟩
  rintro m σ1 H1 ⟨F1, ρ1, E1, hw⟩
  cases hw with
  | stop ht => exact ht.use E1 fun F2 H2 s2 => iteF (q F2 H2 σ1 (E1.step s2))
  | @step n4 _ _ _ _ ht hb hl h2 => exact ht.use E1 fun F2 H2 s2 => iteT ⟨fun σ' H' => ∃ F3 ρ3, EnvS X.K X.mg F0 H0 F3 H' σ' ρ3 ∧ DWh X W c body n4 ρ3 o, fun σ' H' ⟨F3, ρ3, E3, e3⟩ => ⟨_, Nat.lt_succ_self _, F3, ρ3, E3, e3⟩, hb _ _ F2 H2 σ1 _ (E1.step s2) fun F3 H3 σ3 E3 => ⟨F3, _, E3.weaken hl, h2⟩⟩
  | @cont n4 _ _ _ _ ht hb hl h2 => exact ht.use E1 fun F2 H2 s2 => iteT ⟨fun σ' H' => ∃ F3 ρ3, EnvS X.K X.mg F0 H0 F3 H' σ' ρ3 ∧ DWh X W c body n4 ρ3 o, fun σ' H' ⟨F3, ρ3, E3, e3⟩ => ⟨_, Nat.lt_succ_self _, F3, ρ3, E3, e3⟩, hb _ _ F2 H2 σ1 _ (E1.step s2) fun F3 H3 σ3 E3 => ⟨F3, _, E3.weaken hl, h2⟩⟩
  | brk ht hb => exact ht.use E1 fun F2 H2 s2 => iteT ⟨fun _ _ => False, fun _ _ z => z.elim, hb _ _ F2 H2 σ1 _ (E1.step s2) fun F3 H3 σ3 E3 => q F3 H3 σ3 E3⟩
  | ret ht hb => exact ht.use E1 fun F2 H2 s2 => iteT ⟨fun _ _ => False, fun _ _ z => z.elim, hb _ _ F2 H2 σ1 _ (E1.step s2) fun v F3 H3 s3 r3 => q v F3 H3 s3 r3⟩
  | exc ht hb => exact ht.use E1 fun F2 H2 s2 => iteT ⟨fun _ _ => False, fun _ _ z => z.elim, hb _ _ F2 H2 σ1 _ (E1.step s2) fun cls dd F3 H3 σ3 E3 r3 => q cls dd F3 H3 σ3 E3 r3⟩
end

/-! ## comprehensions -/
structure BA where
  s : Shared
  H : Hp
  C : Addr
  cl : List (Str × Addr)
  fp : List Addr
abbrev XB (X : Cx) (scope : Scope) (q : BA) : Cx := X.blk q.s q.H scope (compEnvC scope q.cl q.C X.env) q.fp
abbrev WF : WX := fun _ _ _ _ => False
def wipeR (ρ : Rho) : List Nat → Rho
  | [] => ρ
  | v :: vs => (wipeR ρ vs).set v .any
section
variable {X : Cx} {W : WX} {e a b c tg elt : Expr} {es rest tgs ifs : List Expr} {ρ ρ' ρ1 ρ2 ρ3 : Rho} {N : List Str} {sc scope : Scope} {k n : Nat} {pos : Pos} {x y z : D} {d : D} {r : R D} {F F' H H' F0 H0 : Hp} {p q s t : Bool} {ct : Ct} {ds items ys : List D} {o : Out} {st : Stmt} {sts body : List Stmt} {js vs : List Nat}
theorem EnvS.wipe {K : PySem.W.Frag} {mg : Str → Option Value} {σ : L2.St} (E : EnvS K mg F0 H0 F H σ ρ) : ∀ vs : List Nat, EnvS K mg F0 H0 F H (wipe σ vs) (wipeR ρ vs)
  | [] => E
  | v :: vs => (E.wipe vs).setAny v none
theorem wipe_get {τ : L2.St} : ∀ {vs : List Nat} {i : Nat}, (L2.wipe τ vs)[i]? = if i ∈ vs then (τ[i]?).map (fun _ => none) else τ[i]?
  | [], i => by simp [L2.wipe]
  | v :: vs, i => by
    unfold L2.wipe
    by_cases hv : v = i
    · subst hv
      simp only [List.mem_cons, true_or, if_true]
      by_cases hl : v < (L2.wipe τ vs).length
      · rw [List.getElem?_set_self hl]
        rw [L2.wipe_length] at hl
        rw [List.getElem?_eq_getElem hl]; rfl
      · rw [List.getElem?_eq_none (by simpa using hl)]
        rw [L2.wipe_length] at hl
        rw [List.getElem?_eq_none (by omega)]; rfl
    · rw [List.getElem?_set_ne hv, wipe_get]
      have : (i ∈ v :: vs) ↔ i ∈ vs := by simp [Ne.symm hv]
      by_cases hm : i ∈ vs
      · rw [if_pos hm, if_pos (this.mpr hm)]
      · rw [if_neg hm, if_neg (fun z => hm (this.mp z))]
theorem wipe_again {σ σ2 : L2.St} (ag : Agr js σ2 (L2.wipe σ vs)) (hj : ∀ i ∈ js, i ∈ vs) : L2.wipe σ2 vs = L2.wipe σ vs := by
  have hl : σ2.length = σ.length := by rw [ag.1, L2.wipe_length]
  have h := ag.2
  apply List.ext_getElem?
  intro i
  rw [wipe_get, wipe_get]
  by_cases hm : i ∈ vs
  · rw [if_pos hm, if_pos hm]
    by_cases hi : i < σ.length
    · rw [List.getElem?_eq_getElem (show i < σ2.length by omega), List.getElem?_eq_getElem hi]; rfl
    · rw [List.getElem?_eq_none (by omega), List.getElem?_eq_none (by omega)]
  · rw [if_neg hm, if_neg hm, h i (fun z => hm (hj i z)), wipe_get, if_neg hm]
theorem Bg.blk (B : Bg X N sc k W) (q : BA) : Bg (XB X scope q) N (relS scope sc) k WF :=
  { n := B.n, sc := (by have := B.sc; subst this; rfl), nd := B.nd, calm := B.calm, room := B.room, tk := takes0, po := PassesOwn.never, gd := B.gd }
inductive DLc (X : Cx) (scope : Scope) (vs : List Nat) (tg : Expr) (ifs : List Expr) (elt : Expr) (ρw : Rho) : List D → List D → Prop
  | nil : DLc X scope vs tg ifs elt ρw [] []
  | take {d y : D} {ds ys : List D} {ρ1 : Rho} {js : List Nat} (h1 : ∀ q, DG (XB X scope q) tg d ρw ρ1 js) (hj : ∀ i ∈ js, i ∈ vs) (h2 : ∀ q, DTs (XB X scope q) WF ifs ρ1 (.ok true)) (h3 : ∀ q, DE (XB X scope q) WF elt ρ1 (.ok y)) (r : DLc X scope vs tg ifs elt ρw ds ys) : DLc X scope vs tg ifs elt ρw (d :: ds) (y :: ys)
  | skip {d : D} {ds ys : List D} {ρ1 : Rho} {js : List Nat} (h1 : ∀ q, DG (XB X scope q) tg d ρw ρ1 js) (hj : ∀ i ∈ js, i ∈ vs) (h2 : ∀ q, DTs (XB X scope q) WF ifs ρ1 (.ok false)) (r : DLc X scope vs tg ifs elt ρw ds ys) : DLc X scope vs tg ifs elt ρw (d :: ds) ys
theorem DLc.length (h : DLc X scope vs tg ifs elt ρ ds ys) : ys.length ≤ ds.length := by
  induction h with
  | nil => exact Nat.le_refl _
  | take _ _ _ _ _ ih => simpa using ih
  | skip _ _ _ _ ih => exact Nat.le_succ_of_le ih
def wGB (X : Cx) (scope : Scope) (tg : Expr) : TG := fun v σ H Q => ∀ q, wG (XB X scope q) tg v σ H Q
def wTB (X : Cx) (scope : Scope) (es : List Expr) : TT := fun σ H Q => ∀ q, wTs (XB X scope q) es σ H Q
def wEB (X : Cx) (scope : Scope) (e : Expr) : TE := fun σ H Q => ∀ q, wE (XB X scope q) e σ H Q
theorem pg_wb (q : BA) : PG (XB X scope q) tg (wGB X scope tg) := ⟨fun pins s σ H v u Q I r h => pg_w.run pins s σ H v u Q I r (h q)⟩
theorem pts_wb (q : BA) : PTs (XB X scope q) es (wTB X scope es) := ⟨fun pins s σ H Q I h => pts_w.run pins s σ H Q I (h q)⟩
theorem pe_wb (q : BA) : PE (XB X scope q) e (wEB X scope e) := ⟨fun pins s σ H Q I h => pe_w.run pins s σ H Q I (h q)⟩
theorem dts_nil : DTs X W [] ρ (.ok true) := fun F0 H0 F H σ Q E q => ⟨_, pts_nil, q F H (Stp.refl E.sub)⟩
theorem dts_one (h : DT X W c ρ (.ok p)) : DTs X W [c] ρ (.ok p) := fun F0 H0 F H σ Q E q => ⟨_, pts_one pt_w, h.use E q⟩
/-- the reading of a comprehension -/
theorem lc_read (hi : DI X W tg e ρ items) (h : DLc X scope vs tg ifs elt (wipeR ρ vs) items ys) (hz : items.length < sizeLine) {σ : L2.St} {Q : VK} (E : EnvS X.K X.mg F0 H0 F H σ ρ) (q : PostL X.K X.mg F H Q ys) :
    tLc (wI X tg e) (wGB X scope tg) (wTB X scope ifs) (wEB X scope elt) vs σ H Q := by
  refine hi F0 H0 F H σ _ E fun J F1 H1 s1 hJ L hL => ?_
  have hLF : F1 L = none := by
    cases g : F1 L with
    | none => rfl
    | some u => rw [s1.sub L u g] at hL; cases hL
  have hLH : H L = none := by
    cases g : H L with
    | none => rfl
    | some u => rw [s1.eh L u g] at hL; cases hL
  have Ew := (E.step s1).wipe vs
  refine ⟨fun i m H2 => m = items.length - i ∧ i ≤ items.length ∧ ∃ F2 acc done rest, Stp F1 H1 F2 H2 ∧ F2 L = none ∧ H2 L = some (.lst acc) ∧ RpA X.K X.mg F2 acc done ∧ done ++ rest = ys ∧ done.length ≤ i ∧ DLc X scope vs tg ifs elt (wipeR ρ vs) (items.drop i) rest,
    ⟨items.length, by simp, Nat.zero_le _, F1, [], [], ys, Stp.newO s1.sub hL, hLF, upd_same, .nil, by simp, Nat.le_refl _, by simpa using h⟩, ?_⟩
  rintro i m H2 ⟨rfl, hil, F2, acc, done, rest, s2, f2, h2, r2, e2, dl, hd⟩
  obtain ⟨jg, jst⟩ := hJ F2 H2 s2.ef s2.sub
  have turn : ∀ (d : D) (dr : List D), items.drop i = d :: dr → ∀ (ρ1 : Rho) (js : List Nat), (∀ q, DG (XB X scope q) tg d (wipeR ρ vs) ρ1 js) → (∀ i ∈ js, i ∈ vs) → ∀ (b : Bool) (rest2 : List D), (∀ q, DTs (XB X scope q) WF ifs ρ1 (.ok b)) →
      (b = true → ∃ y, (∀ q, DE (XB X scope q) WF elt ρ1 (.ok y)) ∧ rest = y :: rest2) → (b = false → rest = rest2) → DLc X scope vs tg ifs elt (wipeR ρ vs) dr rest2 →
      (J.stop i H2 ∧ Q (.ref L) H2) ∨ (J.go i H2 ∧ ∃ Nx : Hp → Prop, (∀ H', Nx H' → ∃ m', m' < items.length - i ∧ (fun i m H2 => m = items.length - i ∧ i ≤ items.length ∧ ∃ F2 acc done rest, Stp F1 H1 F2 H2 ∧ F2 L = none ∧ H2 L = some (.lst acc) ∧ RpA X.K X.mg F2 acc done ∧ done ++ rest = ys ∧ done.length ≤ i ∧ DLc X scope vs tg ifs elt (wipeR ρ vs) (items.drop i) rest) (i + 1) m' H') ∧
        ∀ x H', J.yld i H2 x H' → wGB X scope tg x (L2.wipe σ vs) H' fun σ2 H3 => L2.wipe σ2 vs = L2.wipe σ vs ∧ wTB X scope ifs σ2 H3 fun b H4 =>
          if b = true then wEB X scope elt σ2 H4 fun y H5 => ∃ acc, H5 L = some (.lst acc) ∧ acc.length < sizeLine ∧ Nx (upd H5 L (.lst (acc ++ [y]))) else Nx H4) := by
    intro d dr hdr ρ1 js g1 gj b rest2 g2 gy gn gd
    obtain ⟨i1, i2⟩ := drop_get hdr
    have hlt := lt_of_get i1
    obtain ⟨hg, hy⟩ := jg i d i1
    refine .inr ⟨hg, fun H' => i + 1 ≤ items.length ∧ ∃ F2 acc done rest, Stp F1 H1 F2 H' ∧ F2 L = none ∧ H' L = some (.lst acc) ∧ RpA X.K X.mg F2 acc done ∧ done ++ rest = ys ∧ done.length ≤ i + 1 ∧ DLc X scope vs tg ifs elt (wipeR ρ vs) (items.drop (i + 1)) rest,
      fun H' hn => ⟨items.length - (i + 1), by omega, rfl, hn⟩, fun x H3 yl qq => ?_⟩
    obtain ⟨F3, s3, r3⟩ := hy x H3 yl
    have E3 := (Ew.step s2).step s3
    refine g1 qq _ _ F3 H3 _ x _ E3 r3 fun F4 H4 σ4 s4 E4 a4 => ⟨wipe_again a4 gj, fun qq2 => ?_⟩
    refine g2 qq2 _ _ F4 H4 σ4 _ E4 fun F5 H5 s5 => ?_
    have s25 := (s3.trans s4).trans s5
    have hl5 : H5 L = some (.lst acc) := s25.eh L _ h2
    have hf5 : F5 L = none := by rw [s25.ag L (by rw [h2]; simp), f2]
    cases b with
    | false =>
      refine iteF ?_
      show _ ∧ _
      exact ⟨by omega, F5, acc, done, rest2, s2.trans s25, hf5, hl5, r2.up s25.ef, by rw [← gn rfl]; exact e2, by omega, by rw [i2]; exact gd⟩
    | true =>
      obtain ⟨y, g3, er⟩ := gy rfl
      refine iteT fun qq3 => (g3 qq3).use (E4.step s5) fun v F6 H6 s6 r6 => ?_
      have s26 := s25.trans s6
      have hl6 : H6 L = some (.lst acc) := s26.eh L _ h2
      have hf6 : F6 L = none := by rw [s26.ag L (by rw [h2]; simp), f2]
      refine ⟨acc, hl6, by have := r2.length; omega, by omega, F6, acc ++ [v], done ++ [y], rest2, ⟨(s2.trans s26).ef, fun a o g => ?_, fun a o g => ?_, (s2.trans s26).ag⟩, hf6, upd_same, (r2.up s26.ef).append (.cons r6 .nil), by rw [← e2, er]; simp, by simp; omega, by rw [i2]; exact gd⟩
      · rw [upd_ne (by rintro rfl; rw [hL] at g; cases g)]; exact (s2.trans s26).eh a o g
      · rw [upd_ne (by rintro rfl; rw [hf6] at g; cases g)]; exact s26.sub a o g
  generalize hr : items.drop i = it at hd
  cases hd with
  | nil =>
    have hn : items.length ≤ i := by
      have := congrArg List.length hr
      simp at this; omega
    have : i = items.length := by omega
    subst this
    refine .inl ⟨jst, q L acc F2 H2 (s1.trans s2) f2 hLH h2 ?_⟩
    rw [List.append_nil] at e2
    rw [← e2]; exact r2
  | take g1 gj g2 g3 gd => exact turn _ _ hr _ _ g1 gj true _ g2 (fun _ => ⟨_, g3, rfl⟩) (fun z => nomatch z) gd
  | skip g1 gj g2 gd => exact turn _ _ hr _ _ g1 gj false _ g2 (fun z => nomatch z) (fun _ => rfl) gd
end
end DL

namespace DL
open PySem PySem.Spec PyProof.Rows L2 Evl
section
variable {X : Cx} {W : WX} {e a b c tg elt : Expr} {es rest tgs ifs : List Expr} {ρ ρ' ρ1 ρ2 ρ3 : Rho} {N : List Str} {sc scope : Scope} {k n : Nat} {pos : Pos} {x y z : D} {d : D} {r : R D} {F F' H H' F0 H0 : Hp} {p q s t : Bool} {ct : Ct} {ds items ys : List D} {o : Out} {st : Stmt} {sts body : List Stmt} {js vs : List Nat}
/-- [elt for tg in e if ..] -/
theorem df_lc (B : Bg X N sc k W) (own : List (Str × Nat)) (hi : DI X W tg e ρ items) (h : DLc X scope (own.map (·.2)) tg ifs elt (wipeR ρ (own.map (·.2))) items ys) (hz : items.length < sizeLine) (ok : BlkOk N sc scope own)
    (hs : ∀ x, foldedSetIterable e X.env x = pure x := by intro _; rfl) : DF X W (.ListComp elt [⟨tg, e, ifs, 0⟩] scope pos) ρ ys := fun F0 H0 F H σ Q E q =>
  ⟨_, pe_lc B.calm (by rw [B.n]; exact B.nd) pi_w (by rw [B.n, B.sc]; exact ok) (fun s H C cl fp => pg_wb ⟨s, H, C, cl, fp⟩) (fun s H C cl fp => pts_wb ⟨s, H, C, cl, fp⟩) (fun s H C cl fp => pe_wb ⟨s, H, C, cl, fp⟩) hs, lc_read hi h hz E q⟩
/-- y = [..], y a local of its own; a list of our own -/
theorem ds_ownLc (B : Bg X N sc k W) (i : Nat) {u : Str} {p' : Pos} (own : List (Str × Nat)) {cpos : Pos} (hi : DI X W tg e ρ items) (h : DLc X scope (own.map (·.2)) tg ifs elt (wipeR ρ (own.map (·.2))) items ys) (hz : items.length < sizeLine) (ok : BlkOk N sc scope own)
    (hN : N[i]? = some u := by rfl) (hl : sc.names.lookup u = some .local := by rfl) (hk : sc.kind = .function := by rfl) (hln : (p'.line == cpos.line) = true := by rfl) (hsc : (scope.names.any fun (n, k) => n == u && (k == .local || k == .cell)) = false := by decide +kernel)
    (hs : ∀ x, foldedSetIterable e X.env x = pure x := by intro _; rfl) : DS X W (.Assign [.Name u p'] (.ListComp elt [⟨tg, e, ifs, 0⟩] scope cpos) pos) ρ (.nx (ρ.set i (.own ys))) := fun F0 H0 F H σ Dn E q =>
  ⟨_, ps_setLc (i := i) B.calm (by rw [B.n]; exact B.nd) (by rw [B.n]; exact hN) (by rw [B.sc]; exact hl) (sw_true (by rw [B.sc]; exact hk) (by rw [B.sc]; exact hl) hln hsc) pi_w (by rw [B.n, B.sc]; exact ok) (fun s H C cl fp => pg_wb ⟨s, H, C, cl, fp⟩)
    (fun s H C cl fp => pts_wb ⟨s, H, C, cl, fp⟩) (fun s H C cl fp => pe_wb ⟨s, H, C, cl, fp⟩) hs, lc_read hi h hz E fun l xs F1 H1 s1 hF hH hl r1 => q F1 H1 _ (E.own1 s1 hF hH hl r1)⟩
theorem own_val {i : Nat} (h : DS X W st ρ (.nx (ρ.set i (.own ys)))) (hi : i < ρ.length := by decide) : DS X W st ρ (.nx (ρ.set i (.val (.lst ys)))) := fun F0 H0 F H σ Dn E q =>
  h F0 H0 F H σ Dn E fun F1 H1 σ1 E1 => by
    obtain ⟨F2, E2, _⟩ := E1.freeze (i := i) (ds := ys) (by rw [List.getElem?_set_self hi])
    rw [List.set_set] at E2
    exact q F2 H1 σ1 E2

/-! ## exceptions of one's own without more -/
structure ExC (K : PySem.W.Frag) (mg : Str → Option Value) (c : Str) : Prop where
  ex : ∃ C, mg c = some (.ref C) ∧ PySem.W.excIn K C [.type "ValueError", .type "Exception", .type "BaseException", .type "object"] "ValueError.__new__" = true ∧ PySem.W.keepIn K (.ref C) = true ∧ PySem.W.subIn K (.ref C) (.type "BaseException") = some true ∧
    PySem.W.typeIn K (.ref C) = some (.type "type")
theorem ds_raise {u m : Str} {j : Nat} {p1 p2 p3 : Pos} (B : Bd X N sc k W) (hc : ExC X.K X.mg u) (hg : sc.names.lookup u = some .globalImplicit := by rfl) (hd : (u == ("__debug__" : Str)) = false := by decide) :
    DS X W (.Raise (some (.Call (.Name u p1) [.Constant (.str m) j p2] [] p3)) none pos) ρ (.ex u [] ρ) := fun F0 H0 F H σ Dn E q => by
  obtain ⟨C, g, x1, k1, b1, t1⟩ := hc.ex
  refine ⟨_, ps_raise B.calm B.tk (pmk_own PySem.F.excBase_ValueError x1 g k1 (raises_own b1 t1) (show X.env.scope.names.lookup u = _ by rw [B.sc]; exact hg) hd), ?_⟩
  exact q _ _ F H σ E ⟨C, g, rfl, fun _ => rfl, fun z => absurd rfl z⟩

/-! ## a def by its body -/
def OutIs : Out → R D → Prop
  | .rt d, .ok d' => d = d'
  | .nx _, .ok .non => True
  | .ex c fs _, .ex c' fs' => c = c' ∧ fs = fs'
  | _, _ => False
def startR (N : List Str) (ds : List D) : Rho := ds.map Sl.val ++ List.replicate (N.length - ds.length) .any
theorem start_env {K : PySem.W.Frag} {mg : Str → Option Value} {vs : List V} (he : Ex F H) (r : RpA K mg F vs ds) : EnvS K mg F H F H (L2.start N vs) (startR N ds) := by
  have hl := r.length
  have nown : ∀ (i : Nat) (es : List D), (startR N ds)[i]? ≠ some (Sl.own es) := fun i es h => by
    unfold startR at h
    by_cases hi : i < ds.length
    · rw [List.getElem?_append_left (by simpa using hi), List.getElem?_map] at h
      cases g : ds[i]? with
      | none => rw [g] at h; cases h
      | some u => rw [g] at h; cases h
    · rw [List.getElem?_append_right (by simpa using Nat.le_of_not_lt hi), List.getElem?_replicate] at h
      split at h <;> cases h
  refine ⟨Stp.refl he, by unfold L2.start startR; simp [hl], fun i d h => ?_, fun i es h => absurd h (nown i es), fun i j ds es _ h => absurd h (nown i ds)⟩
  unfold startR at h
  by_cases hi : i < ds.length
  · rw [List.getElem?_append_left (by simpa using hi), List.getElem?_map] at h
    cases g : ds[i]? with
    | none => rw [g] at h; cases h
    | some u =>
      rw [g] at h
      cases h
      obtain ⟨v, g1, g2⟩ := r.get g
      refine ⟨v, ?_, g2⟩
      unfold L2.start
      rw [List.getElem?_append_left (by rw [List.length_map, hl]; exact hi), List.getElem?_map, g1] <;> rfl
  · rw [List.getElem?_append_right (by simpa using Nat.le_of_not_lt hi), List.getElem?_replicate] at h
    split at h <;> cases h
/-- the frame of a def's body -/
structure TopX (X : Cx) : Prop where
  st : X.stack = X.env :: X.outer
  fr : X.env.frame = some X.env.locals
/-- a body's promise -/
def BodyOk (X : Cx) (N : List Str) (sc : Scope) (k : Nat) (W : WX) (body : List Stmt) (n : Nat) (c : Ct) : Prop := ∀ ds r, ds.length = n → c ds r → ∃ o, OutIs o r ∧ DSs X W body (startR N ds) o
theorem fn_ok {P : Program} {w : World} {K : PySem.W.Frag} {mg : Str → Option Value} {base : Heap} {x qual : Str} {st : Stmt} {f : Addr} {fd : FuncData} {N ps : List Str} {k n : Nat} {c : Ct} (Fu : L2.Fun K x qual st f fd) (S : FnScope N ps (defScope st)) (hn : ps.length = n)
    (hb : ∀ X W, Bg X N (defScope st) k W → X.prog = P → X.w = w → X.K = K → X.mg = mg → X.base = base → (∀ s, X.fn s = true) → TopX X → BodyOk X N (defScope st) k W (defBody st) n c) : FnG P w K mg base (k + 1) f fd ps (spOf K mg n c) := by
  obtain ⟨oc, od, kV, doc, pm, an, cdv, ct, osl, rfl, lk, hcd⟩ := Fu.ex
  refine fng_of lk hcd S (fun vs H Q E h => ?_) fun A outer s H vs Q E hg hr h => ?_
  · obtain ⟨F, ds, r, _, hr, hl, _⟩ := h
    rw [hr.length, hl, hn]
  · obtain ⟨F, ds, r, he, hrp, hl, hc, post⟩ := h
    have B : Bg (cxOf (L2.CX P w) P w K mg base N qual (defScope st) f cdv A outer s H E) N (defScope st) k (fun cls d _ H => E cls d H) :=
      { n := rfl, sc := rfl, nd := S.nd, calm := rfl, room := hr, tk := takes_of rfl rfl rfl rfl, po := passes_of (K := fun e s'' => L2.CX P w outer H s E e s'') rfl, gd := hg }
    obtain ⟨o, ho, hd⟩ := hb _ _ B rfl rfl rfl rfl rfl (fun _ => rfl) ⟨rfl, rfl⟩ ds r hl hc
    refine ⟨_, pss_w, hd F H F H (L2.start N vs) _ (start_env he hrp) ?_⟩
    cases o with
    | rt d =>
      cases r with
      | ok d' => cases (show d = d' from ho); exact fun v F' H' s2 r2 => post v F' H' s2 r2
      | ex c fs => exact (show False from ho).elim
    | nx ρ =>
      cases r with
      | ok d' =>
        cases d' <;> first | exact (show False from ho).elim | exact fun F' H' σ' E' => post _ F' H' E'.st .non
      | ex c fs => exact (show False from ho).elim
    | bk ρ => cases r <;> exact (show False from ho).elim
    | ct ρ => cases r <;> exact (show False from ho).elim
    | ex c fs ρ =>
      cases r with
      | ok d' => exact (show False from ho).elim
      | ex c' fs' =>
        obtain ⟨h1, h2⟩ := (show c = c' ∧ fs = fs' from ho)
        subst h1 h2
        exact fun cls dd F' H' σ' E' r2 => post cls dd F' H' E'.st r2
/-- .. as a caller knows it -/
theorem fn_known {P : Program} {w : World} {K : PySem.W.Frag} {mg : Str → Option Value} {base : Heap} {x qual : Str} {st : Stmt} {f : Addr} {fd : FuncData} {N ps : List Str} {k n : Nat} {c : Ct} (Fu : L2.Fun K x qual st f fd) (hm : mg x = some (.ref f)) (S : FnScope N ps (defScope st)) (hn : ps.length = n) (hbi : Binds K fd ps [])
    (hb : ∀ X W, Bg X N (defScope st) k W → X.prog = P → X.w = w → X.K = K → X.mg = mg → X.base = base → (∀ s, X.fn s = true) → TopX X → BodyOk X N (defScope st) k W (defBody st) n c) : Fn P w K mg base x (k + 1) n c :=
  ⟨f, fd, ps, hm, Fu.kp, hbi, hn, fn_ok Fu S hn hb⟩
end
end DL

namespace DL
open PySem PySem.Spec PyProof.Rows L2 Evl
section
variable {X : Cx} {W : WX} {e a b c tg elt : Expr} {es rest tgs ifs : List Expr} {ρ ρ' ρ1 ρ2 ρ3 : Rho} {N : List Str} {sc scope : Scope} {k n : Nat} {pos p0 : Pos} {x y z : D} {d : D} {r : R D} {F F' H H' F0 H0 : Hp} {p q s t : Bool} {ct : Ct} {ds items ys : List D} {o : Out} {st : Stmt} {sts body : List Stmt} {js vs : List Nat}
mutual
theorem nodict_py : ∀ (d : D), PyData.hasDict d.py = false
  | .non => by simp [D.py, PyData.hasDict]
  | .bl _ => by simp [D.py, PyData.hasDict]
  | .int _ => by simp [D.py, PyData.hasDict]
  | .str _ => by simp [D.py, PyData.hasDict]
  | .tup ds => by simp [D.py, PyData.hasDict, nodict_pyAll ds]
  | .lst ds => by simp [D.py, PyData.hasDict, nodict_pyAll ds]
  | .scr _ => by simp [D.py, PyData.hasDict]
  | .obj _ _ => by simp [D.py, PyData.hasDict]
  | .exo _ _ _ => by simp [D.py, PyData.hasDict]
theorem nodict_pyAll : ∀ (ds : List D), PyData.hasDictAll (pyAll ds) = false
  | [] => by simp [pyAll, PyData.hasDictAll]
  | d :: ds => by simp [pyAll, PyData.hasDictAll, nodict_py d, nodict_pyAll ds]
end
/-- what repr gives -/
def D.rep (d : D) : Str := d.py.shown
def isRef : D → Bool
  | .tup _ => true
  | .lst _ => true
  | _ => false
theorem call_repr_D (hg : X.A.guards = some []) (hu : X.A.units + 70 < cLine) (hx : Sh x) (h0 : isRef x = true) (h1 : x.py.showable = true) (h2 : x.rep.length ≤ sizeLine) :
    CallR X (.builtin "repr") (fun xs H Q => ∃ v, xs = [v] ∧ Rp X.K X.mg H v x ∧ Q (.str x.rep) H) := by
  intro pins s σ H xs us Q I r h
  obtain ⟨v, rfl, rx, q⟩ := h
  obtain ⟨u, rfl, ru⟩ := vals1 r
  obtain ⟨as, rd⟩ := Dp.reads I x.py v u (Rp.dp x v hx.1 rx) ru
  have fin : ∀ h' u tk, (∀ b o, s.heap.get? b = some o → h'.get? b = some o) → EP X pins σ Q (.str x.py.shown u) { s with heap := h', toks := tk } := fun h' u tk hk => ⟨.str x.rep, H, I.kept (h' := h') (t' := tk) hk, ⟨u, rfl⟩, q⟩
  have hd := dep_py x
  have h64 := hx.2
  have isr : ∃ a, u = .ref a := by
    cases rx <;> simp [isRef] at h0 <;> exact ⟨_, ru⟩
  obtain ⟨a, rfl⟩ := isr
  exact repr_of_reads' rd h1 (fun z => by rw [nodict_py] at z; cases z) hg (by omega) (fun _ _ e => e) fin h2
theorem de_repr (B : Bg X N sc k W) (hm : X.mg "repr" = none) (ha : DE X W a ρ (.ok x)) (hx : Sh x) (h0 : isRef x = true) (h1 : x.py.showable = true) (h2 : x.rep.length ≤ sizeLine) (hg : sc.names.lookup ("repr" : Str) = some .globalImplicit := by rfl)
    (hs : starEach [a] X.env = (false, eval a X.env) :: starEach [] X.env := by rfl) : DE X W (.Call (.Name "repr" p0) [a] [] pos) ρ (.ok (.str x.rep)) :=
  de_callB B.toBx (call_repr_D B.gd (by have := B.room.un; omega) hx h0 h1 h2) hm (by decide +kernel) (da_cons ha da_nil hs) (fun F H vs Q e r q => by
    cases r with | cons r1 r2 => cases r2; exact ⟨_, rfl, r1.up e, q _ F H (Stp.refl e) (.str _)⟩) hg (he := hs)

/-! ## sizes of what is shown -/
mutual
def D.wt : D → Nat
  | .non => 10
  | .bl _ => 10
  | .int _ => 2000
  | .str x => 10 * x.length + 10
  | .tup ds => wtAll ds + 10
  | .lst ds => wtAll ds + 10
  | .scr _ => 10
  | .obj _ _ => 10
  | .exo _ _ _ => 10
def wtAll : List D → Nat
  | [] => 0
  | d :: ds => d.wt + 2 + wtAll ds
end

/-! ## isinstance -/
/-- a type's name -/
def tyD : D → Option String
  | .non => some "NoneType"
  | .bl _ => some "bool"
  | .int _ => some "int"
  | .str _ => some "str"
  | .tup _ => some "tuple"
  | .lst _ => some "list"
  | _ => none
theorem tyX_rp {K : PySem.W.Frag} {mg : Str → Option Value} {v : V} {T : String} (h : tyD x = some T) (r : Rp K mg H v x) : TyX K H v (.type T) := by
  cases r <;> simp [tyD] at h <;> subst h
  · exact .base .non
  · exact .base (.bl _)
  · exact .base (.int _)
  · exact .base (.str _)
  · rename_i a xs ds h1 h2
    rcases h1 with (h1 | ⟨o, h1⟩) | ⟨o, its, n, h1, h3, _⟩
    · exact .base (.tup h1)
    · exact .fTuple h1
    · exact .kTuple h1 h3
  · rename_i a xs ds h1 h2
    exact .base (.lst h1)
theorem de_isi {u T : String} {nm : Str} {p1 : Pos} (B : Bx X N sc) (hm : X.mg "isinstance" = none) (hm2 : X.mg nm = none) (ha : DE X W a ρ (.ok x)) (hx : tyD x = some T) (hv : bootBuiltins nm = some (.type u)) (hk : kitB T u = some p) (hg : sc.names.lookup ("isinstance" : Str) = some .globalImplicit := by rfl)
    (hg2 : sc.names.lookup nm = some .globalImplicit := by rfl) (hn : nm ≠ "__name__" := by decide) (hd : (nm == ("__debug__" : Str)) = false := by decide)
    (hs : starEach [a, .Name nm p1] X.env = (false, eval a X.env) :: starEach [.Name nm p1] X.env := by rfl) (hs2 : starEach [.Name nm p1] X.env = (false, eval (.Name nm p1) X.env) :: starEach [] X.env := by rfl)
    (hp : (backTo pos (starEach [.Name nm p1] X.env)).any (·.1) = false := by rfl) : DE X W (.Call (.Name "isinstance" p0) [a, .Name nm p1] [] pos) ρ (.ok (.bl p)) := fun F0 H0 F H σ Q E q =>
  ⟨_, pe_callB call_isi (show X.env.scope.names.lookup _ = _ by rw [B.sc]; exact hg) hm (by decide +kernel) (pa_cons pe_w (pa_cons (pe_bltn (v := .ty u) (show X.env.scope.names.lookup _ = _ by rw [B.sc]; exact hg2) hm2 hv rfl hn hd) pa_nil hs2) hs) (by decide) (by decide) hs hp,
    ha.use E fun v F1 H1 s1 r1 => ⟨v, .ty u, .type T, .type u, p, rfl, .ty u, tyX_rp hx (r1.up s1.sub), kit_ty hk, q _ F1 H1 s1 (.bl _)⟩⟩
theorem dt_isi {u T : String} {nm : Str} {p1 : Pos} (B : Bx X N sc) (hm : X.mg "isinstance" = none) (hm2 : X.mg nm = none) (ha : DE X W a ρ (.ok x)) (hx : tyD x = some T) (hv : bootBuiltins nm = some (.type u)) (hk : kitB T u = some p) (hg : sc.names.lookup ("isinstance" : Str) = some .globalImplicit := by rfl)
    (hg2 : sc.names.lookup nm = some .globalImplicit := by rfl) (hn : nm ≠ "__name__" := by decide) (hd : (nm == ("__debug__" : Str)) = false := by decide)
    (hs : starEach [a, .Name nm p1] X.env = (false, eval a X.env) :: starEach [.Name nm p1] X.env := by rfl) (hs2 : starEach [.Name nm p1] X.env = (false, eval (.Name nm p1) X.env) :: starEach [] X.env := by rfl)
    (hp : (backTo pos (starEach [.Name nm p1] X.env)).any (·.1) = false := by rfl) : DT X W (.Call (.Name "isinstance" p0) [a, .Name nm p1] [] pos) ρ (.ok p) :=
  dt_val (de_isi B hm hm2 ha hx hv hk hg hg2 hn hd hs hs2 hp)

/-! ## x in a list or tuple of flat things -/
def flD : D → Option V := sD
def valsD : List D → Option (List V)
  | [] => some []
  | d :: ds => match sD d, valsD ds with
    | some v, some vs => some (v :: vs)
    | _, _ => none
theorem valsD_rp {K : PySem.W.Frag} {mg : Str → Option Value} : ∀ {ds : List D} {vs ws : List V}, valsD ds = some ws → RpA K mg H vs ds → vs = ws
  | [], _, _, h, .nil => by simp [valsD] at h; exact h.symm
  | d :: ds, _, ws, h, .cons r t => by
    unfold valsD at h
    cases g : sD d with
    | none => rw [g] at h; cases h
    | some v =>
      cases g2 : valsD ds with
      | none => rw [g, g2] at h; cases h
      | some us =>
        rw [g, g2] at h
        cases h
        rw [sD_rp g r, valsD_rp g2 t]
theorem rop_in {K : PySem.W.Frag} {mg : Str → Option Value} {v : V} {us : List V} {neg : Bool} (hx : sD x = some v) (hv : flatV v = true) (hy : seqD y = some ds) (hus : valsD ds = some us) (hf : us.all flatV = true) : ROp K mg (rIn K neg) x y (.bl (if neg then !inV v us else inV v us)) :=
  fun F H vx vy Q e rx ry q => by
    cases sD_rp hx rx
    cases y <;> simp [seqD] at hy
    · subst hy
      cases ry with
      | tup h1 h2 => rw [valsD_rp hus h2] at h1; exact ⟨_, us, rfl, .inr (ex_t e h1), hv, hf, q _ F H (Stp.refl e) (.bl _)⟩
    · subst hy
      cases ry with
      | lst h1 h2 => rw [valsD_rp hus h2] at h1; exact ⟨_, us, rfl, .inl (SqL.of (e _ _ h1)), hv, hf, q _ F H (Stp.refl e) (.bl _)⟩
theorem dt_in {v : V} {us : List V} (ha : DE X W a ρ (.ok x)) (hb : DE X W b ρ (.ok y)) (hx : sD x = some v) (hv : flatV v = true) (hy : seqD y = some ds) (hus : valsD ds = some us) (hf : us.all flatV = true) (hm : behindInMarks .In b = false := by rfl) :
    DT X W (.Compare a [.In] [b] pos) ρ (.ok (inV v us)) := dt_cmp op_in_seq ha hb (rop_in (neg := false) hx hv hy hus hf) hm
theorem dt_notIn {v : V} {us : List V} (ha : DE X W a ρ (.ok x)) (hb : DE X W b ρ (.ok y)) (hx : sD x = some v) (hv : flatV v = true) (hy : seqD y = some ds) (hus : valsD ds = some us) (hf : us.all flatV = true) (hm : behindInMarks .NotIn b = false := by rfl) :
    DT X W (.Compare a [.NotIn] [b] pos) ρ (.ok (!inV v us)) := dt_cmp op_notIn_seq ha hb (rop_in (neg := true) hx hv hy hus hf) hm
theorem de_in {v : V} {us : List V} (ha : DE X W a ρ (.ok x)) (hb : DE X W b ρ (.ok y)) (hx : sD x = some v) (hv : flatV v = true) (hy : seqD y = some ds) (hus : valsD ds = some us) (hf : us.all flatV = true) (hm : behindInMarks .In b = false := by rfl) :
    DE X W (.Compare a [.In] [b] pos) ρ (.ok (.bl (inV v us))) := de_cmp op_in_seq ha hb (rop_in (neg := false) hx hv hy hus hf) hm
end
end DL

namespace DL
open PySem PySem.Spec PyProof.Rows L2 Evl HT
/-! ## t[::-1] of a tuple -/
theorem filterMap_eq {α β : Type} {f g : α → Option β} : ∀ (l : List α), (∀ a ∈ l, f a = g a) → l.filterMap f = l.filterMap g
  | [], _ => rfl
  | a :: l, h => by rw [List.filterMap_cons, List.filterMap_cons, h a List.mem_cons_self, filterMap_eq l fun b hb => h b (List.mem_cons_of_mem _ hb)]
theorem rev_pick (xs : Array Value) : ((List.range xs.size).filterMap fun (k : Nat) => xs[(((xs.size : Int) - 1) + (k : Int) * (-1)).toNat]?).toArray = xs.toList.reverse.toArray := by
  congr 1
  apply List.ext_getElem?
  intro i
  have e : (List.range xs.size).filterMap (fun (k : Nat) => xs[(((xs.size : Int) - 1) + (k : Int) * (-1)).toNat]?) = (List.range xs.size).map (fun k => xs.toList.reverse.getD k Value.none) := by
    rw [← List.filterMap_eq_map]
    apply filterMap_eq
    intro k hk
    have hk' : k < xs.size := List.mem_range.mp hk
    have h1 : (((xs.size : Int) - 1) + (k : Int) * (-1)).toNat = xs.size - 1 - k := by omega
    rw [h1]
    have h2 : xs.size - 1 - k < xs.size := by omega
    rw [Array.getElem?_eq_getElem h2]
    simp only [Function.comp]
    rw [List.getD_eq_getElem?_getD, List.getElem?_reverse (by simpa using hk'), Array.length_toList, List.getElem?_eq_getElem (by simpa using h2)]
    simp
  rw [e, List.getElem?_map]
  by_cases hi : i < xs.size
  · rw [List.getElem?_range hi]
    have : i < xs.toList.reverse.length := by simpa using hi
    rw [List.getElem?_eq_getElem this]
    simp [this, hi]
  · rw [List.getElem?_eq_none (by simpa using hi), List.getElem?_eq_none (by simpa using hi)]; rfl
section
variable {prog : Program} {w : World} {A : Around} {E : Value → Shared → Prop} {s : Shared}
theorem adjust_rev (n : Nat) : Builtin.Slice.sliceAdjust none none (-1) (n : Int) = ((n : Int) - 1, -1) := by
  unfold Builtin.Slice.sliceAdjust
  simp
theorem places_rev (n : Nat) : Builtin.Slice.slicePlaces ((n : Int) - 1) (-1) (-1) = n := by
  unfold Builtin.Slice.slicePlaces
  have h1 : ¬ ((-1 : Int) > 0) := by omega
  simp only [h1, if_false]
  by_cases h : ((n : Int) - 1) > -1
  · rw [if_pos h]; simp
  · rw [if_neg h]; omega
theorem getItem_tuple_rev {t sl : Addr} {items : Array Value} {vl vu vs : Value} {Q : Value → Shared → Prop} (ht : IsTup s.heap t items) (hs : s.heap.IsSliceOf sl vl vu vs) (pl : IsPart vl none) (pu : IsPart vu none) (ps : IsPart vs (some (-1)))
    (h : Q (.ref s.heap.objs.size) { s with heap := s.heap.push { cls := .type "tuple", data := .seq items.toList.reverse.toArray } }) (hsz : items.size ≤ sizeLine) : wpAny (model prog w) A (getItem (.ref t) (.ref sl)) Q E s := by
  have room : sizeOk (.seq items.toList.reverse.toArray) := by
    show items.toList.reverse.toArray.size ≤ sizeLine
    simpa using hsz
  obtain ⟨os, hos, hcs, hds⟩ := id hs
  have isSl : s.TypeIs (.ref sl) "slice" := ⟨os, hos, hcs⟩
  unfold getItem
  try with_reducible refine wpAny_holding ?_
  first | refine wpAny_bind (wpAny_pure ?_) | skip
  refine wpAny_bind (wpAny_sequenceKey ht.typeIs (by decide) ?_)
  refine wpAny_bind (wpAny_callSpecial?_slot (name := Str.ofString "__getitem__") ht.typeIs PyProof.Rows.slot_tuple_getitem (wpAny_call_entry PyProof.Rows.slot_tuple_getitem ht.typeIs entry_tuple_getitem ?_ (args_tuple_getitem _ _)))
  show wpAny _ _ (Builtin.Tuple.tupleItemsOf (.ref t) >>= _) _ _ s
  refine wpAny_bind (tupleItemsOf_ ht ?_)
  refine wpAny_bind (wpAny_typeOf isSl ?_)
  rw [if_pos (by decide)]
  refine wpAny_bind ?_
  unfold Builtin.Slice.sliceApplied Builtin.Slice.sliceFields
  refine wpAny_bind (wpAny_bind (wpAny_field hos hds (x := vl) rfl (wpAny_bind (wpAny_field hos hds (x := vu) rfl (wpAny_bind (wpAny_field hos hds (x := vs) rfl (wpAny_pure ?_)))))))
  refine wpAny_bind (slicePart_ ps ?_)
  show wpAny _ _ (if ((-1 : Int) == 0) = true then _ else _) _ _ s
  rw [if_neg (by decide)]
  refine wpAny_bind (slicePart_ pl (wpAny_bind (slicePart_ pu (wpAny_bind (wpAny_pure ?_)))))
  show wpAny _ _ (match Builtin.Slice.sliceAdjust none none (-1) (items.size : Int) with | (lo, hi) => pure (lo, (-1 : Int), Builtin.Slice.slicePlaces lo hi (-1))) _ _ s
  rw [adjust_rev]
  show wpAny _ _ (pure (((items.size : Int) - 1), (-1 : Int), Builtin.Slice.slicePlaces ((items.size : Int) - 1) (-1) (-1))) _ _ s
  rw [places_rev]
  refine wpAny_pure ?_
  have no1 : ¬ ((((items.size : Int) - 1) == 0 && (-1 : Int) == 1 && items.size == items.size) = true) := by
    simp
  show wpAny _ _ (if (((items.size : Int) - 1) == 0 && (-1 : Int) == 1 && items.size == items.size) = true then _ else _) _ _ s
  rw [if_neg no1, rev_pick]
  first
    | exact wpAny_bind (m := Builtin.Tuple.tupleExact _) (wpAny_newObj_type (wpAny_pure ⟨_, rfl, wpAny_pure h⟩) room)
    | exact wpAny_bind (m := Builtin.Tuple.tupleExact _) (wpAny_newObj_type (wpAny_bind (wpAny_pure (wpAny_pure ⟨_, rfl, wpAny_pure h⟩))) room)
    | exact wpAny_bind (wpAny_bind (m := Builtin.Tuple.tupleExact _) (wpAny_newObj_type (wpAny_pure (wpAny_pure ⟨_, rfl, wpAny_pure h⟩)) room))
    | exact wpAny_bind (wpAny_bind (m := Builtin.Tuple.tupleExact _) (wpAny_newObj_type (wpAny_pure ⟨_, rfl, wpAny_pure h⟩) room))
end
def tRevT (K : PySem.W.Frag) (te : TE) : TE := fun σ H Q => te σ H fun x H1 => ∃ a xs, x = .ref a ∧ SqT K H1 a xs ∧ ∀ p, H1 p = none → Q (.ref p) (upd H1 p (.tup xs.reverse))
theorem pe_revT {X : Cx} {e : Expr} {te : TE} {k : Nat} {p1 p2 p3 pos : Pos} (he : PE X e te) : PE X (.Subscript e (.Slice none none (some (.UnaryOp .USub (.Constant (.int 1) k p1) p2)) p3) pos) (tRevT X.K te) := by
  constructor
  intro pins s σ H Q I h
  refine Subscript_ (thn (he.run pins s σ H _ I h) fun v s1 hh => ?_)
  obtain ⟨x, H1, I1, r1, a, xs, ex, hx, q⟩ := hh
  subst ex
  cases r1
  have stepP : PO X (some (.UnaryOp .USub (.Constant (.int 1) k p1) p2)) (tPart (tUn (rU fun i => .int (-i)) (tC (.int 1)))) := po_some (pe_un un_neg pe_int)
  refine wpAny_Slice (thn (po_none.run pins s1 σ H1 (fun o H2 => o = none ∧ H2 = H1) I1 ⟨rfl, rfl⟩) fun vl s2 h2 => ?_)
  obtain ⟨l, H2, I2, pl, el, e2⟩ := h2
  subst el e2
  refine thn (po_none.run pins s2 σ H2 (fun o H3 => o = none ∧ H3 = H2) I2 ⟨rfl, rfl⟩) fun vu s3 h3 => ?_
  obtain ⟨u, H3, I3, pu, eu, e3⟩ := h3
  subst eu e3
  refine thn (stepP.run pins s3 σ H3 (fun o H4 => o = some (-1) ∧ H4 = H3) I3 ⟨1, rfl, -1, rfl, rfl, rfl⟩) fun vs s4 h4 => ?_
  obtain ⟨o, H4, I4, ps, eo, e4⟩ := h4
  subst eo e4
  have I5 : Inv X pins σ H4 { s4 with heap := s4.heap.push { cls := .type "slice", data := .fields #[vl, vu, vs] } } := I4.kept (t' := s4.toks) fun b ob q => Heap.get?_push_of_some _ q
  obtain ⟨its, r, ht, hz⟩ := I5.tuple hx
  have hlen := r.length
  show wpAny (model X.prog X.w) X.A (subscriptTail e (.Slice none none (some (.UnaryOp .USub (.Constant (.int 1) k p1) p2)) p3) (.ref a) (.ref s4.heap.objs.size)) (EP X pins σ Q) X.xe { s4 with heap := s4.heap.push { cls := .type "slice", data := .fields #[vl, vu, vs] } }
  refine tail_any (ops := [.ref a, .ref s4.heap.objs.size]) ht.typeIs PyProof.Rows.slot_tuple_getitem.lookup ?_ (by with_unfolding_all rfl)
  refine getItem_tuple_rev ht (Heap.IsSliceOf.new _ vl vu vs) pl pu ps ?_ (by rw [List.size_toArray]; omega)
  refine ⟨.ref _, _, I5.laid (t' := s4.toks) (o := .tup xs.reverse) (fun b ob q => Heap.get?_push_of_some _ q) (Nat.le_refl _) ?_, rfl, q _ (I5.hok.fresh (Nat.le_refl _))⟩
  exact ⟨by rw [List.length_reverse]; exact hz, its.reverse, r.reverse, IsTup.new _ _⟩
theorem de_revT {X : Cx} {W : WX} {a : Expr} {ρ : Rho} {ds : List D} {j : Nat} {q1 q2 q3 pos : Pos} (ha : DE X W a ρ (.ok (.tup ds))) : DE X W (.Subscript a (.Slice none none (some (.UnaryOp .USub (.Constant (.int 1) j q1) q2)) q3) pos) ρ (.ok (.tup ds.reverse)) :=
  fun F0 H0 F H σ Q E q => ⟨_, pe_revT pe_w, ha.use E fun v1 F1 H1 s1 r1 => by
    cases r1 with
    | @tup a1 xs1 _ h1 h2 =>
      refine ⟨_, _, rfl, ex_t s1.sub h1, fun p hp => ?_⟩
      have s2 := Stp.new (o := .tup xs1.reverse) s1.sub hp
      exact q _ _ _ (s1.trans s2) (.tup (SqT.of upd_same) (h2.reverse.up s2.ef))⟩
end DL

namespace DL
open PySem PySem.Spec PyProof.Rows L2 Evl
/-- Python's own names are not bound in the module -/
structure Py (mg : Str → Option Value) : Prop where
  abs : mg "abs" = none
  all : mg "all" = none
  any : mg "any" = none
  bool : mg "bool" = none
  dict : mg "dict" = none
  divmod : mg "divmod" = none
  enumerate : mg "enumerate" = none
  int : mg "int" = none
  isinstance : mg "isinstance" = none
  len : mg "len" = none
  list : mg "list" = none
  max : mg "max" = none
  min : mg "min" = none
  range : mg "range" = none
  repr : mg "repr" = none
  sorted : mg "sorted" = none
  str : mg "str" = none
  sum : mg "sum" = none
  tuple : mg "tuple" = none
  type : mg "type" = none
  zip : mg "zip" = none
  ValueError : mg "ValueError" = none
section
variable {X : Cx} {W : WX} {e a b c tg elt : Expr} {es rest tgs ifs : List Expr} {ρ ρ' ρ1 ρ2 ρ3 : Rho} {N : List Str} {sc scope : Scope} {k n : Nat} {pos p0 : Pos} {x y z : D} {d : D} {r : R D} {F F' H H' F0 H0 : Hp} {p q s t : Bool} {ct : Ct} {ds items ys : List D} {o : Out} {st : Stmt} {sts body tb eb b' : List Stmt} {bs : List (List Stmt)} {js vs : List Nat} {fin : Out → Prop}
/-! ## a body, statement by statement, by ways -/
def DK (X : Cx) (W : WX) (fin : Out → Prop) : List (List Stmt) → Rho → Prop
  | [], ρ => fin (.nx ρ)
  | b :: bs, ρ => (∃ ρ1, DSs X W b ρ (.nx ρ1) ∧ DK X W fin bs ρ1) ∨ (∃ o, o.leaves = true ∧ fin o ∧ DSs X W b ρ o)
theorem dk_fin (h : fin (.nx ρ)) : DK X W fin [] ρ := h
theorem dk_nil (h : DK X W fin bs ρ) : DK X W fin ([] :: bs) ρ := .inl ⟨ρ, dss_nil, h⟩
theorem dk_cons (h1 : DS X W st ρ (.nx ρ1)) (h : DK X W fin (sts :: bs) ρ1) : DK X W fin ((st :: sts) :: bs) ρ := by
  rcases h with ⟨ρ2, h2, h3⟩ | ⟨o, h2, h3, h4⟩
  · exact .inl ⟨ρ2, dss_cons h1 h2, h3⟩
  · exact .inr ⟨o, h2, h3, dss_cons h1 h4⟩
theorem dk_leave (h1 : DS X W st ρ o) (h2 : fin o) (hl : o.leaves = true := by rfl) : DK X W fin ((st :: sts) :: bs) ρ := .inr ⟨o, hl, h2, dss_stop h1 hl⟩
theorem dk_if (ht : DT X W c ρ (.ok p)) (ha : p = true → DK X W fin (tb :: sts :: bs) ρ) (hb : p = false → DK X W fin (eb :: sts :: bs) ρ) : DK X W fin ((.If c tb eb pos :: sts) :: bs) ρ := by
  cases p with
  | true =>
    have i : ∀ {o : Out}, DSs X W tb ρ o → DS X W (.If c tb eb pos) ρ o := fun g => ds_if ht (fun _ => g) fun z => nomatch z
    rcases ha rfl with ⟨ρ1, h1, ⟨ρ2, h2, h3⟩ | ⟨o, h2, h3, h4⟩⟩ | ⟨o, h2, h3, h4⟩
    · exact .inl ⟨ρ2, dss_cons (i h1) h2, h3⟩
    · exact .inr ⟨o, h2, h3, dss_cons (i h1) h4⟩
    · exact .inr ⟨o, h2, h3, dss_stop (i h4) h2⟩
  | false =>
    have i : ∀ {o : Out}, DSs X W eb ρ o → DS X W (.If c tb eb pos) ρ o := fun g => ds_if ht (fun z => nomatch z) fun _ => g
    rcases hb rfl with ⟨ρ1, h1, ⟨ρ2, h2, h3⟩ | ⟨o, h2, h3, h4⟩⟩ | ⟨o, h2, h3, h4⟩
    · exact .inl ⟨ρ2, dss_cons (i h1) h2, h3⟩
    · exact .inr ⟨o, h2, h3, dss_cons (i h1) h4⟩
    · exact .inr ⟨o, h2, h3, dss_stop (i h4) h2⟩
theorem dk_weak (hl : Le ρ ρ1) (h : DK X W fin (b' :: bs) ρ1) : DK X W fin (b' :: bs) ρ := by
  rcases h with ⟨ρ2, h2, h3⟩ | ⟨o, h2, h3, h4⟩
  · exact .inl ⟨ρ2, dss_weak hl h2, h3⟩
  · exact .inr ⟨o, h2, h3, dss_weak hl h4⟩
theorem dk_freeze (i : Nat) (hi : ρ[i]? = some (Sl.own ds) := by rfl) (h : DK X W fin (b' :: bs) (ρ.set i (.val (.lst ds)))) : DK X W fin (b' :: bs) ρ := by
  rcases h with ⟨ρ2, h2, h3⟩ | ⟨o, h2, h3, h4⟩
  · exact .inl ⟨ρ2, dss_freeze i hi h2, h3⟩
  · exact .inr ⟨o, h2, h3, dss_freeze i hi h4⟩
theorem dk_done (h : DK X W fin [sts] ρ) : ∃ o, fin o ∧ DSs X W sts ρ o := by
  rcases h with ⟨ρ2, h2, h3⟩ | ⟨o, h2, h3, h4⟩
  · exact ⟨_, h3, h2⟩
  · exact ⟨o, h3, h4⟩
/-- the body of a loop's turn that goes on -/
theorem dk_turn (h : DK X W (fun o => o = .nx ρ1) [sts] ρ) : DSs X W sts ρ (.nx ρ1) := by
  obtain ⟨o, rfl, h⟩ := dk_done h
  exact h
theorem dk_is (h : DK X W (fun o' => o' = o) [sts] ρ) : DSs X W sts ρ o := by
  obtain ⟨o', e1, h1⟩ := dk_done h
  rw [e1] at h1
  exact h1
end
end DL

namespace DL
open PySem PySem.Spec PyProof.Rows L2 Evl
section
variable {X : Cx} {W : WX} {e a b c tg elt : Expr} {es rest tgs ifs : List Expr} {ρ ρ' ρ1 ρ2 ρ3 : Rho} {N : List Str} {sc scope : Scope} {k n : Nat} {pos p0 : Pos} {x y z : D} {d : D} {r : R D} {F F' H H' F0 H0 : Hp} {p q s t : Bool} {ct : Ct} {ds items ys : List D} {o : Out} {st : Stmt} {sts body tb eb b' : List Stmt} {bs : List (List Stmt)} {js vs : List Nat} {fin : Out → Prop}
theorem do_none : DO X W none ρ none := True.intro
theorem do_some {i : Int} (h : DE X W e ρ (.ok (.int i))) : DO X W (some e) ρ (some i) := h
theorem dlc_map {α : Type} {ρw : Rho} {g f : α → D} : ∀ (l : List α), (∀ a ∈ l, ∃ ρ1 js, (∀ q, DG (XB X scope q) tg (g a) ρw ρ1 js) ∧ (∀ i ∈ js, i ∈ vs) ∧ (∀ q, DTs (XB X scope q) WF ifs ρ1 (.ok true)) ∧ ∀ q, DE (XB X scope q) WF elt ρ1 (.ok (f a))) → DLc X scope vs tg ifs elt ρw (l.map g) (l.map f)
  | [], _ => .nil
  | a :: l, h => by
    obtain ⟨ρ1, js, h1, h2, h3, h4⟩ := h a List.mem_cons_self
    exact .take h1 h2 h3 h4 (dlc_map l fun c hc => h c (List.mem_cons_of_mem _ hc))
theorem dlc_filter {α : Type} {ρw : Rho} {g f : α → D} {pr : α → Bool} : ∀ (l : List α), (∀ a ∈ l, ∃ ρ1 js, (∀ q, DG (XB X scope q) tg (g a) ρw ρ1 js) ∧ (∀ i ∈ js, i ∈ vs) ∧ (∀ q, DTs (XB X scope q) WF ifs ρ1 (.ok (pr a))) ∧ (pr a = true → ∀ q, DE (XB X scope q) WF elt ρ1 (.ok (f a)))) → DLc X scope vs tg ifs elt ρw (l.map g) ((l.filter pr).map f)
  | [], _ => .nil
  | a :: l, h => by
    obtain ⟨ρ1, js, h1, h2, h3, h4⟩ := h a List.mem_cons_self
    have ih := dlc_filter (f := f) l fun c hc => h c (List.mem_cons_of_mem _ hc)
    cases hp : pr a with
    | true =>
      rw [List.filter_cons, if_pos hp]
      exact .take h1 h2 (fun q => by rw [← hp]; exact h3 q) (h4 hp) ih
    | false =>
      rw [List.filter_cons, if_neg (by rw [hp]; exact Bool.false_ne_true)]
      exact .skip h1 h2 (fun q => by rw [← hp]; exact h3 q) ih
theorem DLc.of_items {ρw : Rho} {items' : List D} (h : DLc X scope vs tg ifs elt ρw items ys) (e : items = items') : DLc X scope vs tg ifs elt ρw items' ys := e ▸ h
theorem DLc.of_ys {ρw : Rho} {ys' : List D} (h : DLc X scope vs tg ifs elt ρw items ys) (e : ys = ys') : DLc X scope vs tg ifs elt ρw items ys' := e ▸ h
theorem DF.of_eq {ds' : List D} (h : DF X W e ρ ds) (q : ds = ds') : DF X W e ρ ds' := q ▸ h
/-- a turn that goes on -/
def Goes (ρT : Rho) : Out → Prop := fun o => (∃ ρ', o = .nx ρ' ∧ Le ρ' ρT) ∨ (∃ ρ', o = .ct ρ' ∧ Le ρ' ρT)
theorem goes_nx {ρT : Rho} (h : Le ρ ρT) : Goes ρT (.nx ρ) := .inl ⟨ρ, rfl, h⟩
theorem goes_ct {ρT : Rho} (h : Le ρ ρT) : Goes ρT (.ct ρ) := .inr ⟨ρ, rfl, h⟩
theorem DFor.go {ρT : Rho} (h1 : DG X tg d ρ ρ1 js) (h2 : DK X W (Goes ρT) [body] ρ1) (h3 : DFor X W tg body ds ρT o) : DFor X W tg body (d :: ds) ρ o := by
  obtain ⟨o2, h4, h5⟩ := dk_done h2
  rcases h4 with ⟨ρ', rfl, hl⟩ | ⟨ρ', rfl, hl⟩
  · exact .step h1 h5 hl h3
  · exact .cont h1 h5 hl h3
/-- a loop as a fold, with what holds ahead of each turn -/
theorem DFor.foldP {α β : Type} (env : β → Rho) (g : α → D) (f : β → α → β) (P : List α → β → Prop) : ∀ (l pre : List α) (b : β), P pre b →
    (∀ pre' a post b, pre ++ l = pre' ++ a :: post → P pre' b → (∃ ρ1 js, DG X tg (g a) (env b) ρ1 js ∧ DK X W (Goes (env (f b a))) [body] ρ1) ∧ P (pre' ++ [a]) (f b a)) →
    DFor X W tg body (l.map g) (env b) (.nx (env (l.foldl f b))) ∧ P (pre ++ l) (l.foldl f b)
  | [], pre, b, h0, _ => ⟨.nil, by simpa using h0⟩
  | a :: l, pre, b, h0, h => by
    obtain ⟨⟨ρ1, js, h1, h2⟩, h4⟩ := h pre a l b rfl h0
    obtain ⟨g1, g2⟩ := DFor.foldP env g f P l (pre ++ [a]) (f b a) h4 (fun pre' c post b' e => h pre' c post b' (by rw [← e]; simp))
    exact ⟨.go h1 h2 g1, by simpa using g2⟩
/-- a while's turn -/
theorem DWh.go {ρT : Rho} {m : Nat} (ht : DT X W c ρ (.ok true)) (h2 : DK X W (Goes ρT) [body] ρ) (h3 : DWh X W c body m ρT o) : DWh X W c body (m + 1) ρ o := by
  obtain ⟨o2, h4, h5⟩ := dk_done h2
  rcases h4 with ⟨ρ', rfl, hl⟩ | ⟨ρ', rfl, hl⟩
  · exact .step ht h5 hl h3
  · exact .cont ht h5 hl h3
/-- a while that comes to an end: the state b as slots, f its turn, g its end, m what falls -/
theorem DWh.loop {β : Type} (env : β → Rho) (f g : β → β) (m : β → Nat) (P : β → Prop)
    (h : ∀ b, P b → (DT X W c (env b) (.ok false) ∧ g b = b) ∨ (DT X W c (env b) (.ok true) ∧ DK X W (Goes (env (f b))) [body] (env b) ∧ m (f b) < m b ∧ P (f b) ∧ g b = g (f b))) : ∀ b, P b → ∃ n, DWh X W c body n (env b) (.nx (env (g b))) := by
  intro b
  induction hm : m b using Nat.strongRecOn generalizing b with
  | _ k ih =>
    intro hP
    rcases h b hP with ⟨h1, h2⟩ | ⟨h1, h2, h3, h4, h5⟩
    · exact ⟨0, by rw [h2]; exact .stop h1⟩
    · obtain ⟨n, hn⟩ := ih (m (f b)) (by omega) (f b) rfl h4
      exact ⟨n + 1, by rw [h5]; exact .go h1 h2 hn⟩
/-- divisors that are written -/
theorem divW {i j : Int} (h : (decide (0 < j) && decide (j < 1073741824)) = true) : CDivW i j := by
  rw [Bool.and_eq_true] at h
  have h1 := of_decide_eq_true h.1
  have h2 := of_decide_eq_true h.2
  exact wide_div (b := 30) h1 (by omega) (by decide) (by decide)
/-- the ints' sizes: |i| < 2 ^ n -/
def Sm (n : Nat) (i : Int) : Prop := i.natAbs < 2 ^ n
theorem Sm.mul {i j : Int} {n m : Nat} (hi : Sm n i) (hj : Sm m j) (h0 : 0 < n := by decide) (h1 : 0 < m := by decide) (h : n + m ≤ 1000000 := by decide) : IntMulOk i j := (wide_mul hi hj h0 h1 h).ok
end
end DL

namespace DL
open PySem PySem.Spec PyProof.Rows L2 Evl
section
variable {X : Cx} {W : WX} {e e2 a b c tg elt : Expr} {es rest tgs ifs : List Expr} {ρ ρ' ρ1 ρ2 ρ3 : Rho} {N : List Str} {sc scope : Scope} {k n : Nat} {pos p0 : Pos} {x y z : D} {d : D} {r : R D} {F F' H H' F0 H0 : Hp} {p q s t : Bool} {ct : Ct} {ds items ys : List D} {o : Out} {st : Stmt} {sts body tb eb b' : List Stmt} {bs : List (List Stmt)} {js vs : List Nat} {fin : Out → Prop}
/-! ## places -/
theorem atI_m1 {xs : List Int} (h : xs ≠ []) : atI (xs.map D.int) (-1) = some (D.int (xs.getLastD 0)) := by
  have e : xs = xs.dropLast ++ [xs.getLastD 0] := by
    have q : xs.getLastD 0 = xs.getLast h := by
      cases xs with
      | nil => exact absurd rfl h
      | cons a l => rfl
    rw [q]
    exact (List.dropLast_concat_getLast h).symm
  conv => lhs; rw [e]
  rw [List.map_append]
  exact atI_last _ _
theorem atI_map {α : Type} {g : α → D} {xs : List α} {i : Int} {a : α} (h0 : 0 ≤ i) (h : xs[i.toNat]? = some a) : atI (xs.map g) i = some (g a) := by
  have := atI_nat (xs := xs.map g) (j := i.toNat) (v := g a) (by rw [List.getElem?_map, h]; rfl)
  rwa [Int.toNat_of_nonneg h0] at this
theorem atI_ints {xs : List Int} {i : Int} (h0 : 0 ≤ i) (h : i < (xs.length : Int)) : atI (xs.map D.int) i = some (D.int (xs.getD i.toNat 0)) := by
  refine atI_map h0 ?_
  have hl : i.toNat < xs.length := by omega
  rw [List.getElem?_eq_getElem hl, List.getD_eq_getElem?_getD, List.getElem?_eq_getElem hl]; rfl
/-- the same kind, other items -/
def reseq : D → List D → D
  | .tup _, ds => .tup ds
  | _, ds => .lst ds
theorem de_slQ {lo hi : Option Expr} {l u : Option Int} {p2 : Pos} (ha : DE X W a ρ (.ok x)) (hx : seqD x = some ds) (hl : DO X W lo ρ l) (hu : DO X W hi ρ u) : DE X W (.Subscript a (.Slice lo hi none p2) pos) ρ (.ok (reseq x (DL.cutD ds l u))) := by
  cases x <;> simp [seqD] at hx
  · subst hx; exact de_slT ha hl hu
  · subst hx; exact (df_slL ha hl hu).de
theorem zipOk {es : List D} (hx : seqD x = some ds) : (x = .lst ds ∧ reseq x es = .lst es) ∨ (x = .tup ds ∧ reseq x es = .tup es) := by
  cases x <;> simp [seqD] at hx
  · subst hx; exact .inr ⟨rfl, rfl⟩
  · subst hx; exact .inl ⟨rfl, rfl⟩
theorem cut_from {α : Type} {g : α → D} (xs : List α) (m : Nat) : DL.cutD (xs.map g) (some (m : Int)) none = (xs.drop m).map g := by
  unfold DL.cutD
  rw [List.length_map, HT.sIx_nat, HT.sIx_none, ← List.map_drop, ← List.map_take]
  congr 1
  by_cases h : m ≤ xs.length
  · rw [Nat.min_eq_left h, List.take_of_length_le (by rw [List.length_drop]; omega)]
  · rw [Nat.min_eq_right (by omega), List.drop_eq_nil_of_le (Nat.le_refl _), List.drop_eq_nil_of_le (by omega)]; simp
theorem cut_to {α : Type} {g : α → D} (xs : List α) (m : Int) (h0 : 0 ≤ m) : DL.cutD (xs.map g) none (some m) = (xs.take m.toNat).map g := by
  unfold DL.cutD
  rw [HT.sIx_none, List.drop_zero, List.length_map]
  have : HT.sIx xs.length xs.length (some m) = min m.toNat xs.length := by
    have := HT.sIx_nat xs.length xs.length m.toNat
    rw [Int.toNat_of_nonneg h0] at this
    exact this
  rw [this, Nat.sub_zero, ← List.map_take]
  congr 1
  by_cases h : xs.length ≤ m.toNat
  · rw [Nat.min_eq_right h, List.take_of_length_le h, List.take_of_length_le (Nat.le_refl _)]
  · rw [Nat.min_eq_left (by omega)]
theorem zipD_map {α β : Type} {f : α → D} {g : β → D} : ∀ (xs : List α) (ys : List β), zipD (xs.map f) (ys.map g) = (xs.zip ys).map fun p => .tup [f p.1, g p.2]
  | [], _ => by simp [zipD]
  | _ :: _, [] => by simp [zipD]
  | x :: xs, y :: ys => by simp [zipD, zipD_map xs ys]
/-! ## shapes of data -/
theorem plain_map {α : Type} {g : α → D} (h : ∀ a, (g a).plain = true) : ∀ l : List α, plainAll (l.map g) = true
  | [] => rfl
  | a :: l => by simp [plainAll, h a, plain_map h l]
theorem dep_map {α : Type} {g : α → D} {m : Nat} (h : ∀ a, (g a).dep ≤ m) : ∀ l : List α, depAll (l.map g) ≤ m
  | [] => Nat.zero_le _
  | a :: l => by simp only [List.map_cons, depAll]; exact Nat.max_le.mpr ⟨h a, dep_map h l⟩
theorem Sh.int {i : Int} : Sh (.int i) := ⟨rfl, Nat.zero_le _⟩
theorem Sh.bl {i : Bool} : Sh (.bl i) := ⟨rfl, Nat.zero_le _⟩
theorem Sh.non : Sh .non := ⟨rfl, Nat.zero_le _⟩
theorem Sh.tup_map {α : Type} {g : α → D} {l : List α} (h : ∀ a, (g a).plain = true) (h2 : ∀ a, (g a).dep ≤ 63) : Sh (.tup (l.map g)) :=
  ⟨by simp [D.plain, plain_map h], by simp [D.dep]; exact dep_map h2 l⟩
theorem Sh.lst_map {α : Type} {g : α → D} {l : List α} (h : ∀ a, (g a).plain = true) (h2 : ∀ a, (g a).dep ≤ 63) : Sh (.lst (l.map g)) :=
  ⟨by simp [D.plain, plain_map h], by simp [D.dep]; exact dep_map h2 l⟩
theorem Sh.tupI {l : List Int} : Sh (.tup (l.map D.int)) := Sh.tup_map (fun _ => rfl) fun _ => Nat.zero_le _
theorem Sh.lstI {l : List Int} : Sh (.lst (l.map D.int)) := Sh.lst_map (fun _ => rfl) fun _ => Nat.zero_le _
theorem eqD_refl (x : D) (h : Sh x) : eqD x x = true := SeqAt.eqv_refl x.py (lay_py x h.1)
/-! ## what is shown -/
theorem shown_ints : ∀ (l : List Int), (∀ z ∈ l, z.natAbs.log2 < 1920) → PyData.showableAll (pyAll (l.map D.int)) = true
  | [], _ => rfl
  | z :: l, h => by
    simp only [List.map_cons, pyAll, PyData.showableAll, D.py, PyData.showable, Bool.and_eq_true, decide_eq_true_eq]
    exact ⟨h z List.mem_cons_self, shown_ints l fun y hy => h y (List.mem_cons_of_mem _ hy)⟩
end
end DL

namespace DL
open PySem PySem.Spec PyProof.Rows L2 Evl
section
variable {X : Cx} {W : WX} {e e2 a b c tg elt : Expr} {es rest tgs ifs : List Expr} {ρ ρ' ρ1 ρ2 ρ3 ρT : Rho} {N : List Str} {sc scope : Scope} {k n : Nat} {pos p0 : Pos} {x y z : D} {d : D} {r : R D} {F F' H H' F0 H0 : Hp} {p q s t : Bool} {ct : Ct} {ds items ys : List D} {o : Out} {st : Stmt} {sts body tb eb b' : List Stmt} {bs : List (List Stmt)} {js vs : List Nat} {fin : Out → Prop}
/-! ## an if whose ways meet again -/
def Meets (ρT : Rho) : Out → Prop := fun o => ∃ ρ', o = .nx ρ' ∧ Le ρ' ρT
theorem meets (h : Le ρ ρT) : Meets ρT (.nx ρ) := ⟨ρ, rfl, h⟩
theorem dk_meet (ht : DT X W c ρ (.ok p)) (ha : p = true → DK X W (Meets ρT) [tb] ρ) (hb : p = false → DK X W (Meets ρT) [eb] ρ) (h : DK X W fin (sts :: bs) ρT) : DK X W fin ((.If c tb eb pos :: sts) :: bs) ρ := by
  refine dk_cons (ρ1 := ρT) (ds_if ht (fun q => ?_) fun q => ?_) h
  · obtain ⟨_, ⟨ρ', rfl, hl⟩, h2⟩ := dk_done (ha q)
    exact dss_weakO h2 hl
  · obtain ⟨_, ⟨ρ', rfl, hl⟩, h2⟩ := dk_done (hb q)
    exact dss_weakO h2 hl
/-! ## what may be shown -/
mutual
def D.fine (m : Nat) : D → Bool
  | .tup ds => fineAll m ds
  | .lst ds => fineAll m ds
  | .scr _ => false
  | .obj _ _ => false
  | .exo _ _ _ => false
  | .str x => PyData.strOk x && x.cps.toList.all fun c => decide (c < 16 ^ 8)
  | .int i => decide (i.natAbs < 10 ^ m)
  | _ => true
def fineAll (m : Nat) : List D → Bool
  | [] => true
  | d :: ds => d.fine m && fineAll m ds
end
mutual
def D.bulk : D → Nat
  | .tup ds => bulkD ds
  | .lst ds => bulkD ds
  | .str x => x.cps.size
  | _ => 0
def bulkD : List D → Nat
  | [] => 0
  | d :: ds => d.bulk + 1 + bulkD ds
end
variable {m : Nat}
theorem ten570 : (10 : Nat) ^ 570 ≤ 2 ^ 1920 := by decide +kernel
theorem log2_small {n : Nat} (hm : m ≤ 570) (h : n < 10 ^ m) : n.log2 < 1920 := by
  by_cases h0 : n = 0
  · subst h0; decide
  · exact (Nat.log2_lt h0).mpr (Nat.lt_of_lt_of_le h (Nat.le_trans (Nat.pow_le_pow_right (by decide) hm) ten570))
mutual
theorem fine_plain : ∀ d : D, d.fine m = true → d.plain = true
  | .non, _ => rfl
  | .bl _, _ => rfl
  | .int _, _ => rfl
  | .str _, h => by simp only [D.fine, Bool.and_eq_true] at h; simpa [D.plain] using h.1
  | .tup ds, h => by simp only [D.fine] at h; simp only [D.plain]; exact fine_plainAll ds h
  | .lst ds, h => by simp only [D.fine] at h; simp only [D.plain]; exact fine_plainAll ds h
  | .scr _, h => by simp [D.fine] at h
  | .obj _ _, h => by simp [D.fine] at h
  | .exo _ _ _, h => by simp [D.fine] at h
theorem fine_plainAll : ∀ ds : List D, fineAll m ds = true → plainAll ds = true
  | [], _ => rfl
  | d :: ds, h => by
    simp only [fineAll, Bool.and_eq_true] at h
    simp only [plainAll, Bool.and_eq_true]
    exact ⟨fine_plain d h.1, fine_plainAll ds h.2⟩
end
mutual
theorem fine_show (hm : m ≤ 570) : ∀ d : D, d.fine m = true → d.py.showable = true
  | .non, _ => rfl
  | .bl _, _ => rfl
  | .int _, h => by simp only [D.fine, decide_eq_true_eq] at h; simp only [D.py, PyData.showable, decide_eq_true_eq]; exact log2_small hm h
  | .str _, _ => rfl
  | .tup ds, h => by simp only [D.fine] at h; simp only [D.py, PyData.showable]; exact fine_showAll hm ds h
  | .lst ds, h => by simp only [D.fine] at h; simp only [D.py, PyData.showable]; exact fine_showAll hm ds h
  | .scr _, h => by simp [D.fine] at h
  | .obj _ _, h => by simp [D.fine] at h
  | .exo _ _ _, h => by simp [D.fine] at h
theorem fine_showAll (hm : m ≤ 570) : ∀ ds : List D, fineAll m ds = true → PyData.showableAll (pyAll ds) = true
  | [], _ => rfl
  | d :: ds, h => by
    simp only [fineAll, Bool.and_eq_true] at h
    simp only [pyAll, PyData.showableAll, Bool.and_eq_true]
    exact ⟨fine_show hm d h.1, fine_showAll hm ds h.2⟩
end
mutual
theorem fine_leaves (hm : 0 < m) : ∀ d : D, d.fine m = true → d.py.leavesShort (m + 1) = true
  | .non, _ => rfl
  | .bl _, _ => rfl
  | .int i, h => by
    simp only [D.fine, decide_eq_true_eq] at h
    simp only [D.py, PyData.leavesShort, decide_eq_true_eq]
    have := int_text_length_le10 (k := m) hm h
    show (PySem.Str.ofString (toString i)).length ≤ m + 1
    rw [PySem.ofString_length]; exact this
  | .str _, h => by simp only [D.fine, Bool.and_eq_true] at h; simpa [D.py, PyData.leavesShort] using h.2
  | .tup ds, h => by simp only [D.fine] at h; simp only [D.py, PyData.leavesShort]; exact fine_leavesAll hm ds h
  | .lst ds, h => by simp only [D.fine] at h; simp only [D.py, PyData.leavesShort]; exact fine_leavesAll hm ds h
  | .scr _, h => by simp [D.fine] at h
  | .obj _ _, h => by simp [D.fine] at h
  | .exo _ _ _, h => by simp [D.fine] at h
theorem fine_leavesAll (hm : 0 < m) : ∀ ds : List D, fineAll m ds = true → PyData.leavesShortAll (m + 1) (pyAll ds) = true
  | [], _ => rfl
  | d :: ds, h => by
    simp only [fineAll, Bool.and_eq_true] at h
    simp only [pyAll, PyData.leavesShortAll, Bool.and_eq_true]
    exact ⟨fine_leaves hm d h.1, fine_leavesAll hm ds h.2⟩
end
mutual
theorem bulk_py : ∀ d : D, d.py.bulk = d.bulk
  | .non => by simp [D.py, PyData.bulk, D.bulk]
  | .bl _ => by simp [D.py, PyData.bulk, D.bulk]
  | .int _ => by simp [D.py, PyData.bulk, D.bulk]
  | .str _ => by simp [D.py, PyData.bulk, D.bulk]
  | .tup ds => by simp [D.py, PyData.bulk, D.bulk, bulk_pyAll ds]
  | .lst ds => by simp [D.py, PyData.bulk, D.bulk, bulk_pyAll ds]
  | .scr _ => by simp [D.py, PyData.bulk, D.bulk]
  | .obj _ _ => by simp [D.py, PyData.bulk, D.bulk]
  | .exo _ _ _ => by simp [D.py, PyData.bulk, D.bulk]
theorem bulk_pyAll : ∀ ds : List D, PyData.bulkAll (pyAll ds) = bulkD ds
  | [] => by simp [pyAll, PyData.bulkAll, bulkD]
  | d :: ds => by simp [pyAll, PyData.bulkAll, bulkD, bulk_py d, bulk_pyAll ds]
end
/-- fit to be shown: ints of m digits at most, so many pieces -/
structure ShwM (m : Nat) (x : D) : Prop where
  fine : x.fine m = true
  dep : x.dep ≤ 64
  blk : (m + 3) * x.bulk + (m + 1) ≤ sizeLine
  mr : 7 ≤ m ∧ m ≤ 570
def Shw (x : D) : Prop := ∃ m, ShwM m x
theorem Shw.sh (h : Shw x) : Sh x := let ⟨_, h⟩ := h; ⟨fine_plain x h.fine, h.dep⟩
theorem Shw.len (h : Shw x) : x.rep.length ≤ sizeLine := by
  obtain ⟨m, h⟩ := h
  have g := PyData.shown_le_bulk (m + 1) (by have := h.mr; omega) x.py (fine_leaves (by have := h.mr; omega) x h.fine)
  rw [bulk_py] at g
  exact Nat.le_trans g h.blk
theorem de_rep (B : Bg X N sc k W) (hm : X.mg "repr" = none) (ha : DE X W a ρ (.ok x)) (hx : Shw x) (h0 : isRef x = true := by rfl) (hg : sc.names.lookup ("repr" : Str) = some .globalImplicit := by rfl)
    (hs : starEach [a] X.env = (false, eval a X.env) :: starEach [] X.env := by rfl) : DE X W (.Call (.Name "repr" p0) [a] [] pos) ρ (.ok (.str x.rep)) :=
  de_repr B hm ha hx.sh h0 (let ⟨_, h⟩ := hx; fine_show h.mr.2 x h.fine) hx.len hg hs
theorem fine_map {α : Type} {g : α → D} : ∀ {l : List α}, (∀ a ∈ l, (g a).fine m = true) → fineAll m (l.map g) = true
  | [], _ => rfl
  | a :: l, h => by simp only [List.map_cons, fineAll, Bool.and_eq_true]; exact ⟨h a List.mem_cons_self, fine_map fun b hb => h b (List.mem_cons_of_mem _ hb)⟩
theorem bulk_map {α : Type} {g : α → D} {m : Nat} : ∀ {l : List α}, (∀ a ∈ l, (g a).bulk ≤ m) → bulkD (l.map g) ≤ l.length * (m + 1)
  | [], _ => by simp [bulkD]
  | a :: l, h => by
    have h1 := h a List.mem_cons_self
    have h2 := bulk_map (l := l) fun b hb => h b (List.mem_cons_of_mem _ hb)
    simp only [List.map_cons, bulkD, List.length_cons, Nat.add_mul, Nat.one_mul]
    omega
theorem dep_mapM {α : Type} {g : α → D} {m : Nat} : ∀ {l : List α}, (∀ a ∈ l, (g a).dep ≤ m) → depAll (l.map g) ≤ m
  | [], _ => Nat.zero_le _
  | a :: l, h => by simp only [List.map_cons, depAll]; exact Nat.max_le.mpr ⟨h a List.mem_cons_self, dep_mapM fun b hb => h b (List.mem_cons_of_mem _ hb)⟩
theorem Shw.tup {α : Type} {g : α → D} {l : List α} (m c : Nat) (h1 : ∀ a ∈ l, (g a).fine m = true) (h2 : ∀ a ∈ l, (g a).dep ≤ 63) (h3 : ∀ a ∈ l, (g a).bulk ≤ c) (h4 : (m + 3) * (l.length * (c + 1)) + (m + 1) ≤ 16777216) (hm : 7 ≤ m ∧ m ≤ 570) : Shw (.tup (l.map g)) :=
  ⟨m, by simp only [D.fine]; exact fine_map h1, by simp only [D.dep]; exact Nat.succ_le_succ (dep_mapM h2), by simp only [D.bulk]; exact Nat.le_trans (Nat.add_le_add_right (Nat.mul_le_mul_left _ (bulk_map h3)) _) (by rw [sizeLine_eq]; exact h4), hm⟩
theorem Shw.lst {α : Type} {g : α → D} {l : List α} (m c : Nat) (h1 : ∀ a ∈ l, (g a).fine m = true) (h2 : ∀ a ∈ l, (g a).dep ≤ 63) (h3 : ∀ a ∈ l, (g a).bulk ≤ c) (h4 : (m + 3) * (l.length * (c + 1)) + (m + 1) ≤ 16777216) (hm : 7 ≤ m ∧ m ≤ 570) : Shw (.lst (l.map g)) :=
  ⟨m, by simp only [D.fine]; exact fine_map h1, by simp only [D.dep]; exact Nat.succ_le_succ (dep_mapM h2), by simp only [D.bulk]; exact Nat.le_trans (Nat.add_le_add_right (Nat.mul_le_mul_left _ (bulk_map h3)) _) (by rw [sizeLine_eq]; exact h4), hm⟩
theorem fine_int {m : Nat} {z : Int} (h : z.natAbs < 10 ^ m) : (D.int z).fine m = true := by simp only [D.fine, decide_eq_true_eq]; exact h
theorem Shw.tupI {l : List Int} (h : ∀ z ∈ l, z.natAbs < 10 ^ 12) (h4 : l.length ≤ 1000000) : Shw (.tup (l.map D.int)) :=
  .tup 12 0 (fun a ha => fine_int (h a ha)) (fun _ _ => Nat.zero_le _) (fun _ _ => Nat.le_refl _) (by omega) (by decide)
theorem Shw.lstI {l : List Int} (h : ∀ z ∈ l, z.natAbs < 10 ^ 12) (h4 : l.length ≤ 1000000) : Shw (.lst (l.map D.int)) :=
  .lst 12 0 (fun a ha => fine_int (h a ha)) (fun _ _ => Nat.zero_le _) (fun _ _ => Nat.le_refl _) (by omega) (by decide)
/-- ints of up to 1800 bits -/
theorem two_ten {n z : Nat} (h : z < 2 ^ n) (hn : n ≤ 1800) : z < 10 ^ 570 := Nat.lt_of_lt_of_le h (Nat.le_trans (Nat.pow_le_pow_right (by decide) hn) (by decide +kernel))
theorem Shw.tupW {l : List Int} (h : ∀ z ∈ l, z.natAbs < 2 ^ 1800) (h4 : l.length ≤ 20000) : Shw (.tup (l.map D.int)) :=
  .tup 570 0 (fun a ha => fine_int (two_ten (h a ha) (by decide))) (fun _ _ => Nat.zero_le _) (fun _ _ => Nat.le_refl _) (by omega) (by decide)
theorem Shw.lstW {l : List Int} (h : ∀ z ∈ l, z.natAbs < 2 ^ 1800) (h4 : l.length ≤ 20000) : Shw (.lst (l.map D.int)) :=
  .lst 570 0 (fun a ha => fine_int (two_ten (h a ha) (by decide))) (fun _ _ => Nat.zero_le _) (fun _ _ => Nat.le_refl _) (by omega) (by decide)
end
end DL

namespace DL
open PySem PySem.Spec PyProof.Rows L2 Evl
section
variable {X : Cx} {W : WX} {e e2 a b c tg elt : Expr} {es rest tgs ifs : List Expr} {ρ ρ' ρ1 ρ2 ρ3 ρT : Rho} {N : List Str} {sc scope : Scope} {k n : Nat} {pos p0 : Pos} {x y z : D} {d : D} {r : R D} {F F' H H' F0 H0 : Hp} {p q s t : Bool} {ct : Ct} {ds items ys : List D} {o : Out} {st : Stmt} {sts body tb eb b' : List Stmt} {bs : List (List Stmt)} {js vs : List Nat} {fin : Out → Prop}
/-! ## loops that may be left -/
/-- the same outcome, or slots that know less -/
def Upto (o' o : Out) : Prop := o' = o ∨ ∃ ρ' ρT, o' = .nx ρ' ∧ o = .nx ρT ∧ Le ρ' ρT
theorem ds_forU (B : Bd X N sc k W) (hi : DI X W tg e ρ items) (h : ∃ o', DFor X W tg body items ρ o' ∧ Upto o' o) (hs : ∀ x, foldedSetIterable e X.env x = pure x := by intro _; rfl) : DS X W (.For tg e body [] pos) ρ o := by
  obtain ⟨o', h1, rfl | ⟨ρ', ρT, rfl, rfl, hl⟩⟩ := h
  · exact ds_for B hi h1 hs
  · exact ds_weakO (ds_for B hi h1 hs) hl
/-- how a turn may end: on to b' , left, or away -/
def TurnO {β : Type} (env : β → Rho) (P : β → Prop) (f : β → Out) (tgt : Out) : Out → Prop
  | .nx ρ' => ∃ b', Le ρ' (env b') ∧ P b' ∧ f b' = tgt
  | .ct ρ' => ∃ b', Le ρ' (env b') ∧ P b' ∧ f b' = tgt
  | .bk ρ' => ∃ ρT, tgt = .nx ρT ∧ Le ρ' ρT
  | o => o = tgt
theorem DFor.walk {α β : Type} (env : β → Rho) (g : α → D) (f : List α → β → Out) (P : List α → β → Prop) (h0 : ∀ b, P [] b → f [] b = .nx (env b))
    (h : ∀ a l b, P (a :: l) b → ∃ ρ1 js, DG X tg (g a) (env b) ρ1 js ∧ DK X W (TurnO env (P l) (f l) (f (a :: l) b)) [body] ρ1) : ∀ (l : List α) (b : β), P l b → ∃ o', DFor X W tg body (l.map g) (env b) o' ∧ Upto o' (f l b)
  | [], b, hp => ⟨_, .nil, .inl (h0 b hp).symm⟩
  | a :: l, b, hp => by
    obtain ⟨ρ1, js, h1, h2⟩ := h a l b hp
    obtain ⟨o, h3, h4⟩ := dk_done h2
    cases o with
    | nx ρ' =>
      obtain ⟨b', hl, hP, he⟩ := h3
      obtain ⟨o', g1, g2⟩ := DFor.walk env g f P h0 h l b' hP
      exact ⟨o', .step h1 h4 hl g1, he ▸ g2⟩
    | ct ρ' =>
      obtain ⟨b', hl, hP, he⟩ := h3
      obtain ⟨o', g1, g2⟩ := DFor.walk env g f P h0 h l b' hP
      exact ⟨o', .cont h1 h4 hl g1, he ▸ g2⟩
    | bk ρ' =>
      obtain ⟨ρT, e1, hl⟩ := h3
      exact ⟨_, .brk h1 h4, .inr ⟨ρ', ρT, rfl, e1, hl⟩⟩
    | rt d => exact ⟨_, .ret h1 h4, .inl h3⟩
    | ex c' fs ρ' => exact ⟨_, .exc h1 h4, .inl h3⟩
theorem DFor.of_items {items' : List D} (h : ∃ o', DFor X W tg body items ρ o' ∧ Upto o' o) (e : items = items') : ∃ o', DFor X W tg body items' ρ o' ∧ Upto o' o := e ▸ h
theorem DFor.weakU (hl : Le ρ ρ1) (h : ∃ o', DFor X W tg body items ρ1 o' ∧ Upto o' o) : ∃ o', DFor X W tg body items ρ o' ∧ Upto o' o := by
  obtain ⟨o', h1, h2⟩ := h
  exact ⟨o', .weak hl h1, h2⟩
theorem cut_fromI {α : Type} {g : α → D} (xs : List α) (m : Int) (h0 : 0 ≤ m) : DL.cutD (xs.map g) (some m) none = (xs.drop m.toNat).map g := by
  have := cut_from (g := g) xs m.toNat
  rwa [Int.toNat_of_nonneg h0] at this
end
end DL

namespace DL
open PySem PySem.Spec PyProof.Rows L2 Evl
/-! ## the end -/
/-- tracked at the start: the script, where the module does not hold it -/
def scrH (K : PySem.W.Frag) (a : Addr) (ob : Obj) (xs : List V) : Hp := fun b => if b = a ∧ K.lookup a = none then some (.frz ob (.lst xs)) else none
section
variable {K : PySem.W.Frag} {a b : Addr} {ob : Obj} {xs : List V} {u : HO} {P : Program} {w : World} {h : Heap}
theorem scrH_some (e : scrH K a ob xs b = some u) : b = a ∧ K.lookup a = none ∧ u = .frz ob (.lst xs) := by
  unfold scrH at e
  split at e
  · rename_i q
    cases e
    exact ⟨q.1, q.2, rfl⟩
  · cases e
theorem scrH_none (e : b ≠ a) : scrH K a ob xs b = none := if_neg fun q => e q.1
theorem scrH_held {o : Obj} (e : K.lookup b = some o) : scrH K a ob xs b = none := if_neg fun q => by
  rw [q.1, q.2] at e; cases e
theorem scrH_seq {vs : List Value} (e : ∀ o, K.lookup a = some o → o = { cls := .type "list", data := .seq vs.toArray }) (r : Vals xs vs) (hl : vs.length ≤ sizeLine) : SqL K (scrH K a ob xs) a xs := by
  cases q : K.lookup a with
  | none => exact .inl (.inr ⟨ob, if_pos ⟨rfl, q⟩⟩)
  | some o =>
    have := e o q
    subst this
    exact .inr ⟨_, vs.toArray, _, q, rfl, rfl, rfl, by rw [List.size_toArray]; exact hl, by simpa using r⟩
theorem scrH_ok {vs : List Value} (e : h.get? a = some { cls := .type "list", data := .seq vs.toArray }) (r : Vals xs vs) (hl : xs.length ≤ sizeLine) : HOk P w (scrH K a { cls := .type "list", data := .seq vs.toArray } xs) h := fun b u q => by
  obtain ⟨rfl, _, rfl⟩ := scrH_some q
  exact ⟨e, hl, vs, _, r, e⟩
end
section
variable {P : Program} {w : World} {K : PySem.W.Frag} {mg mb : Str → Option Value} {k : Nat} {fa a : Addr} {fd : FuncData} {x : Str} {ct : Ct} {s1 : Shared} {vs : List Value} {ns : List Int}
theorem Vals.len : ∀ {us : List V} {ws : List Value}, Vals us ws → us.length = ws.length
  | _, _, .nil => rfl
  | _, _, .cons _ t => by rw [List.length_cons, List.length_cons, Vals.len t]
/-- the law's promise, at the caller behind the top -/
theorem at_top (kin : K.In s1.heap) (gl : s1.heap.Ns mainGlobals mg) (bl : s1.heap.Ns builtinsNs mb) (bb : ∀ x : Str, x ≠ "__name__" → mb x = bootBuiltins x) (nl : s1.heap.NoLimit) (gs : s1.gens = #[])
    (ob : s1.heap.get? a = some { cls := .type "list", data := .seq vs.toArray }) (is : IntsAre vs ns) (ln : ns.length ≤ sizeLine) (rm : Room k callerA)
    (G : ∀ base : Heap, K.In base → base.Ns mainGlobals mg → FnG P w K mg base k fa fd [x] (spOf K mg 1 ct)) (bi : ∀ (s : Shared) (u : Value), BindsTo s fd ⟨[u], []⟩ [(x, u)]) (c : ct [.scr ns] (.ok (.bl true))) :
    codeAny (model P w) callerA (.call (.ref fa) ⟨[.ref a], []⟩) (fun r s2 => r = .ok (.ret (.bool true)) ∧ OldK s1.heap s2.heap ∧ s2.os = s1.os ∧ AllBare s2.gens) s1 := by
  have rv : Vals (ns.map V.int) vs := vals_ints is
  have lv : vs.length ≤ sizeLine := by rw [← Vals.len rv, List.length_map]; exact ln
  have hs : SqL K (scrH K a { cls := .type "list", data := .seq vs.toArray } (ns.map V.int)) a (ns.map V.int) := scrH_seq (fun o q => by
    have := kin _ _ q
    rw [ob] at this
    exact (Option.some.inj this).symm) rv lv
  have ok : HOk P w (scrH K a { cls := .type "list", data := .seq vs.toArray } (ns.map V.int)) s1.heap := scrH_ok ob rv (by rw [List.length_map]; exact ln)
  have ends : ∀ b o, (scrH K a { cls := .type "list", data := .seq vs.toArray } (ns.map V.int)) b = some o → b = a ∧ K.lookup a = none ∧ o = .frz { cls := .type "list", data := .seq vs.toArray } (.lst (ns.map V.int)) := fun b o q => scrH_some q
  have held : ∀ b o, K.lookup b = some o → (scrH K a { cls := .type "list", data := .seq vs.toArray } (ns.map V.int)) b = none := fun b o q => scrH_held q
  generalize scrH K a { cls := .type "list", data := .seq vs.toArray } (ns.map V.int) = H at hs ok ends held
  have dictN : ∀ (b : Addr) (o : Obj) es n, s1.heap.get? b = some o → o.data = .dict es n → H b = none := fun b o es n q dq => by
    cases z : H b with
    | none => rfl
    | some u =>
      rw [(ends b u z).1, ob] at q
      cases q
      exact nomatch (show Data.seq vs.toArray _ = Data.dict es n from dq)
  have nsOf : ∀ (b : Addr) (m : Str → Option Value), s1.heap.Ns b m → (hidT s1.heap H).Ns b m := fun b m z => by
    obtain ⟨o, es, n, q, dq, rest⟩ := z
    exact ⟨o, es, n, hidT_get q (dictN b o es n q dq), dq, rest⟩
  have kin2 : K.In (hidT s1.heap H) := fun b o q => hidT_get (kin b o q) (held b o q)
  have nl2 : (hidT s1.heap H).NoLimit := by
    obtain ⟨m, z1, z2⟩ := nl
    exact ⟨m, nsOf _ _ z1, z2⟩
  have env : Env0 P w K mg (hidT s1.heap H) callerA [] s1 H := by
    refine ⟨rfl, ⟨kin2, nsOf _ _ gl, ⟨mb, nsOf _ _ bl, bb⟩, nl2⟩, fun b o q => of_hidT q, ?_, True.intro, fun b q => ?_, ok, .of_eq gs⟩
    · rw [hidT_size]; exact Nat.le_refl _
    · exact nomatch (show b ∈ ([] : List Addr) from q)
  have sp : spOf K mg 1 ct [V.ref a] H (fun v _ => v = .bl true) fun _ _ _ => False := ⟨H, [.scr ns], _, fun _ _ q => q, .cons (.scr hs) .nil, rfl, c, fun v F2 H2 _ r2 => by cases r2; rfl⟩
  have run := (G _ kin2 (nsOf _ _ gl)).run callerA [] s1 H ⟨[.ref a], []⟩ [.ref a] [.ref a] _ _ rfl rm env (bi s1 (.ref a)) (.cons rfl .nil) sp
  refine codeAny_mono run fun r s2 z => ?_
  match r, z with
  | .error e, ⟨_, _, _, _, _, _, _, _, _, _, _, _, f⟩ => exact f.elim
  | .ok (.ret u), ⟨v, H2, os2, bare2, un2, ok2, rel2, val2⟩ =>
    subst val2
    have hu : u = Value.bool true := rel2
    subst hu
    refine ⟨rfl, OldK.of_keep fun b o q => ?_, os2, bare2⟩
    cases z : H b with
    | none => exact un2.keep b o q z (fun y => nomatch (show b ∈ ([] : List Addr) from y)) (fun y => nomatch y)
    | some t =>
      obtain ⟨_, _, rfl⟩ := ends b t z
      obtain ⟨q1, _⟩ := ok b _ z
      obtain ⟨q2, _⟩ := ok2 b _ (un2.frzs b _ _ z)
      rw [q1] at q
      cases q
      exact q2
theorem walk_end {l : PySem.W.OpenLaw} {n : Nat} {q : Program} {loose : List Str} {XP : (Str → Option Value) → Heap → Prop} {YP : World → Heap → Prop} {d : DefRec} {K : Params → PySem.W.Frag}
    (hn : l.most = some n) (hn2 : n ≤ sizeLine) (hdf : d.params.defaults = []) (rm : Room k callerA) (hY : ∀ (w : World) (h : Heap), YP w h → (K w.params).In h)
    (hF : ∀ (w : World) (mg : Str → Option Value) (fa : Addr) (h : Heap), (K w.params).In h → h.Ns mainGlobals mg → mg d.name = some (.ref fa) →
      ∃ fd : FuncData, (∀ (s : Shared) (u : Value), BindsTo s fd ⟨[u], []⟩ [(x, u)]) ∧ ∀ base : Heap, (K w.params).In base → base.Ns mainGlobals mg → FnG l.prog w (K w.params) mg base k fa fd [x] (spOf (K w.params) mg 1 ct))
    (c : ∀ ns : List Int, ns.length ≤ n → (∀ z ∈ ns, Builtin.Int.intBits z ≤ 1048576) → ct [.scr ns] (.ok (.bl true))) : PySem.W.WalkO q loose XP YP l.row.toRowW d [] (fun f vs => PySem.call f vs) := by
  refine Att.attach_callB hn hdf fun w s0 s1 mg mb fa o pm cd doc a vs ns G Y _ _ _ mgf hob hin hlen bits gs => ?_
  obtain ⟨fd, b1, f1⟩ := hF w mg fa _ (hY w _ Y) G.T.g mgf
  exact at_top (hY w _ Y) G.T.g G.T.b G.T.builtins G.T.nolimit gs hob hin (Nat.le_trans hlen hn2) rm f1 b1 (c ns hlen bits)
end
/-! ## what the module's top has left -/
section
variable {K : PySem.W.Frag} {h : Heap} {mg : Str → Option Value}
/-- a constant: a tuple -/
theorem gl_tup {x : Str} {a : Addr} {dd : Option Addr} {its : Array Value} {n : Nat} {sl : Array (Option Value)} {ds : List D} {us : List V} (m : mg x = some (.ref a)) (l : K.lookup a = some ⟨.type "tuple", dd, .seq its n, sl⟩) (hz : its.size ≤ sizeLine) (r : Vals us its.toList) (hr : ∀ H, RpA K mg H us ds) : GlD K mg x (.tup ds) :=
  ⟨.ref a, .ref a, m, rfl, fun H => .tup (.inr ⟨_, its, n, l, rfl, rfl, hz, r⟩) (hr H)⟩
theorem gl_int {x : Str} {i : Int} {t : Nat} (m : mg x = some (.int i t)) : GlD K mg x (.int i) := ⟨.int i, .int i t, m, ⟨t, rfl⟩, fun H => .int i⟩
theorem py_of (X : K.In h) (G : h.Ns mainGlobals mg) (z : ∀ s ∈ (["abs", "all", "any", "bool", "dict", "divmod", "enumerate", "int", "isinstance", "len", "list", "max", "min", "range", "repr", "sorted", "str", "sum", "tuple", "type", "zip", "ValueError"] : List Str), PySem.W.nsIn K mainGlobals s = some none) : Py mg := by
  have f : ∀ s ∈ (["abs", "all", "any", "bool", "dict", "divmod", "enumerate", "int", "isinstance", "len", "list", "max", "min", "range", "repr", "sorted", "str", "sum", "tuple", "type", "zip", "ValueError"] : List Str), mg s = none := fun s hs => PySem.W.mg_none_of X G (z s hs)
  constructor <;> exact f _ (by decide)
end
end DL

namespace DL
open PySem PySem.Spec PyProof.Rows L2 Evl
/-! ## sum, max, min of tuples of ints -/
section
variable {prog : Program} {w : World} {A : Around} {E : Value → Shared → Prop} {s : Shared} {t : Addr} {its : List Value} {ns : List Int} {Q : Value → Shared → Prop}
theorem sumT_raw (hh : A.handled = none) (ht : s.heap.IsTuple t its.toArray) (hi : IntsAre its ns)
    (h : ∀ h' tk u, (∀ b o, s.heap.get? b = some o → h'.get? b = some o) → Q (.int ns.sum u) { s with heap := h', toks := tk }) : wpAny (model prog w) A (call (.builtin "sum") [.ref t]) Q E s := by
  obtain ⟨zs, e⟩ := hi.allInts.items
  have en : numsOf (intItems zs).toList = ns := e ▸ hi.numsOf
  rw [nums_intItems] at en
  rw [e] at ht
  refine PySem.W.ktm_sumG hh ht fun h' tk u hk => ?_
  have g := h h' tk u hk
  rwa [preSum_eq, List.take_of_length_le (by simp), en]
theorem maxT_raw (hh : A.handled = none) (ht : s.heap.IsTuple t its.toArray) (hi : IntsAre its ns) (hne : 0 < ns.length)
    (h : ∀ h' tk M u, (∀ b o, s.heap.get? b = some o → h'.get? b = some o) → M ∈ ns → (∀ a, a ∈ ns → a ≤ M) → Q (.int M u) { s with heap := h', toks := tk }) : wpAny (model prog w) A (call (.builtin "max") [.ref t]) Q E s := by
  obtain ⟨xs, e⟩ := hi.allInts.items
  have en : numsOf (intItems xs).toList = ns := e ▸ hi.numsOf
  rw [nums_intItems] at en
  subst en
  rw [e] at ht
  have sz : 0 < xs.size := by simpa using hne
  obtain ⟨o, ho, hc, n, hd⟩ := id ht
  have lt := Heap.lt_size ho
  refine call_max_walk (wpAny_pyIter_tuple ht ?_)
  refine ⟨s.heap.objs.size, _, _, _, _, _, _, rfl, Walks.tuple (A := A.in1) hh s.heap.objs.size t (Nat.ne_of_lt lt) (intItems xs), ⟨⟨_, Heap.get?_push_size _ rfl, rfl, rfl⟩, ht.at fun o e => Heap.get?_push_of_some _ e⟩, fun b hb => ?_, by simpa [intItems] using sz, CmpOf.ints_gt (numAt xs) (fun _ _ => intItems_at), fun v h' tk hP hk => ?_⟩
  · rcases List.mem_cons.mp hb with rfl | hb
    · exact Heap.lt_size (Heap.get?_push_size _ rfl)
    · rw [List.mem_singleton.mp hb]
      exact Heap.lt_size (Heap.get?_push_of_some _ ho)
  · have hP' : (intItems xs)[argBest (fun i j => decide (numAt xs i > numAt xs j)) (xs.size - 1)]? = some v := by simpa [intItems] using hP
    obtain ⟨u, rfl⟩ := intItems_at hP'
    obtain ⟨h1, h2⟩ := argBest_gt (numAt xs) (xs.size - 1)
    refine h h' tk _ u (fun b o q => ?_) ?_ fun a ha => ?_
    · have bl := Heap.lt_size q
      exact hk b o (fun hb => absurd bl (by rw [List.mem_singleton.mp hb]; exact Nat.lt_irrefl _)) (Heap.get?_push_of_some _ q)
    · rw [numAt_eq]; exact PySem.getD_mem (by rw [List.length_map, Array.length_toList]; omega)
    · obtain ⟨j, hj, rfl⟩ := mem_getD ha
      have hj2 : j < xs.size := by simpa using hj
      rw [← numAt_eq]; exact h2 j (Nat.le_sub_one_of_lt hj2)
theorem minT_raw (hh : A.handled = none) (ht : s.heap.IsTuple t its.toArray) (hi : IntsAre its ns) (hne : 0 < ns.length)
    (h : ∀ h' tk M u, (∀ b o, s.heap.get? b = some o → h'.get? b = some o) → M ∈ ns → (∀ a, a ∈ ns → M ≤ a) → Q (.int M u) { s with heap := h', toks := tk }) : wpAny (model prog w) A (call (.builtin "min") [.ref t]) Q E s := by
  obtain ⟨xs, e⟩ := hi.allInts.items
  have en : numsOf (intItems xs).toList = ns := e ▸ hi.numsOf
  rw [nums_intItems] at en
  subst en
  rw [e] at ht
  have sz : 0 < xs.size := by simpa using hne
  obtain ⟨o, ho, hc, n, hd⟩ := id ht
  have lt := Heap.lt_size ho
  refine call_min_walk (wpAny_pyIter_tuple ht ?_)
  refine ⟨s.heap.objs.size, _, _, _, _, _, _, rfl, Walks.tuple (A := A.in1) hh s.heap.objs.size t (Nat.ne_of_lt lt) (intItems xs), ⟨⟨_, Heap.get?_push_size _ rfl, rfl, rfl⟩, ht.at fun o e => Heap.get?_push_of_some _ e⟩, fun b hb => ?_, by simpa [intItems] using sz, CmpOf.ints_lt (numAt xs) (fun _ _ => intItems_at), fun v h' tk hP hk => ?_⟩
  · rcases List.mem_cons.mp hb with rfl | hb
    · exact Heap.lt_size (Heap.get?_push_size _ rfl)
    · rw [List.mem_singleton.mp hb]
      exact Heap.lt_size (Heap.get?_push_of_some _ ho)
  · have hP' : (intItems xs)[argBest (fun i j => decide (numAt xs i < numAt xs j)) (xs.size - 1)]? = some v := by simpa [intItems] using hP
    obtain ⟨u, rfl⟩ := intItems_at hP'
    obtain ⟨h1, h2⟩ := argBest_lt (numAt xs) (xs.size - 1)
    refine h h' tk _ u (fun b o q => ?_) ?_ fun a ha => ?_
    · have bl := Heap.lt_size q
      exact hk b o (fun hb => absurd bl (by rw [List.mem_singleton.mp hb]; exact Nat.lt_irrefl _)) (Heap.get?_push_of_some _ q)
    · rw [numAt_eq]; exact PySem.getD_mem (by rw [List.length_map, Array.length_toList]; omega)
    · obtain ⟨j, hj, rfl⟩ := mem_getD ha
      have hj2 : j < xs.size := by simpa using hj
      rw [← numAt_eq]; exact h2 j (Nat.le_sub_one_of_lt hj2)
end
section
variable {X : Cx}
/-- of a list or a tuple of ints -/
def SeqI (K : PySem.W.Frag) (H : Hp) (a : Addr) (ns : List Int) : Prop := SqL K H a (ns.map V.int) ∨ SqT K H a (ns.map V.int)
theorem cr_sumQ (hc : X.calm = true) : CallR X (.builtin "sum") (fun vs H Q => ∃ (a : Addr) (ns : List Int), vs = [V.ref a] ∧ SeqI X.K H a ns ∧ Q (.int ns.sum) H) := by
  intro pins s σ H vs us Q I r ⟨a, ns, e, hs, q⟩
  subst e
  rw [Vals.ref1 r]
  rcases hs with hs | hs
  · obtain ⟨its, rv, hl, _⟩ := I.list hs
    exact sum_raw (I.ok.hd hc) hl.isList rv.ints fun h' tk u hk => ⟨.int _, H, I.kept hk, ⟨_, rfl⟩, q⟩
  · obtain ⟨its, rv, hl, _⟩ := I.tuple hs
    exact sumT_raw (I.ok.hd hc) hl rv.ints fun h' tk u hk => ⟨.int _, H, I.kept hk, ⟨_, rfl⟩, q⟩
theorem cr_maxQ (hc : X.calm = true) : CallR X (.builtin "max") (fun vs H Q => ∃ (a : Addr) (ns : List Int) (m : Int), vs = [V.ref a] ∧ SeqI X.K H a ns ∧ m ∈ ns ∧ (∀ y ∈ ns, y ≤ m) ∧ Q (.int m) H) := by
  intro pins s σ H vs us Q I r ⟨a, ns, m, e, hs, hm, hy, q⟩
  subst e
  rw [Vals.ref1 r]
  have hne : 0 < ns.length := List.length_pos_of_mem hm
  rcases hs with hs | hs
  · obtain ⟨its, rv, hl, _⟩ := I.list hs
    exact max_raw (I.ok.hd hc) hl.isList rv.ints hne fun h' tk M u hk h1 h2 => ⟨.int _, H, I.kept hk, ⟨_, rfl⟩, by rw [show M = m from Int.le_antisymm (hy M h1) (h2 m hm)]; exact q⟩
  · obtain ⟨its, rv, hl, _⟩ := I.tuple hs
    exact maxT_raw (I.ok.hd hc) hl rv.ints hne fun h' tk M u hk h1 h2 => ⟨.int _, H, I.kept hk, ⟨_, rfl⟩, by rw [show M = m from Int.le_antisymm (hy M h1) (h2 m hm)]; exact q⟩
theorem cr_minQ (hc : X.calm = true) : CallR X (.builtin "min") (fun vs H Q => ∃ (a : Addr) (ns : List Int) (m : Int), vs = [V.ref a] ∧ SeqI X.K H a ns ∧ m ∈ ns ∧ (∀ y ∈ ns, m ≤ y) ∧ Q (.int m) H) := by
  intro pins s σ H vs us Q I r ⟨a, ns, m, e, hs, hm, hy, q⟩
  subst e
  rw [Vals.ref1 r]
  have hne : 0 < ns.length := List.length_pos_of_mem hm
  rcases hs with hs | hs
  · obtain ⟨its, rv, hl, _⟩ := I.list hs
    exact min_raw (I.ok.hd hc) hl.isList rv.ints hne fun h' tk M u hk h1 h2 => ⟨.int _, H, I.kept hk, ⟨_, rfl⟩, by rw [show M = m from Int.le_antisymm (h2 m hm) (hy M h1)]; exact q⟩
  · obtain ⟨its, rv, hl, _⟩ := I.tuple hs
    exact minT_raw (I.ok.hd hc) hl rv.ints hne fun h' tk M u hk h1 h2 => ⟨.int _, H, I.kept hk, ⟨_, rfl⟩, by rw [show M = m from Int.le_antisymm (h2 m hm) (hy M h1)]; exact q⟩
end
section
variable {X : Cx} {W : WX} {e a b c : Expr} {es : List Expr} {ρ : Rho} {N : List Str} {sc : Scope} {k n : Nat} {pos p0 : Pos} {x y z : D} {F F' H H' : Hp} {ns : List Int} {m : Int}
theorem Rp.seqI {K : PySem.W.Frag} {mg : Str → Option Value} {v : V} (r : Rp K mg F v x) (hx : seqD x = some (ns.map D.int)) (e : Ex F H) : ∃ a, v = .ref a ∧ SeqI K H a ns := by
  cases x <;> simp [seqD] at hx
  · subst hx
    cases r with
    | tup h1 h2 => rw [h2.ints] at h1; exact ⟨_, rfl, .inr (ex_t e h1)⟩
  · subst hx
    cases r with
    | lst h1 h2 => rw [h2.ints] at h1; exact ⟨_, rfl, .inl (SqL.of (e _ _ h1))⟩
theorem de_sumQ (B : Bd X N sc k W) (hm : X.mg "sum" = none) (ha : DE X W a ρ (.ok x)) (hx : seqD x = some (ns.map D.int)) (hg : sc.names.lookup ("sum" : Str) = some .globalImplicit := by rfl) (hs : starEach [a] X.env = (false, eval a X.env) :: starEach [] X.env := by rfl) :
    DE X W (.Call (.Name "sum" p0) [a] [] pos) ρ (.ok (.int ns.sum)) :=
  de_callB B.toBx (cr_sumQ B.calm) hm (by decide +kernel) (da_cons ha da_nil hs) (fun F H vs Q e r q => by
    cases r with | cons r1 r2 => cases r2; obtain ⟨a, rfl, h⟩ := r1.seqI hx e; exact ⟨a, ns, rfl, h, q _ F H (Stp.refl e) (.int _)⟩) hg (he := hs)
theorem de_maxQ (B : Bd X N sc k W) (hm : X.mg "max" = none) (ha : DE X W a ρ (.ok x)) (hx : seqD x = some (ns.map D.int)) (h1 : m ∈ ns) (h2 : ∀ y ∈ ns, y ≤ m) (hg : sc.names.lookup ("max" : Str) = some .globalImplicit := by rfl) (hs : starEach [a] X.env = (false, eval a X.env) :: starEach [] X.env := by rfl) :
    DE X W (.Call (.Name "max" p0) [a] [] pos) ρ (.ok (.int m)) :=
  de_callB B.toBx (cr_maxQ B.calm) hm (by decide +kernel) (da_cons ha da_nil hs) (fun F H vs Q e r q => by
    cases r with | cons r1 r2 => cases r2; obtain ⟨a, rfl, h⟩ := r1.seqI hx e; exact ⟨a, ns, m, rfl, h, h1, h2, q _ F H (Stp.refl e) (.int _)⟩) hg (he := hs)
theorem de_minQ (B : Bd X N sc k W) (hm : X.mg "min" = none) (ha : DE X W a ρ (.ok x)) (hx : seqD x = some (ns.map D.int)) (h1 : m ∈ ns) (h2 : ∀ y ∈ ns, m ≤ y) (hg : sc.names.lookup ("min" : Str) = some .globalImplicit := by rfl) (hs : starEach [a] X.env = (false, eval a X.env) :: starEach [] X.env := by rfl) :
    DE X W (.Call (.Name "min" p0) [a] [] pos) ρ (.ok (.int m)) :=
  de_callB B.toBx (cr_minQ B.calm) hm (by decide +kernel) (da_cons ha da_nil hs) (fun F H vs Q e r q => by
    cases r with | cons r1 r2 => cases r2; obtain ⟨a, rfl, h⟩ := r1.seqI hx e; exact ⟨a, ns, m, rfl, h, h1, h2, q _ F H (Stp.refl e) (.int _)⟩) hg (he := hs)
end
end DL

namespace DL
open PySem PySem.Spec PyProof.Rows L2 Evl
section
variable {X : Cx} {W : WX} {e e2 a b c tg elt : Expr} {es rest tgs ifs : List Expr} {ρ ρ' ρ1 ρ2 ρ3 ρT : Rho} {N : List Str} {sc scope : Scope} {k n : Nat} {pos p0 : Pos} {x y z : D} {d : D} {r : R D} {F F' H H' F0 H0 : Hp} {p q s t : Bool} {ct : Ct} {ds items ys : List D} {o o2 : Out} {st : Stmt} {sts body tb eb b' suite : List Stmt} {b0 : Stmt} {bs : List (List Stmt)} {js vs : List Nat} {fin : Out → Prop} {fs : List (Str × D)} {cn xn nn : Str} {np pos' : Pos} {i : Nat}
/-! ## try .. except -/
def Out.calm : Out → Bool
  | .ex _ _ _ => false
  | _ => true
/-- no exception comes out of the body -/
theorem ds_tryT {h0 : ExceptHandler} {hs : List ExceptHandler} (B : Bg X N sc k W) (hb : ∀ W', Bg X.nox N sc k W' → DSs X.nox W' body ρ o) (ho : o.calm = true := by rfl) : DS X W (.Try body (h0 :: hs) [] [] pos) ρ o := fun F0 H0 F H σ Dn E q => by
  have B' : Bg X.nox N sc k (fun _ _ _ _ => False) := { n := B.n, sc := B.sc, nd := B.nd, calm := B.calm, room := B.room, tk := takes0, po := PassesOwn.never, gd := B.gd }
  refine ⟨_, ps_try_thru0 pss_w, hb _ B' F0 H0 F H σ Dn E ?_⟩
  cases o with
  | ex => cases ho
  | nx ρ => exact q
  | rt d => exact q
  | bk ρ => exact q
  | ct ρ => exact q
/-- of a clause: does it name the exception's class -/
structure EX (K : PySem.W.Frag) (mg : Str → Option Value) (c x : Str) (b : Bool) : Prop where
  ex : ∃ C hv, mg c = some (.ref C) ∧ (mg x = some hv ∨ (mg x = none ∧ bootBuiltins x = some hv ∧ x ≠ "__name__")) ∧ PySem.W.exmOne K (.ref C) hv = some b
/-- the clause's name goes -/
def Out.less (i : Nat) : Out → Out
  | .nx ρ => .nx (ρ.set i .any)
  | .bk ρ => .bk (ρ.set i .any)
  | .ct ρ => .ct (ρ.set i .any)
  | o => o
/-- what a suite knows of the exception -/
structure Held (X : Cx) (c : Str) (fs : List (Str × D)) (a : Addr) (oe : Obj) (cls : Value) (dd : Option Addr) : Prop where
  who : ∃ C, X.mg c = some (.ref C) ∧ cls = .ref C
  z : Zc cls dd oe
  fl : ∃ vs, oe.data = .fields vs
  nod : fs = [] → dd = none
theorem ExR.exo {K : PySem.W.Frag} {mg : Str → Option Value} {cls : Value} {dd : Option Addr} (h : ExR K mg cls dd F cn fs) (a : Addr) : Rp K mg F (.ref a) (.exo a dd fs) := by
  obtain ⟨C, h1, h2, h3, h4⟩ := h
  cases fs with
  | nil => exact .exo a dd
  | cons f fs =>
    obtain ⟨d, vs, rfl, g1, g2⟩ := h4 (by simp)
    exact .exf g1 g2
/-- try: .. except X as n: .., X names the exception -/
theorem ds_tryA (B : Bg X N sc k W) (T : TopX X) (i : Nat) (hm : EX X.K X.mg cn xn true)
    (hb : ∀ W' pn xe, Bg (X.tr pn xe) N sc k W' → DSs (X.tr pn xe) W' body ρ (.ex cn fs ρ1))
    (hs : ∀ a oe cls dd pn, Held X cn fs a oe cls dd → DSs (X.suite a ((a, oe) :: pn)) WF (b0 :: suite) (ρ1.set i (.val (.exo a dd fs))) o2) (ho : o2.calm = true := by rfl)
    (hN : N[i]? = some nn := by rfl) (hln : sc.names.lookup nn = some .local := by rfl) (hg : sc.names.lookup xn = some .globalImplicit := by rfl) (hd : (xn == ("__debug__" : Str)) = false := by decide) :
    DS X W (.Try body [.ExceptHandler (some (.Name xn np)) (some nn) (b0 :: suite) pos'] [] [] pos) ρ (o2.less i) := fun F0 H0 F H σ Dn E q => by
  obtain ⟨C, hv, m1, m2, m3⟩ := hm.ex
  refine ⟨_, ps_try_as (i := i) (c := hv) (tb := fun W' D σ H => ∀ pn xe, Bg (X.tr pn xe) N sc k W' → wSs (X.tr pn xe) body D σ H) (ts := fun a cls dd D σ H => ∀ oe pn, Zc cls dd oe → (∃ vs, oe.data = .fields vs) → wSs (X.suite a ((a, oe) :: pn)) (b0 :: suite) D σ H)
    T.st T.fr (by rw [B.n]; exact B.nd) (by rw [B.n]; exact hN) (show X.env.scope.names.lookup nn = _ by rw [B.sc]; exact hln) ⟨show X.env.scope.names.lookup xn = _ by rw [B.sc]; exact hg, hd, m2⟩ B.tk
    (fun W' pn xe t1 p1 => ⟨fun pins s σ H D I h => pss_w.run pins s σ H D I (h pn xe { n := B.n, sc := B.sc, nd := B.nd, calm := B.calm, room := B.room, tk := t1, po := p1, gd := B.gd })⟩)
    (fun a oe cls dd pn z f => ⟨fun pins s σ H D I h => pss_w.run pins s σ H D I (h oe pn z f)⟩), fun pn xe B' => ?_⟩
  refine hb _ pn xe B' F0 H0 F H σ Dn E ?_
  intro cls dd F1 H1 σ1 E1 r1
  have r1' := r1
  obtain ⟨C', n1, rfl, n2, n3⟩ := r1
  have eC : C' = C := by have h := n1.symm.trans m1; injection h with h; injection h
  subst eC
  refine ⟨true, m3, fun _ a ha oe pn2 z f => ?_, fun h => nomatch h⟩
  refine hs a oe _ dd pn2 ⟨⟨_, n1, rfl⟩, z, f, n2⟩ F0 H0 F1 H1 _ _ (E1.setVal (r1'.exo a)) ?_
  cases o2 with
  | ex => cases ho
  | nx ρ => exact fun F2 H2 σ2 E2 => q F2 H2 _ (E2.setAny i none)
  | rt d => exact fun v F2 H2 s2 r2 => q v F2 H2 s2 r2
  | bk ρ => exact fun F2 H2 σ2 E2 => q F2 H2 _ (E2.setAny i none)
  | ct ρ => exact fun F2 H2 σ2 E2 => q F2 H2 _ (E2.setAny i none)
/-- try: .. except X: .., X names the exception -/
theorem ds_tryO (B : Bg X N sc k W) (T : TopX X) (hm : EX X.K X.mg cn xn true)
    (hb : ∀ W' pn xe, Bg (X.tr pn xe) N sc k W' → DSs (X.tr pn xe) W' body ρ (.ex cn fs ρ1))
    (hs : ∀ a oe cls dd pn, Held X cn fs a oe cls dd → DSs (X.suite a ((a, oe) :: pn)) WF (b0 :: suite) ρ1 o2) (ho : o2.calm = true := by rfl)
    (hg : sc.names.lookup xn = some .globalImplicit := by rfl) (hd : (xn == ("__debug__" : Str)) = false := by decide) :
    DS X W (.Try body [.ExceptHandler (some (.Name xn np)) none (b0 :: suite) pos'] [] [] pos) ρ o2 := fun F0 H0 F H σ Dn E q => by
  obtain ⟨C, hv, m1, m2, m3⟩ := hm.ex
  refine ⟨_, ps_try_only (c := hv) (tb := fun W' D σ H => ∀ pn xe, Bg (X.tr pn xe) N sc k W' → wSs (X.tr pn xe) body D σ H) (ts := fun a cls dd D σ H => ∀ oe pn, Zc cls dd oe → (∃ vs, oe.data = .fields vs) → wSs (X.suite a ((a, oe) :: pn)) (b0 :: suite) D σ H)
    T.st T.fr ⟨show X.env.scope.names.lookup xn = _ by rw [B.sc]; exact hg, hd, m2⟩ B.tk
    (fun W' pn xe t1 p1 => ⟨fun pins s σ H D I h => pss_w.run pins s σ H D I (h pn xe { n := B.n, sc := B.sc, nd := B.nd, calm := B.calm, room := B.room, tk := t1, po := p1, gd := B.gd })⟩)
    (fun a oe cls dd pn z f => ⟨fun pins s σ H D I h => pss_w.run pins s σ H D I (h oe pn z f)⟩), fun pn xe B' => ?_⟩
  refine hb _ pn xe B' F0 H0 F H σ Dn E ?_
  intro cls dd F1 H1 σ1 E1 r1
  obtain ⟨C', n1, rfl, n2, n3⟩ := r1
  have eC : C' = C := by have h := n1.symm.trans m1; injection h with h; injection h
  subst eC
  refine ⟨true, m3, fun _ a ha oe pn2 z f => ?_, fun h => nomatch h⟩
  refine hs a oe _ dd pn2 ⟨⟨_, n1, rfl⟩, z, f, n2⟩ F0 H0 F1 H1 σ1 Dn E1 ?_
  cases o2 with
  | ex => cases ho
  | nx ρ => exact q
  | rt d => exact q
  | bk ρ => exact q
  | ct ρ => exact q
/-- a block that ends in slots that know as much -/
theorem dk_to {ρT : Rho} (h : DK X W (Meets ρT) [sts] ρ) : DSs X W sts ρ (.nx ρT) := by
  obtain ⟨_, ⟨ρ', rfl, hl⟩, h2⟩ := dk_done h
  exact dss_weakO h2 hl
theorem sBx {a : Addr} {pn : List (Addr × Obj)} (B : Bx X N sc) : Bx (X.suite a pn) N sc := ⟨B.n, B.sc, B.nd⟩
/-! isinstance of the exception that the suite holds -/
structure KIT (K : PySem.W.Frag) (mg : Str → Option Value) (c x : Str) (b : Bool) : Prop where
  ex : ∃ C hv v, mg c = some (.ref C) ∧ L2.ExcC K C ∧ (∀ u, RelV v u → u = hv) ∧ RelV v hv ∧ (mg x = some hv ∨ (mg x = none ∧ bootBuiltins x = some hv ∧ x ≠ "__name__")) ∧ PySem.W.kitOne K (.ref C) hv = some b
theorem de_isE {a : Addr} {oe : Obj} {cls : Value} {dd : Option Addr} {pn : List (Addr × Obj)} {p1 p2 : Pos} (B : Bx X N sc) (hm : X.mg "isinstance" = none) (i : Nat) (hi : ρ[i]? = some (Sl.val (.exo a dd []))) (hd : Held X cn [] a oe cls dd) (hk : KIT X.K X.mg cn xn p) (hN : N[i]? = some nn := by rfl) (hln : sc.names.lookup nn = some .local := by rfl) (hg : sc.names.lookup ("isinstance" : Str) = some .globalImplicit := by rfl)
    (hg2 : sc.names.lookup xn = some .globalImplicit := by rfl) (hn : xn ≠ "__name__" := by decide) (hd2 : (xn == ("__debug__" : Str)) = false := by decide) (hdn : (nn == ("__debug__" : Str)) = false := by decide) (hcd : (nn == ("__classdict__" : Str)) = false := by decide)
    (hs : starEach [.Name nn p1, .Name xn p2] X.env = (false, eval (.Name nn p1) X.env) :: starEach [.Name xn p2] X.env := by rfl) (hs2 : starEach [.Name xn p2] X.env = (false, eval (.Name xn p2) X.env) :: starEach [] X.env := by rfl)
    (hp : (backTo pos (starEach [.Name xn p2] X.env)).any (·.1) = false := by rfl) : DE (X.suite a ((a, oe) :: pn)) W (.Call (.Name "isinstance" p0) [.Name nn p1, .Name xn p2] [] pos) ρ (.ok (.bl p)) := fun F0 H0 F H σ Q E q => by
  obtain ⟨C, hv, v, m1, m2, m3, m3', m4, m5⟩ := hk.ex
  obtain ⟨⟨C', n1, rfl⟩, z, f, n2⟩ := hd
  have eC : C' = C := by have h := n1.symm.trans m1; injection h with h; injection h
  subst eC
  rw [n2 rfl] at z
  obtain ⟨w, w1, w2⟩ := E.vals i _ hi
  have ew : w = .ref a := by
    cases w2 <;> rfl
  subst ew
  have hcls : PE (X.suite a ((a, oe) :: pn)) (.Name xn p2) (tC v) := by
    rcases m4 with h | ⟨h1, h2, h3⟩
    · exact pe_glob (show X.env.scope.names.lookup _ = _ by rw [B.sc]; exact hg2) h m3' hd2
    · exact pe_bltn (show X.env.scope.names.lookup _ = _ by rw [B.sc]; exact hg2) h1 h2 m3' hn hd2
  exact ⟨_, pe_callB (call_isE m2 z f) (show X.env.scope.names.lookup _ = _ by rw [B.sc]; exact hg) hm (by decide +kernel) (pa_cons (pe_var (i := i) (show X.N[i]? = _ by rw [B.n]; exact hN) (show Vis X.env.scope nn by rw [B.sc]; exact .inl hln) hdn hcd) (pa_cons hcls pa_nil hs2) hs) (by decide) (by decide) hs hp,
    _, w1, v, hv, p, rfl, m3, m5, q _ F H (Stp.refl E.sub) (.bl _)⟩
end
/-! ## of the module's classes -/
section
variable {K : PySem.W.Frag} {mg : Str → Option Value} {C C2 : Addr} {cn xn : Str} {b : Bool}
theorem kit_cls (i1 : PySem.W.isClsIn K C2 = true) (t1 : PySem.W.typeIn K (.ref C2) = some (.type "type")) (s1 : PySem.W.subIn K (.ref C) (.ref C2) = some b) : PySem.W.kitCls K (.ref C) (.ref C2) = some b := by
  unfold PySem.W.kitCls
  have i2 : (PySem.W.clsIn K C2).isSome = true := by first | exact i1 | simpa [PySem.W.isClsIn] using i1
  simp only [i2, t1, Bool.true_and, beq_self_eq_true, if_true]
  exact s1
theorem ex_own (m1 : mg cn = some (.ref C)) (m2 : mg xn = some (.ref C2)) (b1 : PySem.W.subIn K (.ref C2) (.type "BaseException") = some true) (i1 : PySem.W.isClsIn K C2 = true) (t1 : PySem.W.typeIn K (.ref C2) = some (.type "type")) (s1 : PySem.W.subIn K (.ref C) (.ref C2) = some b) : EX K mg cn xn b := by
  refine ⟨C, .ref C2, m1, .inl m2, ?_⟩
  unfold PySem.W.exmOne
  rw [b1]
  simp only [beq_self_eq_true, if_true]
  exact kit_cls i1 t1 s1
theorem kit_own (E : L2.ExcC K C) (m1 : mg cn = some (.ref C)) (m2 : mg xn = some (.ref C2)) (i1 : PySem.W.isClsIn K C2 = true) (t1 : PySem.W.typeIn K (.ref C2) = some (.type "type")) (s1 : PySem.W.subIn K (.ref C) (.ref C2) = some b) (s0 : PySem.W.subIn K (.ref C) (.ref C) = some true) : KIT K mg cn xn b := by
  refine ⟨C, .ref C2, .ref C2, m1, E, fun u r => r, rfl, .inl m2, ?_⟩
  unfold PySem.W.kitOne
  by_cases h : C = C2
  · subst h
    rw [s0] at s1
    cases s1
    rw [if_pos (by simp)]
  · rw [if_neg (by simpa using h)]
    exact kit_cls i1 t1 s1
theorem kit_blt {T : String} (E : L2.ExcC K C) (m1 : mg cn = some (.ref C)) (m2 : mg xn = none) (bt : bootBuiltins xn = some (.type T)) (hn : xn ≠ "__name__") (hk : PySem.W.kitMeta T = true) (s1 : PySem.W.subIn K (.ref C) (.type T) = some b) : KIT K mg cn xn b := by
  refine ⟨C, .type T, .ty T, m1, E, fun u r => r, rfl, .inr ⟨m2, bt, hn⟩, ?_⟩
  unfold PySem.W.kitOne
  rw [if_neg (by simp)]
  unfold PySem.W.kitCls
  simp only [hk, if_true]
  exact s1
end
end DL

namespace DL
open PySem PySem.Spec PyProof.Rows L2 Evl
/-! ## the order of data -/
section
variable {X : Cx}
def rGtD (K : PySem.W.Frag) : R2 := fun x y H Q => ∃ d e : PyData, Dp K H x d ∧ Dp K H y e ∧ PySem.W.alike d e = true ∧ d ≠ .none ∧ d.depth ≤ 64 ∧ Q (.bl (PySem.W.dataLt e d)) H
def rLtD (K : PySem.W.Frag) : R2 := fun x y H Q => ∃ d e : PyData, Dp K H x d ∧ Dp K H y e ∧ PySem.W.alike d e = true ∧ d ≠ .none ∧ d.depth ≤ 64 ∧ Q (.bl (PySem.W.dataLt d e)) H
theorem op_gtD (hu : X.A.units + 64 < cLine) : OpR X (compareOp .Gt) (rGtD X.K) := by
  intro pins s σ H x y v u Q I rx ry h
  obtain ⟨d, e, hd, he, al, nn, dp, q⟩ := h
  obtain ⟨as, r1⟩ := Dp.reads I d x v hd rx
  obtain ⟨bs, r2⟩ := Dp.reads I e y u he ry
  exact PySem.W.gt_data r1 r2 al nn (by have := Nat.min_le_left d.depth e.depth; omega) ⟨.bl _, H, I, rfl, q⟩
theorem op_ltD (hu : X.A.units + 64 < cLine) : OpR X (compareOp .Lt) (rLtD X.K) := by
  intro pins s σ H x y v u Q I rx ry h
  obtain ⟨d, e, hd, he, al, nn, dp, q⟩ := h
  obtain ⟨as, r1⟩ := Dp.reads I d x v hd rx
  obtain ⟨bs, r2⟩ := Dp.reads I e y u he ry
  exact PySem.W.lt_data r1 r2 al nn (by have := Nat.min_le_left d.depth e.depth; omega) ⟨.bl _, H, I, rfl, q⟩
end
section
variable {X : Cx} {W : WX} {a b : Expr} {ρ : Rho} {N : List Str} {sc : Scope} {k : Nat} {pos : Pos} {x y : D}
theorem rop_gtD {K : PySem.W.Frag} {mg : Str → Option Value} (hx : Sh x) (hy : Sh y) (al : PySem.W.alike x.py y.py = true) (nn : x.py ≠ .none) : ROp K mg (rGtD K) x y (.bl (PySem.W.dataLt y.py x.py)) := fun F H vx vy Q e rx ry q =>
  ⟨x.py, y.py, Rp.dp x _ hx.1 (rx.up e), Rp.dp y _ hy.1 (ry.up e), al, nn, by rw [dep_py]; exact hx.2, q _ F H (Stp.refl e) (.bl _)⟩
theorem rop_ltD {K : PySem.W.Frag} {mg : Str → Option Value} (hx : Sh x) (hy : Sh y) (al : PySem.W.alike x.py y.py = true) (nn : x.py ≠ .none) : ROp K mg (rLtD K) x y (.bl (PySem.W.dataLt x.py y.py)) := fun F H vx vy Q e rx ry q =>
  ⟨x.py, y.py, Rp.dp x _ hx.1 (rx.up e), Rp.dp y _ hy.1 (ry.up e), al, nn, by rw [dep_py]; exact hx.2, q _ F H (Stp.refl e) (.bl _)⟩
theorem de_gtD (B : Bd X N sc k W) (ha : DE X W a ρ (.ok x)) (hb : DE X W b ρ (.ok y)) (hx : Sh x) (hy : Sh y) (al : PySem.W.alike x.py y.py = true) (nn : x.py ≠ .none) : DE X W (.Compare a [.Gt] [b] pos) ρ (.ok (.bl (PySem.W.dataLt y.py x.py))) := de_cmp (op_gtD B.room.units) ha hb (rop_gtD hx hy al nn) (nomark _)
theorem dt_gtD (B : Bd X N sc k W) (ha : DE X W a ρ (.ok x)) (hb : DE X W b ρ (.ok y)) (hx : Sh x) (hy : Sh y) (al : PySem.W.alike x.py y.py = true) (nn : x.py ≠ .none) : DT X W (.Compare a [.Gt] [b] pos) ρ (.ok (PySem.W.dataLt y.py x.py)) := dt_cmp (op_gtD B.room.units) ha hb (rop_gtD hx hy al nn) (nomark _)
theorem de_ltD (B : Bd X N sc k W) (ha : DE X W a ρ (.ok x)) (hb : DE X W b ρ (.ok y)) (hx : Sh x) (hy : Sh y) (al : PySem.W.alike x.py y.py = true) (nn : x.py ≠ .none) : DE X W (.Compare a [.Lt] [b] pos) ρ (.ok (.bl (PySem.W.dataLt x.py y.py))) := de_cmp (op_ltD B.room.units) ha hb (rop_ltD hx hy al nn) (nomark _)
theorem dt_ltD (B : Bd X N sc k W) (ha : DE X W a ρ (.ok x)) (hb : DE X W b ρ (.ok y)) (hx : Sh x) (hy : Sh y) (al : PySem.W.alike x.py y.py = true) (nn : x.py ≠ .none) : DT X W (.Compare a [.Lt] [b] pos) ρ (.ok (PySem.W.dataLt x.py y.py)) := dt_cmp (op_ltD B.room.units) ha hb (rop_ltD hx hy al nn) (nomark _)
end
theorem lt2 (a b c d : Int) : PySem.W.dataLt (.tuple [.int a, .int b]) (.tuple [.int c, .int d]) = (decide (a < c) || (decide (a = c) && decide (b < d))) := by
  unfold PySem.W.dataLt
  have il : ∀ i j : Int, itemLt (.inl i) (.inl j) = decide (i < j) := fun _ _ => rfl
  simp only [PySem.W.keyToks, PySem.W.keyToksAll, PyProof.Rows.lexLt, List.cons_append, List.nil_append, il]
  rw [Bool.eq_iff_iff]
  simp
  omega
end DL

namespace DL
open PySem PySem.Spec PyProof.Rows L2 Evl
/-! ## an exception on its way out of an expression -/
section
variable {X : Cx} {W : WX} {a b e : Expr} {rest : List Expr} {ρ : Rho} {pos : Pos} {cn : Str} {fs : List (Str × D)} {x : D} {N : List Str} {sc : Scope} {k : Nat} {c : Expr} {tb eb : List Stmt}
theorem de_cmpX1 {op : CmpOp} {r : R2} (ho : OpR X (compareOp op) r) (ha : DE X W a ρ (.ex cn fs)) (hm : behindInMarks op b = false := by rfl) : DE X W (.Compare a [op] [b] pos) ρ (.ex cn fs) := fun F0 H0 F H σ Q E q => ⟨_, pe_cmpR ho pe_w pe_w hm, ha F0 H0 F H σ _ E q⟩
theorem dt_cmpX1 {op : CmpOp} {r : R2} (ho : OpR X (compareOp op) r) (ha : DE X W a ρ (.ex cn fs)) (hm : behindInMarks op b = false := by rfl) : DT X W (.Compare a [op] [b] pos) ρ (.ex cn fs) := fun F0 H0 F H σ Q E q => ⟨_, pt_cmpR ho pe_w pe_w hm, ha F0 H0 F H σ _ E q⟩
theorem de_eqX1 (ha : DE X W a ρ (.ex cn fs)) : DE X W (.Compare a [.Eq] [b] pos) ρ (.ex cn fs) := de_cmpX1 op_eq ha (nomark _)
theorem dt_eqX1 (ha : DE X W a ρ (.ex cn fs)) : DT X W (.Compare a [.Eq] [b] pos) ρ (.ex cn fs) := dt_cmpX1 op_eq ha (nomark _)
theorem de_andX1 (ha : DE X W a ρ (.ex cn fs)) : DE X W (.BoolOp .And (a :: b :: rest) pos) ρ (.ex cn fs) := fun F0 H0 F H σ Q E q => ⟨_, L2.pe_and pe_w pe_w, ha F0 H0 F H σ _ E q⟩
theorem dt_notX (ha : DT X W a ρ (.ex cn fs)) : DT X W (.UnaryOp .Not a pos) ρ (.ex cn fs) := fun F0 H0 F H σ Q E q => ⟨_, pt_not pt_w, ha F0 H0 F H σ _ E q⟩
theorem ds_ifX (ha : DT X W c ρ (.ex cn fs)) : DS X W (.If c tb eb pos) ρ (.ex cn fs ρ) := fun F0 H0 F H σ Dn E q => ⟨_, ps_if pt_w pss_w pss_w, ha F0 H0 F H σ _ E fun cls dd F1 H1 s1 r1 => q cls dd F1 H1 σ (E.step s1) r1⟩
end
end DL

open PySem PySem.Spec PyProof.Rows L2 Evl DL
local macro_rules | `(tactic| walk_at "le") => `(tactic| (repeat' first | exact DL.Le.nil | apply DL.Le.same | apply DL.Le.any))
namespace Law
def top (i : Nat) : Stmt := PySem.Challenge.pw_fourtouch_k01_doubles_and_relations.main.body.getD i (.Pass ⟨0, 0, 0, 0⟩)
abbrev s_is_circle : Stmt := top 4
abbrev N_is_circle : List Str := ["circle", "b", "c", "x", "y"]
theorem sc_is_circle : FnScope N_is_circle ["circle"] (defScope s_is_circle) := ⟨rfl, rfl, rfl, by decide +kernel, rfl, by decide +kernel, by decide +kernel⟩
abbrev s_check_circle : Stmt := top 5
abbrev N_check_circle : List Str := ["circle"]
theorem sc_check_circle : FnScope N_check_circle ["circle"] (defScope s_check_circle) := ⟨rfl, rfl, rfl, by decide +kernel, rfl, by decide +kernel, by decide +kernel⟩
abbrev s_opposite : Stmt := top 6
abbrev N_opposite : List Str := ["circle", "part"]
theorem sc_opposite : FnScope N_opposite ["circle"] (defScope s_opposite) := ⟨rfl, rfl, rfl, by decide +kernel, rfl, by decide +kernel, by decide +kernel⟩
abbrev s_double : Stmt := top 7
abbrev N_double : List Str := ["one", "other", "b", "c", "x", "y", "far_b", "far_c", "far_x", "far_y"]
theorem sc_double : FnScope N_double ["one", "other"] (defScope s_double) := ⟨rfl, rfl, rfl, by decide +kernel, rfl, by decide +kernel, by decide +kernel⟩
abbrev s_are_outward : Stmt := top 8
abbrev N_are_outward : List Str := ["one", "other", "b"]
theorem sc_are_outward : FnScope N_are_outward ["one", "other"] (defScope s_are_outward) := ⟨rfl, rfl, rfl, by decide +kernel, rfl, by decide +kernel, by decide +kernel⟩
abbrev s_touch : Stmt := top 9
abbrev N_touch : List Str := ["one", "other"]
theorem sc_touch : FnScope N_touch ["one", "other"] (defScope s_touch) := ⟨rfl, rfl, rfl, by decide +kernel, rfl, by decide +kernel, by decide +kernel⟩
abbrev s_relation : Stmt := top 10
abbrev N_relation : List Str := ["one", "other", "twice"]
theorem sc_relation : FnScope N_relation ["one", "other"] (defScope s_relation) := ⟨rfl, rfl, rfl, by decide +kernel, rfl, by decide +kernel, by decide +kernel⟩
abbrev s__law_row : Stmt := top 12
abbrev N__law_row : List Str := ["_law_cell", "_law_many", "_law_row_here", "_law_rest", "_law_mixed", "_law_k"]
theorem sc__law_row : FnScope N__law_row ["_law_cell", "_law_many"] (defScope s__law_row) := ⟨rfl, rfl, rfl, by decide +kernel, rfl, by decide +kernel, by decide +kernel⟩
abbrev s__law_numbers : Stmt := top 13
abbrev N__law_numbers : List Str := ["_law_script", "_law_many", "_law_cells", "_law_each", "_law_numbers_here", "_law_cell", "_law_number"]
theorem sc__law_numbers : FnScope N__law_numbers ["_law_script", "_law_many"] (defScope s__law_numbers) := ⟨rfl, rfl, rfl, by decide +kernel, rfl, by decide +kernel, by decide +kernel⟩
abbrev s__law_given : Stmt := top 14
abbrev N__law_given : List Str := ["_law_number", "_law_k", "_law_n", "_law_area"]
theorem sc__law_given : FnScope N__law_given ["_law_number"] (defScope s__law_given) := ⟨rfl, rfl, rfl, by decide +kernel, rfl, by decide +kernel, by decide +kernel⟩
abbrev s__law_moved : Stmt := top 15
abbrev N__law_moved : List Str := ["_law_circle", "_law_s", "_law_t", "_law_b", "_law_c", "_law_x", "_law_y"]
theorem sc__law_moved : FnScope N__law_moved ["_law_circle", "_law_s", "_law_t"] (defScope s__law_moved) := ⟨rfl, rfl, rfl, by decide +kernel, rfl, by decide +kernel, by decide +kernel⟩
abbrev s__law_laid : Stmt := top 16
abbrev N__law_laid : List Str := ["_law_numbers_here", "_law_at", "_law_circle", "_law_b", "_law_c", "_law_x", "_law_y", "_law_k", "_law_most", "_law_s", "_law_t"]
theorem sc__law_laid : FnScope N__law_laid ["_law_numbers_here", "_law_at", "_law_circle"] (defScope s__law_laid) := ⟨rfl, rfl, rfl, by decide +kernel, rfl, by decide +kernel, by decide +kernel⟩
abbrev s__law_other : Stmt := top 17
abbrev N__law_other : List Str := ["_law_circles", "_law_k", "_law_part", "_law_circle"]
theorem sc__law_other : FnScope N__law_other ["_law_circles", "_law_k"] (defScope s__law_other) := ⟨rfl, rfl, rfl, by decide +kernel, rfl, by decide +kernel, by decide +kernel⟩
abbrev s__law_fallen : Stmt := top 18
abbrev N__law_fallen : List Str := ["_law_circles", "_law_word", "_law_found", "_law_k"]
theorem sc__law_fallen : FnScope N__law_fallen ["_law_circles", "_law_word"] (defScope s__law_fallen) := ⟨rfl, rfl, rfl, by decide +kernel, rfl, by decide +kernel, by decide +kernel⟩
abbrev s__law_four : Stmt := top 19
abbrev N__law_four : List Str := ["_law_numbers_here", "_law_at", "_law_circles", "_law_word", "_law_turn", "_law_circle", "_law_k"]
theorem sc__law_four : FnScope N__law_four ["_law_numbers_here", "_law_at"] (defScope s__law_four) := ⟨rfl, rfl, rfl, by decide +kernel, rfl, by decide +kernel, by decide +kernel⟩
abbrev s__law_double : Stmt := top 20
abbrev N__law_double : List Str := ["_law_one", "_law_other_here"]
theorem sc__law_double : FnScope N__law_double ["_law_one", "_law_other_here"] (defScope s__law_double) := ⟨rfl, rfl, rfl, by decide +kernel, rfl, by decide +kernel, by decide +kernel⟩
abbrev s__law_sign : Stmt := top 21
abbrev N__law_sign : List Str := ["_law_number"]
theorem sc__law_sign : FnScope N__law_sign ["_law_number"] (defScope s__law_sign) := ⟨rfl, rfl, rfl, by decide +kernel, rfl, by decide +kernel, by decide +kernel⟩
abbrev s__law_opposite : Stmt := top 22
abbrev N__law_opposite : List Str := ["_law_circle", "_law_part"]
theorem sc__law_opposite : FnScope N__law_opposite ["_law_circle"] (defScope s__law_opposite) := ⟨rfl, rfl, rfl, by decide +kernel, rfl, by decide +kernel, by decide +kernel⟩
abbrev s__law_relation : Stmt := top 23
abbrev N__law_relation : List Str := ["_law_one", "_law_other_here", "_law_twice", "_law_outward"]
theorem sc__law_relation : FnScope N__law_relation ["_law_one", "_law_other_here"] (defScope s__law_relation) := ⟨rfl, rfl, rfl, by decide +kernel, rfl, by decide +kernel, by decide +kernel⟩
abbrev s__law_refused : Stmt := top 24
abbrev N__law_refused : List Str := ["_law_one", "_law_other_here", "_law_found", "_law_k", "e"]
theorem sc__law_refused : FnScope N__law_refused ["_law_one", "_law_other_here"] (defScope s__law_refused) := ⟨rfl, rfl, rfl, by decide +kernel, rfl, by decide +kernel, by decide +kernel⟩
abbrev s_law : Stmt := top 25
abbrev N_law : List Str := ["_law_script", "_law_numbers_here", "_law_first", "_law_second", "_law_one", "_law_other_here", "_law_far", "_law_due", "_law_told", "_law_bad", "_law_k"]
theorem sc_law : FnScope N_law ["_law_script"] (defScope s_law) := ⟨rfl, rfl, rfl, by decide +kernel, rfl, by decide +kernel, by decide +kernel⟩
end Law

namespace Law
/-! ### the drawn numbers -/
def ab (i : Int) : Int := if i < 0 then -i else i
def mixS (m : Int) (k : Nat) : Int := (m * 16807 + 271 * ((0 + (k : Int)) + 3)) % 2147483629
def rowStep (cell : Int) (s : Int × Int × List Int) (k : Nat) : Int × Int × List Int :=
  bif decide ((10 : Int) ^ (18 : Int).toNat ≤ ab cell) then (s.1 / 1009, mixS s.2.1 k, s.2.2 ++ [s.1 % 1009]) else (s.1, mixS s.2.1 k, s.2.2 ++ [mixS s.2.1 k / 7 % 1009])
def rowF (cell many : Int) : List Int := ((List.range many.toNat).foldl (rowStep cell) (ab cell, (ab cell * 48271 + 69621) % 2147483647, [])).2.2
abbrev k__law_row : Nat := 1
def ct__law_row : Ct := fun ds r => ∃ cell many : Int, ds = [.int cell, .int many] ∧ 0 ≤ many ∧ many ≤ 100000 ∧ r = .ok (.lst ((rowF cell many).map D.int))
theorem sz5 {n : Nat} (h : n ≤ 100000) : n < sizeLine := Nat.lt_of_le_of_lt h (by decide)
theorem rowStep_app (cell : Int) (s : Int × Int × List Int) (k : Nat) : ∃ z, 0 ≤ z ∧ z < 1009 ∧ (rowStep cell s k).2.2 = s.2.2 ++ [z] := by
  unfold rowStep
  cases decide ((10 : Int) ^ (18 : Int).toNat ≤ ab cell) with
  | true => exact ⟨_, Int.emod_nonneg _ (by decide), Int.emod_lt_of_pos _ (by decide), rfl⟩
  | false => exact ⟨_, Int.emod_nonneg _ (by decide), Int.emod_lt_of_pos _ (by decide), rfl⟩
theorem rowF_len (cell many : Int) : (rowF cell many).length = many.toNat ∧ ∀ z ∈ rowF cell many, 0 ≤ z ∧ z < 1009 := by
  have key : ∀ (l : List Nat) (s : Int × Int × List Int), (l.foldl (rowStep cell) s).2.2.length = s.2.2.length + l.length ∧ ((∀ z ∈ s.2.2, 0 ≤ z ∧ z < 1009) → ∀ z ∈ (l.foldl (rowStep cell) s).2.2, 0 ≤ z ∧ z < 1009) := by
    intro l
    induction l with
    | nil => intro s; exact ⟨by simp, fun h => h⟩
    | cons k l ih =>
      intro s
      obtain ⟨h1, h2⟩ := ih (rowStep cell s k)
      obtain ⟨z, z0, z1, ez⟩ := rowStep_app cell s k
      refine ⟨by rw [List.foldl_cons, h1, ez, List.length_cons, List.length_append]; simp; omega, fun h => h2 fun y hy => ?_⟩
      rw [ez] at hy
      simp only [List.mem_append, List.mem_singleton] at hy
      rcases hy with hy | hy
      · exact h y hy
      · subst hy; exact ⟨z0, z1⟩
  unfold rowF
  obtain ⟨h1, h2⟩ := key (List.range many.toNat) (ab cell, (ab cell * 48271 + 69621) % 2147483647, [])
  exact ⟨by rw [h1]; simp, h2 (by simp)⟩
theorem b__law_row {X : Cx} {W : WX} {k : Nat} (B : Bg X N__law_row (defScope s__law_row) k W) (py : Py X.mg) : BodyOk X N__law_row (defScope s__law_row) k W (defBody s__law_row) 2 ct__law_row := by
  intro ds r hl hc
  obtain ⟨cell, many, rfl, h0, hm, rfl⟩ := hc
  refine dk_done ?_
  -- _law_row_here = []
  refine dk_cons (ds_own B.toBx 2 (df_lst da_nil)) ?_
  -- _law_rest = abs(_law_cell)
  refine dk_cons (ds_set B.toBx 3 (de_abs B.toBx py.abs (de_var B.toBx 0))) ?_
  -- _law_mixed = int(_law_rest * 48271 + 69621) % 2147483647
  refine dk_cons (ds_set B.toBx 4 (de_mod (de_int1 B.toBx py.int (de_add (de_mul (de_var B.toBx 3) de_int (mulR (by decide))) de_int)) de_int (by decide))) ?_
  -- for _law_k in range(_law_many):
  refine dk_cons (ds_for B.toBd (di_range1 B.toBx py.range (de_var B.toBx 1) ⟨by omega, by omega⟩) (DFor.foldP (fun s : Int × Int × List Int => [Sl.val (.int cell), .val (.int many), .own (s.2.2.map D.int), .val (.int s.1), .val (.int s.2.1), .any])
    (fun i : Nat => D.int (0 + (i : Int))) (rowStep cell) (fun pre s => s.2.2.length = pre.length) (List.range many.toNat) [] (ab cell, (ab cell * 48271 + 69621) % 2147483647, []) rfl ?_).1) ?_
  · intro pre k post s hp hs
    have hlen : pre.length < many.toNat := by
      have := congrArg List.length hp
      simp at this; omega
    obtain ⟨z, z0, z1, ez⟩ := rowStep_app cell s k
    refine ⟨⟨_, _, dg_name B.toBx 5, ?_⟩, by rw [ez]; simp [hs]⟩
    -- _law_mixed = int(_law_mixed * 16807 + 271 * (_law_k + 3)) % 2147483629
    refine dk_cons (ds_set B.toBx 4 (de_mod (de_int1 B.toBx py.int (de_add (de_mul (de_var B.toBx 4) de_int (mulR (by decide))) (de_mul de_int (de_add (de_var B.toBx 5) de_int) (mulL (by decide))))) de_int (by decide))) ?_
    -- if abs(_law_cell) >= 10 ** 18:
    refine dk_if (dt_ge (de_abs B.toBx py.abs (de_var B.toBx 0)) (de_pow de_int de_int ⟨by decide, by decide, by decide⟩)) (fun h1 => ?_) (fun h1 => ?_)
    · -- _law_row_here.append(int(_law_rest) % 1009)
      refine dk_cons (ds_app B.toBx 2 (de_mod (de_int1 B.toBx py.int (de_var B.toBx 3)) de_int (by decide)) rfl (by rw [List.length_map, hs]; exact sz5 (by omega))) ?_
      -- _law_rest = _law_rest // 1009
      refine dk_cons (ds_set B.toBx 3 (de_fdiv (de_var B.toBx 3) de_int (divW (by decide)))) ?_
      refine dk_nil (dk_nil (dk_fin (goes_nx ?_)))
      have e : rowStep cell s k = (s.1 / 1009, mixS s.2.1 k, s.2.2 ++ [s.1 % 1009]) := by unfold rowStep; rw [show decide ((10 : Int) ^ (18 : Int).toNat ≤ ab cell) = true from h1]; rfl
      rw [e]
      simp only [List.map_append, List.map_cons, List.map_nil]
      walk_at "le"
    · -- _law_row_here.append(int(_law_mixed // 7) % 1009)
      refine dk_cons (ds_app B.toBx 2 (de_mod (de_int1 B.toBx py.int (de_fdiv (de_var B.toBx 4) de_int (divW (by decide)))) de_int (by decide)) rfl (by rw [List.length_map, hs]; exact sz5 (by omega))) ?_
      refine dk_nil (dk_nil (dk_fin (goes_nx ?_)))
      have e : rowStep cell s k = (s.1, mixS s.2.1 k, s.2.2 ++ [mixS s.2.1 k / 7 % 1009]) := by unfold rowStep; rw [show decide ((10 : Int) ^ (18 : Int).toNat ≤ ab cell) = false from h1]; rfl
      rw [e]
      simp only [List.map_append, List.map_cons, List.map_nil]
      walk_at "le"
  -- return _law_row_here
  refine dk_freeze 2 rfl ?_
  exact dk_leave (ds_ret (de_var B.toBx 2)) rfl

/-! all of them -/
def eachF (ns : List Int) (many : Int) : Int := 1 + many / (if (((ns.take 63).length : Nat) : Int) > 1 then (((ns.take 63).length : Nat) : Int) else 1)
def rawF (ns : List Int) (many : Int) : List Int := (ns.take 63).foldl (fun acc c => acc ++ rowF c (eachF ns many)) []
def numF (ns : List Int) (many : Int) : List Int := (rawF ns many ++ List.replicate (many.toNat - (rawF ns many).length) 0).take many.toNat
abbrev k__law_numbers : Nat := 2
def ct__law_numbers : Ct := fun ds r => ∃ (ns : List Int) (many : Int), ds = [.scr ns, .int many] ∧ 0 ≤ many ∧ many ≤ 10000 ∧ r = .ok (.lst ((numF ns many).map D.int))
theorem cut63 (ns : List Int) : DL.cutD (ns.map D.int) none (some 63) = (ns.take 63).map D.int := by
  unfold DL.cutD
  rw [HT.sIx_none, List.drop_zero, List.length_map]
  have : HT.sIx ns.length ns.length (some 63) = min 63 ns.length := HT.sIx_nat _ _ 63
  rw [this, Nat.sub_zero, ← List.map_take]
  congr 1
  by_cases h : ns.length ≤ 63
  · rw [Nat.min_eq_right h, List.take_of_length_le h, List.take_of_length_le (Nat.le_refl _)]
  · rw [Nat.min_eq_left (by omega)]
theorem cutTo (zs : List Int) (m : Int) (h0 : 0 ≤ m) : DL.cutD (zs.map D.int) none (some m) = (zs.take m.toNat).map D.int := by
  unfold DL.cutD
  rw [HT.sIx_none, List.drop_zero, List.length_map]
  have : HT.sIx zs.length zs.length (some m) = min m.toNat zs.length := by
    have := HT.sIx_nat zs.length zs.length m.toNat
    rw [Int.toNat_of_nonneg h0] at this
    exact this
  rw [this, Nat.sub_zero, ← List.map_take]
  congr 1
  by_cases h : zs.length ≤ m.toNat
  · rw [Nat.min_eq_right h, List.take_of_length_le h, List.take_of_length_le (Nat.le_refl _)]
  · rw [Nat.min_eq_left (by omega)]
theorem eachF_bd (ns : List Int) (many : Int) (h0 : 0 ≤ many) (h1 : many ≤ 10000) : 0 ≤ eachF ns many ∧ eachF ns many ≤ 10001 := by
  unfold eachF
  have hl : (ns.take 63).length ≤ 63 := by rw [List.length_take]; omega
  generalize (ns.take 63).length = n at hl
  by_cases h : ((n : Nat) : Int) > 1
  · rw [if_pos h]
    have h2 : 0 ≤ many / (n : Int) := Int.ediv_nonneg h0 (by omega)
    have h3 : many / (n : Int) ≤ many := Int.ediv_le_self _ h0
    omega
  · rw [if_neg h]; omega
theorem b__law_numbers {X : Cx} {W : WX} {k : Nat} (B : Bg X N__law_numbers (defScope s__law_numbers) k W) (hk : k__law_row ≤ k) (py : Py X.mg) (c__law_row : Fn X.prog X.w X.K X.mg X.base "_law_row" k__law_row 2 ct__law_row) : BodyOk X N__law_numbers (defScope s__law_numbers) k W (defBody s__law_numbers) 2 ct__law_numbers := by
  intro ds r hl hc
  obtain ⟨ns, many, rfl, h0, h1, rfl⟩ := hc
  have hl63 : (ns.take 63).length ≤ 63 := by rw [List.length_take]; omega
  obtain ⟨he0, he1⟩ := eachF_bd ns many h0 h1
  refine dk_done ?_
  -- _law_cells = _law_script[:63]
  refine dk_cons (ds_set B.toBx 2 ((df_slS (de_var B.toBx 0) do_none (do_some de_int)).of_eq (cut63 ns)).de) ?_
  -- _law_each = 1 + _law_many // max(1, len(_law_cells))
  refine dk_cons (ds_set B.toBx 3 ((de_add de_int (de_fdiv (de_var B.toBx 1) (de_max2 B.toBd py.max de_int (de_len B.toBx py.len (de_var B.toBx 2) rfl)) ?_)).ofD (show _ = D.int (eachF ns many) by rw [List.length_map]; rfl))) ?_
  · rw [List.length_map]
    refine wide_div (b := 10) ?_ ?_ (by decide) (by decide)
    · split <;> omega
    · split <;> omega
  -- _law_numbers_here = []
  refine dk_cons (ds_own B.toBx 4 (df_lst da_nil)) ?_
  -- for _law_cell in _law_cells:
  refine dk_cons (ds_for B.toBd (di_seq (de_var B.toBx 2) rfl) (DFor.foldP (fun acc : List Int => [Sl.val (.scr ns), .val (.int many), .val (.lst ((ns.take 63).map D.int)), .val (.int (eachF ns many)), .own (acc.map D.int), .any, .any])
    D.int (fun acc c => acc ++ rowF c (eachF ns many)) (fun pre acc => acc.length = pre.length * (eachF ns many).toNat) (ns.take 63) [] [] (by simp) ?_).1) ?_
  · intro pre c post acc hp hs
    have hpl : pre.length < 63 := by
      have := congrArg List.length hp
      simp at this; omega
    have hrow := (rowF_len c (eachF ns many)).1
    refine ⟨⟨_, _, dg_name B.toBx 5, ?_⟩, by simp only [List.length_append, hs, hrow, List.length_singleton]; rw [Nat.add_mul, Nat.one_mul]⟩
    have hacc : acc.length ≤ 62 * 10001 := by
      rw [hs]
      exact Nat.mul_le_mul (by omega) (by omega)
    -- for _law_number in _law_row(_law_cell, _law_each):
    refine dk_cons (ds_for B.toBd (di_seq (de_call B c__law_row hk (da_cons (de_var B.toBx 5) (da_cons (de_var B.toBx 3) da_nil)) rfl ⟨c, _, rfl, he0, by omega, rfl⟩) rfl) (DFor.foldP (fun ac : List Int => [Sl.val (.scr ns), .val (.int many), .val (.lst ((ns.take 63).map D.int)), .val (.int (eachF ns many)), .own (ac.map D.int), .val (.int c), .any])
      D.int (fun ac z => ac ++ [z]) (fun pre ac => ac.length = acc.length + pre.length) (rowF c (eachF ns many)) [] acc rfl ?_).1) ?_
    · intro pre2 z post2 ac hp2 hs2
      have hpl2 : pre2.length < (rowF c (eachF ns many)).length := by
        have := congrArg List.length hp2
        simp at this; omega
      refine ⟨⟨_, _, dg_name B.toBx 6, ?_⟩, by simp [hs2]; omega⟩
      -- _law_numbers_here.append(_law_number)
      refine dk_cons (ds_app B.toBx 4 (de_var B.toBx 6) rfl (by rw [List.length_map, hs2]; exact Nat.lt_of_le_of_lt (show _ ≤ 16000000 by omega) (by decide))) ?_
      refine dk_nil (dk_fin (goes_nx ?_))
      simp only [List.map_append, List.map_cons, List.map_nil]
      walk_at "le"
    refine dk_nil (dk_fin (goes_nx ?_))
    have e : ∀ (l acc : List Int), l.foldl (fun ac z => ac ++ [z]) acc = acc ++ l := by
      intro l
      induction l with
      | nil => intro acc; simp
      | cons z l ih => intro acc; rw [List.foldl_cons, ih]; simp
    rw [e]
    walk_at "le"
  -- while len(_law_numbers_here) < _law_many:
  have hraw : (rawF ns many).length ≤ 63 * 10001 := by
    have e : ∀ (l acc : List Int), (l.foldl (fun acc c => acc ++ rowF c (eachF ns many)) acc).length = acc.length + l.length * (eachF ns many).toNat := by
      intro l
      induction l with
      | nil => intro acc; simp
      | cons c l ih => intro acc; rw [List.foldl_cons, ih, List.length_append, (rowF_len c (eachF ns many)).1, List.length_cons, Nat.add_mul, Nat.one_mul]; omega
    unfold rawF
    rw [e]
    have := Nat.mul_le_mul hl63 (show (eachF ns many).toNat ≤ 10001 by omega)
    simp only [List.length_nil]; omega
  refine dk_cons (ds_while B.toBd (DWh.loop (fun acc : List Int => [Sl.val (.scr ns), .val (.int many), .val (.lst ((ns.take 63).map D.int)), .val (.int (eachF ns many)), .own (acc.map D.int), .any, .any])
    (fun acc => acc ++ [0]) (fun acc => acc ++ List.replicate (many.toNat - acc.length) 0) (fun acc => many.toNat - acc.length) (fun acc => acc.length ≤ 63 * 10001 + 10000) ?_ (rawF ns many) (by omega))) ?_
  · intro acc hP
    have tst : ∀ {pos : Pos} {p1 p2 p3 p4 : Pos}, DT X W (.Compare (.Call (.Name "len" p1) [.Name "_law_numbers_here" p2] [] p3) [.Lt] [.Name "_law_many" p4] pos) [Sl.val (.scr ns), .val (.int many), .val (.lst ((ns.take 63).map D.int)), .val (.int (eachF ns many)), .own (acc.map D.int), .any, .any] (.ok (decide (((acc.map D.int).length : Int) < many))) :=
      fun {_ _ _ _ _} => dt_lt (de_lend (i := 4) rfl (de_len B.toBx py.len (de_var B.toBx 4) rfl) rfl) (de_var B.toBx 1)
    by_cases hlt : ((acc.length : Nat) : Int) < many
    · refine .inr ⟨tst.ofB (by rw [List.length_map]; exact decide_eq_true hlt), ?_, by simp; omega, by simp; omega, ?_⟩
      · -- _law_numbers_here.append(0)
        refine dk_cons (ds_app B.toBx 4 de_int rfl (by rw [List.length_map]; exact Nat.lt_of_le_of_lt (show _ ≤ 16000000 by omega) (by decide))) ?_
        refine dk_nil (dk_fin (goes_nx ?_))
        simp only [List.map_append, List.map_cons, List.map_nil]
        walk_at "le"
      · have e : many.toNat - acc.length = (many.toNat - (acc ++ [0]).length) + 1 := by simp; omega
        show acc ++ List.replicate (many.toNat - acc.length) 0 = acc ++ [0] ++ List.replicate (many.toNat - (acc ++ [0]).length) 0
        rw [e, List.replicate_succ]; simp
    · refine .inl ⟨tst.ofB (by rw [List.length_map]; exact decide_eq_false hlt), ?_⟩
      have e : many.toNat - acc.length = 0 := by omega
      show acc ++ List.replicate (many.toNat - acc.length) 0 = acc
      rw [e]; simp
  -- return _law_numbers_here[:_law_many]
  refine dk_freeze 4 rfl ?_
  exact dk_leave (ds_ret ((df_slL (de_var B.toBx 4) do_none (do_some (de_var B.toBx 1))).of_eq (cutTo _ _ h0)).de) rfl
theorem numF_len (ns : List Int) (many : Int) (h0 : 0 ≤ many) (h1 : many ≤ 10000) : (numF ns many).length = many.toNat ∧ ∀ z ∈ numF ns many, 0 ≤ z ∧ z < 1009 := by
  unfold numF
  refine ⟨by rw [List.length_take, List.length_append, List.length_replicate]; omega, fun z hz => ?_⟩
  have hz2 := List.mem_of_mem_take hz
  simp only [List.mem_append] at hz2
  rcases hz2 with hz2 | hz2
  · have e : ∀ (l acc : List Int), (∀ z ∈ acc, 0 ≤ z ∧ z < 1009) → ∀ z ∈ l.foldl (fun acc c => acc ++ rowF c (eachF ns many)) acc, 0 ≤ z ∧ z < 1009 := by
      intro l
      induction l with
      | nil => intro acc h; exact h
      | cons c l ih =>
        intro acc h
        refine ih _ fun z hz => ?_
        simp only [List.mem_append] at hz
        rcases hz with hz | hz
        · exact h z hz
        · exact (rowF_len c (eachF ns many)).2 z hz
    exact e (ns.take 63) [] (by simp) z hz2
  · rw [List.mem_replicate] at hz2
    rw [hz2.2]; decide
end Law
namespace Law
/-- the number at a place -/
def nth (zs : List Int) (i : Int) : Int := zs.getD i.toNat 0
structure Drawn (m : Int) (zs : List Int) : Prop where
  len : (zs.length : Int) = m
  bd : ∀ z ∈ zs, 0 ≤ z ∧ z < 1009
theorem drawn (ns : List Int) (m : Int) (h0 : 0 ≤ m) (h1 : m ≤ 10000) : Drawn m (numF ns m) := ⟨by rw [(numF_len ns m h0 h1).1]; omega, (numF_len ns m h0 h1).2⟩
theorem Drawn.at {m : Int} {zs : List Int} (h : Drawn m zs) (i : Int) (h0 : 0 ≤ i := by decide) (h1 : i < m := by decide) : atI (zs.map D.int) i = some (D.int (nth zs i)) := atI_ints h0 (by rw [h.len]; exact h1)
theorem Drawn.sm {m : Int} {zs : List Int} (h : Drawn m zs) (i : Int) (h0 : 0 ≤ i := by decide) (h1 : i < m := by decide) : 0 ≤ nth zs i ∧ nth zs i < 1009 := by
  refine h.bd _ ?_
  have := h.len
  unfold nth
  rw [List.getD_eq_getElem?_getD, List.getElem?_eq_getElem (by omega)]
  exact List.getElem_mem _
theorem mod_bd (a : Int) (m : Int) (h : 0 < m := by decide) : 0 ≤ a % m ∧ a % m < m := ⟨Int.emod_nonneg _ (by omega), Int.emod_lt_of_pos _ h⟩
end Law

namespace Law
/-! ### lists of four ints -/
theorem four_of {α : Type} {l : List α} (h : l.length = 4) : ∃ a b c d, l = [a, b, c, d] := by
  match l, h with
  | [a, b, c, d], _ => exact ⟨a, b, c, d, rfl⟩
/-- four ints below 2 ^ n -/
def Sq (n : Nat) (l : List Int) : Prop := l.length = 4 ∧ ∀ z ∈ l, z.natAbs < 2 ^ n
theorem Sq.mono {n m : Nat} {l : List Int} (h : Sq n l) (hn : n ≤ m) : Sq m l := ⟨h.1, fun z hz => Nat.lt_of_lt_of_le (h.2 z hz) (Nat.pow_le_pow_right (by decide) hn)⟩
theorem Sm.sum : ∀ {l : List Int} {n : Nat}, (∀ z ∈ l, z.natAbs < 2 ^ n) → l.sum.natAbs ≤ l.length * 2 ^ n
  | [], _, _ => by simp
  | z :: l, n, h => by
    have h1 := h z List.mem_cons_self
    have h2 := Sm.sum (l := l) fun y hy => h y (List.mem_cons_of_mem _ hy)
    rw [List.sum_cons, List.length_cons, Nat.add_mul, Nat.one_mul]
    omega
theorem ixN_nat {n : Nat} {i : Int} (h0 : 0 ≤ i) (h1 : i < (n : Int)) : ixN n i = some i.toNat := by
  unfold ixN
  rw [if_pos h0, if_pos h1]
def qD (l : List Int) : D := .tup (l.map D.int)
theorem atI_lastQ {α : Type} {g : α → D} {acc : List α} {z : α} (h : acc ≠ []) : atI (acc.map g) (-1) = some (g (acc.getLastD z)) := by
  have e : acc = acc.dropLast ++ [acc.getLastD z] := by
    rw [show acc.getLastD z = acc.getLast h from by cases acc with | nil => exact absurd rfl h | cons b l => rfl]
    exact (List.dropLast_concat_getLast h).symm
  conv => lhs; rw [e]
  rw [List.map_append]
  exact atI_last _ _
theorem atD {α : Type} {g : α → D} {l : List α} {i : Int} {z : α} (h0 : 0 ≤ i) (h1 : i < (l.length : Int)) : atI (l.map g) i = some (g (l.getD i.toNat z)) := by
  refine atI_map h0 ?_
  have hl : i.toNat < l.length := by omega
  rw [List.getElem?_eq_getElem hl, List.getD_eq_getElem?_getD, List.getElem?_eq_getElem hl]; rfl
theorem Sq.rep {n : Nat} {l : List Int} (h : Sq n l) (hn : n ≤ 1800) : (qD l).fine 570 = true := by
  unfold qD
  simp only [D.fine]
  exact fine_map fun z hz => fine_int (two_ten (h.2 z hz) hn)
theorem qD_dep (l : List Int) : (qD l).dep ≤ 1 := by unfold qD; simp only [D.dep]; exact Nat.succ_le_succ (dep_map (fun _ => Nat.le_refl 0) l)
theorem qD_bulk {l : List Int} (h : l.length = 4) : (qD l).bulk ≤ 4 := by
  unfold qD
  simp only [D.bulk]
  have := bulk_map (g := D.int) (m := 0) (l := l) (fun _ _ => Nat.le_refl _)
  omega
theorem rows_rep {n : Nat} {ls : List (List Int)} (h : ∀ q ∈ ls, Sq n q) (hn : n ≤ 1800) (hl : ls.length ≤ 1000) : Shw (.lst (ls.map qD)) :=
  .lst 570 4 (fun q hq => (h q hq).rep hn) (fun q _ => Nat.le_trans (qD_dep q) (by decide)) (fun q hq => qD_bulk (h q hq).1) (by omega) (by decide)
theorem row_rep {n : Nat} {l : List Int} (h : Sq n l) (hn : n ≤ 1800) : Shw (qD l) := .tupW (fun z hz => Nat.lt_of_lt_of_le (h.2 z hz) (Nat.pow_le_pow_right (by decide) hn)) (by rw [h.1]; decide)
end Law

namespace Law
/-! ### circles, in plain Lean -/
/-- the double of two circles -/
def dbl (p q : List Int) : Int := 2 * (p.getD 2 0 * q.getD 2 0 + p.getD 3 0 * q.getD 3 0) - p.getD 0 0 * q.getD 1 0 - p.getD 1 0 * q.getD 0 0
def isC (l : List Int) : Bool := decide (l.length = 4) && decide (l.getD 2 0 * l.getD 2 0 + l.getD 3 0 * l.getD 3 0 - l.getD 0 0 * l.getD 1 0 = 1)
theorem isC_len {l : List Int} (h : isC l = true) : l.length = 4 := by
  unfold isC at h
  simp only [Bool.and_eq_true, decide_eq_true_eq] at h
  exact h.1
theorem isC4 {b c x y : Int} : isC [b, c, x, y] = true ↔ x * x + y * y - b * c = 1 := by
  unfold isC
  simp
theorem dbl4 (b c x y b' c' x' y' : Int) : dbl [b, c, x, y] [b', c', x', y'] = 2 * (x * x' + y * y') - b * c' - c * b' := rfl
theorem dbl_self {l : List Int} (h : isC l = true) : dbl l l = 2 := by
  obtain ⟨b, c, x, y, rfl⟩ := four_of (isC_len h)
  rw [isC4] at h
  rw [dbl4]
  grind
theorem isC_of {l : List Int} (h4 : l.length = 4) (h : dbl l l = 2) : isC l = true := by
  obtain ⟨b, c, x, y, rfl⟩ := four_of h4
  rw [dbl4] at h
  rw [isC4]
  grind
abbrev k_is_circle : Nat := 1
def ct_is_circle : Ct := fun ds r => ∃ (x : D) (l : List Int), ds = [x] ∧ seqD x = some (l.map D.int) ∧ (∀ z ∈ l, z.natAbs < 2 ^ 5000) ∧ r = .ok (.bl (isC l))
theorem b_is_circle {X : Cx} {W : WX} {k : Nat} (B : Bg X N_is_circle (defScope s_is_circle) k W) (py : Py X.mg) : BodyOk X N_is_circle (defScope s_is_circle) k W (defBody s_is_circle) 1 ct_is_circle := by
  intro ds r hl hc
  obtain ⟨x, l, rfl, hx, hb, rfl⟩ := hc
  refine dk_done ?_
  -- if len(circle) != 4:
  refine dk_if (dt_ne (de_len B.toBx py.len (de_var B.toBx 0) hx) de_int) (fun h1 => ?_) (fun h1 => ?_)
  · -- return False
    refine dk_leave (ds_ret de_bl) (show D.bl false = D.bl (isC l) from ?_)
    rw [List.length_map] at h1
    unfold isC
    rw [show decide (l.length = 4) = false from decide_eq_false (fun q => by rw [q] at h1; exact absurd h1 (by decide))]; rfl
  · refine dk_nil ?_
    rw [List.length_map] at h1
    have h4 : l.length = 4 := by
      by_cases q : ((l.length : Nat) : Int) = 4
      · omega
      · rw [decide_eq_false q] at h1; cases h1
    obtain ⟨b, c, u, v, rfl⟩ := four_of h4
    have hb1 : Sm 5000 b := hb b (by simp)
    have hb2 : Sm 5000 c := hb c (by simp)
    have hb3 : Sm 5000 u := hb u (by simp)
    have hb4 : Sm 5000 v := hb v (by simp)
    -- b, c, x, y = circle
    refine dk_cons (ds_asg (de_var B.toBx 0) (dg_tup B.toBd hx (dgs_cons (dg_name B.toBx 1) (dgs_cons (dg_name B.toBx 2) (dgs_cons (dg_name B.toBx 3) (dgs_cons (dg_name B.toBx 4) dgs_nil)))))) ?_
    -- return x * x + y * y - b * c == 1
    exact dk_leave (ds_ret (de_eq (de_sub (de_add (de_mul (de_var B.toBx 3) (de_var B.toBx 3) (Sm.mul hb3 hb3)) (de_mul (de_var B.toBx 4) (de_var B.toBx 4) (Sm.mul hb4 hb4))) (de_mul (de_var B.toBx 1) (de_var B.toBx 2) (Sm.mul hb1 hb2))) de_int)) rfl
abbrev k_check_circle : Nat := 2
def ct_check_circle : Ct := fun ds r => ∃ (x : D) (l : List Int), ds = [x] ∧ seqD x = some (l.map D.int) ∧ (∀ z ∈ l, z.natAbs < 2 ^ 5000) ∧ r = bif isC l then .ok .non else .ex "InvalidCircle" []
theorem b_check_circle {X : Cx} {W : WX} {k : Nat} (B : Bg X N_check_circle (defScope s_check_circle) k W) (hk : k_is_circle ≤ k) (py : Py X.mg) (c_is_circle : Fn X.prog X.w X.K X.mg X.base "is_circle" k_is_circle 1 ct_is_circle) (x_InvalidCircle : ExC X.K X.mg "InvalidCircle") : BodyOk X N_check_circle (defScope s_check_circle) k W (defBody s_check_circle) 1 ct_check_circle := by
  intro ds r hl hc
  obtain ⟨x, l, rfl, hx, hb, rfl⟩ := hc
  refine dk_done ?_
  -- if not is_circle(circle):
  refine dk_if (dt_not (dt_val (de_call B c_is_circle hk (da_cons (de_var B.toBx 0) da_nil) rfl ⟨x, l, rfl, hx, hb, rfl⟩))) (fun h1 => ?_) (fun h1 => ?_)
  · -- raise InvalidCircle('no circle')
    refine dk_leave (ds_raise B.toBd x_InvalidCircle) ?_
    rw [show isC l = false by simpa using h1]
    exact ⟨rfl, rfl⟩
  · refine dk_nil (dk_nil (dk_fin ?_))
    rw [show isC l = true by simpa using h1]
    exact True.intro
end Law

namespace Law
def oppF (l : List Int) : List Int := l.map fun z => -z
abbrev k_opposite : Nat := 3
def ct_opposite : Ct := fun ds r => ∃ (x : D) (l : List Int), ds = [x] ∧ seqD x = some (l.map D.int) ∧ (∀ z ∈ l, z.natAbs < 2 ^ 5000) ∧ r = bif isC l then .ok (qD (oppF l)) else .ex "InvalidCircle" []
theorem b_opposite {X : Cx} {W : WX} {k : Nat} (B : Bg X N_opposite (defScope s_opposite) k W) (hk : k_check_circle ≤ k) (py : Py X.mg) (c_check_circle : Fn X.prog X.w X.K X.mg X.base "check_circle" k_check_circle 1 ct_check_circle) : BodyOk X N_opposite (defScope s_opposite) k W (defBody s_opposite) 1 ct_opposite := by
  intro ds r hl hc
  obtain ⟨x, l, rfl, hx, hb, rfl⟩ := hc
  refine dk_done ?_
  cases hi : isC l with
  | false => exact dk_leave (ds_exprX (de_call B c_check_circle hk (da_cons (de_var B.toBx 0) da_nil) rfl ⟨x, l, rfl, hx, hb, by rw [hi]; rfl⟩)) ⟨rfl, rfl⟩
  | true =>
    -- check_circle(circle)
    refine dk_cons (ds_expr (d := .non) (de_call B c_check_circle hk (da_cons (de_var B.toBx 0) da_nil) rfl ⟨x, l, rfl, hx, hb, by rw [hi]; rfl⟩)) ?_
    -- return tuple([-part for part in circle])
    refine dk_leave (ds_ret (de_tupleL B.toBx py.tuple (df_lc B [("part", 1)] (di_seq (de_var B.toBx 0) hx) (dlc_map l (f := fun z => D.int (-z)) fun z hz => ⟨_, _, fun q1 => (dg_name (B.blk q1).toBx 1), by decide, fun _ => dts_nil, fun q1 => (de_neg (de_var (B.blk q1).toBx 1))⟩) ?_ (blkOk_by (by decide +kernel))).de rfl)) ?_
    · rw [List.length_map, isC_len hi]; decide
    · show D.tup _ = qD _
      unfold qD oppF
      rw [List.map_map]; rfl
end Law

namespace Law
/-! ### fours of circles, in plain Lean -/
theorem dbl_comm (p q : List Int) : dbl p q = dbl q p := by unfold dbl; grind
/-- four circles, any two of which touch -/
structure FourOk (cs : List (List Int)) : Prop where
  len : cs.length = 4
  each : ∀ p ∈ cs, p.length = 4 ∧ dbl p p = 2
  two : cs.Pairwise fun p q => dbl p q = -2
theorem FourOk.perm {cs ds : List (List Int)} (h : FourOk cs) (p : ds.Perm cs) : FourOk ds :=
  ⟨by rw [p.length_eq, h.len], fun q hq => h.each q (p.mem_iff.mp hq), (p.pairwise_iff fun {a b} e => by rw [dbl_comm]; exact e).mpr h.two⟩
theorem FourOk.circ {cs : List (List Int)} (h : FourOk cs) : ∀ p ∈ cs, isC p = true := fun p hp => isC_of (h.each p hp).1 (h.each p hp).2
theorem four_mk {p q r s : List Int} (lp : p.length = 4) (lq : q.length = 4) (lr : r.length = 4) (ls : s.length = 4) (pp : dbl p p = 2) (qq : dbl q q = 2) (rr : dbl r r = 2) (ss : dbl s s = 2)
    (pq : dbl p q = -2) (pr : dbl p r = -2) (ps : dbl p s = -2) (qr : dbl q r = -2) (qs : dbl q s = -2) (rs : dbl r s = -2) : FourOk [p, q, r, s] := by
  refine ⟨rfl, ?_, ?_⟩
  · intro z hz
    simp at hz
    rcases hz with e | e | e | e <;> subst e
    · exact ⟨lp, pp⟩
    · exact ⟨lq, qq⟩
    · exact ⟨lr, rr⟩
    · exact ⟨ls, ss⟩
  · simp [List.pairwise_cons, pq, pr, ps, qr, qs, rs]
theorem four_un {p q r s : List Int} (h : FourOk [p, q, r, s]) : (p.length = 4 ∧ q.length = 4 ∧ r.length = 4 ∧ s.length = 4) ∧ (dbl p p = 2 ∧ dbl q q = 2 ∧ dbl r r = 2 ∧ dbl s s = 2) ∧ (dbl p q = -2 ∧ dbl p r = -2 ∧ dbl p s = -2 ∧ dbl q r = -2 ∧ dbl q s = -2 ∧ dbl r s = -2) := by
  have h1 := h.each p (by simp)
  have h2 := h.each q (by simp)
  have h3 := h.each r (by simp)
  have h4 := h.each s (by simp)
  have t := h.two
  simp [List.pairwise_cons] at t
  exact ⟨⟨h1.1, h2.1, h3.1, h4.1⟩, ⟨h1.2, h2.2, h3.2, h4.2⟩, t.1.1, t.1.2.1, t.1.2.2, t.2.1.1, t.2.1.2, t.2.2⟩
/-- the other circle of a number -/
def otherF (cs : List (List Int)) (k : Nat) : List Int := (List.range 4).map fun part => 2 * (cs.map fun c => c.getD part 0).sum - 3 * (cs.getD k []).getD part 0
theorem otherF_len (cs : List (List Int)) (k : Nat) : (otherF cs k).length = 4 := by simp [otherF]
theorem dbl_other {p q r s : List Int} (k : Nat) (e : List Int) (c : List Int) (hc : ([p, q, r, s] : List (List Int)).getD k [] = c) : dbl (otherF [p, q, r, s] k) e = 2 * (dbl p e + dbl q e + dbl r e + dbl s e) - 3 * dbl c e := by
  unfold otherF
  rw [hc]
  show dbl [2 * ([p, q, r, s].map fun c => c.getD 0 0).sum - 3 * c.getD 0 0, 2 * ([p, q, r, s].map fun c => c.getD 1 0).sum - 3 * c.getD 1 0, 2 * ([p, q, r, s].map fun c => c.getD 2 0).sum - 3 * c.getD 2 0, 2 * ([p, q, r, s].map fun c => c.getD 3 0).sum - 3 * c.getD 3 0] e = _
  simp only [List.map_cons, List.map_nil, List.sum_cons, List.sum_nil]
  unfold dbl
  simp only [List.getD_cons_zero, List.getD_cons_succ]
  grind
theorem FourOk.other {cs : List (List Int)} (h : FourOk cs) {k : Nat} (hk : k < 4) : FourOk (cs.set k (otherF cs k)) := by
  obtain ⟨p, q, r, s, rfl⟩ := four_of h.len
  obtain ⟨⟨lp, lq, lr, ls⟩, ⟨pp, qq, rr, ss⟩, pq, pr, ps, qr, qs, rs⟩ := four_un h
  have qp := dbl_comm q p; have rp := dbl_comm r p; have sp := dbl_comm s p; have rq := dbl_comm r q; have sq := dbl_comm s q; have sr := dbl_comm s r
  have : k = 0 ∨ k = 1 ∨ k = 2 ∨ k = 3 := by omega
  rcases this with e | e | e | e <;> subst e
  · have op := dbl_other (p := p) (q := q) (r := r) (s := s) 0 p p rfl
    have oq := dbl_other (p := p) (q := q) (r := r) (s := s) 0 q p rfl
    have or_ := dbl_other (p := p) (q := q) (r := r) (s := s) 0 r p rfl
    have os := dbl_other (p := p) (q := q) (r := r) (s := s) 0 s p rfl
    have oo := dbl_other (p := p) (q := q) (r := r) (s := s) 0 (otherF [p, q, r, s] 0) p rfl
    have l := otherF_len [p, q, r, s] 0
    show FourOk [otherF [p, q, r, s] 0, q, r, s]
    generalize otherF [p, q, r, s] 0 = o at *
    rw [dbl_comm p o, dbl_comm q o, dbl_comm r o, dbl_comm s o] at oo
    exact four_mk l lq lr ls (by omega) qq rr ss (by omega) (by omega) (by omega) qr qs rs
  · have op := dbl_other (p := p) (q := q) (r := r) (s := s) 1 p q rfl
    have oq := dbl_other (p := p) (q := q) (r := r) (s := s) 1 q q rfl
    have or_ := dbl_other (p := p) (q := q) (r := r) (s := s) 1 r q rfl
    have os := dbl_other (p := p) (q := q) (r := r) (s := s) 1 s q rfl
    have oo := dbl_other (p := p) (q := q) (r := r) (s := s) 1 (otherF [p, q, r, s] 1) q rfl
    have l := otherF_len [p, q, r, s] 1
    show FourOk [p, otherF [p, q, r, s] 1, r, s]
    generalize otherF [p, q, r, s] 1 = o at *
    rw [dbl_comm p o, dbl_comm q o, dbl_comm r o, dbl_comm s o] at oo
    have po := dbl_comm p o
    exact four_mk lp l lr ls pp (by omega) rr ss (by omega) pr ps (by omega) (by omega) rs
  · have op := dbl_other (p := p) (q := q) (r := r) (s := s) 2 p r rfl
    have oq := dbl_other (p := p) (q := q) (r := r) (s := s) 2 q r rfl
    have or_ := dbl_other (p := p) (q := q) (r := r) (s := s) 2 r r rfl
    have os := dbl_other (p := p) (q := q) (r := r) (s := s) 2 s r rfl
    have oo := dbl_other (p := p) (q := q) (r := r) (s := s) 2 (otherF [p, q, r, s] 2) r rfl
    have l := otherF_len [p, q, r, s] 2
    show FourOk [p, q, otherF [p, q, r, s] 2, s]
    generalize otherF [p, q, r, s] 2 = o at *
    rw [dbl_comm p o, dbl_comm q o, dbl_comm r o, dbl_comm s o] at oo
    have po := dbl_comm p o; have qo := dbl_comm q o
    exact four_mk lp lq l ls pp qq (by omega) ss pq (by omega) ps (by omega) qs (by omega)
  · have op := dbl_other (p := p) (q := q) (r := r) (s := s) 3 p s rfl
    have oq := dbl_other (p := p) (q := q) (r := r) (s := s) 3 q s rfl
    have or_ := dbl_other (p := p) (q := q) (r := r) (s := s) 3 r s rfl
    have os := dbl_other (p := p) (q := q) (r := r) (s := s) 3 s s rfl
    have oo := dbl_other (p := p) (q := q) (r := r) (s := s) 3 (otherF [p, q, r, s] 3) s rfl
    have l := otherF_len [p, q, r, s] 3
    show FourOk [p, q, r, otherF [p, q, r, s] 3]
    generalize otherF [p, q, r, s] 3 = o at *
    rw [dbl_comm p o, dbl_comm q o, dbl_comm r o, dbl_comm s o] at oo
    have po := dbl_comm p o; have qo := dbl_comm q o; have ro := dbl_comm r o
    exact four_mk lp lq lr l pp qq rr (by omega) pq pr (by omega) qr (by omega) (by omega)
theorem mem_getD4 {l : List Int} {n : Nat} (h : Sq n l) (i : Nat) : (l.getD i 0).natAbs < 2 ^ n := by
  rw [List.getD_eq_getElem?_getD]
  cases e : l[i]? with
  | none => simp; exact Nat.two_pow_pos n
  | some z => exact h.2 z (List.mem_of_getElem? e)
theorem other_bd {cs : List (List Int)} {n k : Nat} (hl : cs.length = 4) (h : ∀ p ∈ cs, Sq n p) (hk : k < 4) : Sq (n + 4) (otherF cs k) := by
  refine ⟨otherF_len _ _, fun z hz => ?_⟩
  obtain ⟨part, _, rfl⟩ := List.mem_map.mp hz
  obtain ⟨p, q, r, s, rfl⟩ := four_of hl
  have hp := mem_getD4 (h p (by simp)) part
  have hq := mem_getD4 (h q (by simp)) part
  have hr := mem_getD4 (h r (by simp)) part
  have hs := mem_getD4 (h s (by simp)) part
  have e : 2 ^ (n + 4) = 16 * 2 ^ n := by rw [Nat.pow_add]; omega
  rw [e]
  simp only [List.map_cons, List.map_nil, List.sum_cons, List.sum_nil]
  have : k = 0 ∨ k = 1 ∨ k = 2 ∨ k = 3 := by omega
  generalize 2 ^ n = m at *
  rcases this with e | e | e | e <;> subst e <;> simp only [List.getD_cons_zero, List.getD_cons_succ] <;> omega
/-! the given ones -/
def nFour (n : Int) : List (List Int) := [[0 - n, 0, 1, 0], [n + 1, 0, -1, 0], [n * (n + 1), 4, 0 - 2 * n - 1, 0], [n * (n + 1) + 1, 4, 0 - 2 * n - 1, 2]]
def givenN (z : Int) : Int := ([0, 1, 2, 1 + z / 7 % 40] : List Int).getD (z % 7).toNat 0
def givenF (z : Int) : List (List Int) :=
  bif decide (z % 7 = 4) then [[-3, 0, 1, 0], [5, 0, -1, 0], [8, 2, -4, 1], [8, 2, -4, -1]]
  else bif decide (z % 7 = 5) then [[0, 2, 0, 1], [0, 2, 0, -1], [1, -1, 0, 0], [1, 3, 2, 0]]
  else bif decide (z % 7 = 6) then [[0, 1, 0, 1], [0, 1, 0, -1], [2, 0, 1, 0], [2, 4, 3, 0]]
  else nFour (givenN z)
theorem nFour_ok (n : Int) : FourOk (nFour n) := by
  unfold nFour
  refine four_mk rfl rfl rfl rfl ?_ ?_ ?_ ?_ ?_ ?_ ?_ ?_ ?_ ?_ <;> rw [dbl4] <;> grind
theorem givenN_bd (z : Int) : 0 ≤ givenN z ∧ givenN z ≤ 40 := by
  unfold givenN
  have h0 := Int.emod_nonneg z (show (7 : Int) ≠ 0 by decide)
  have h1 := Int.emod_lt_of_pos z (show (0 : Int) < 7 by decide)
  have g0 := Int.emod_nonneg (z / 7) (show (40 : Int) ≠ 0 by decide)
  have g1 := Int.emod_lt_of_pos (z / 7) (show (0 : Int) < 40 by decide)
  generalize z % 7 = j at *
  generalize z / 7 % 40 = i at *
  have : j = 0 ∨ j = 1 ∨ j = 2 ∨ j = 3 ∨ j = 4 ∨ j = 5 ∨ j = 6 := by omega
  rcases this with e | e | e | e | e | e | e <;> subst e <;> simp <;> omega
theorem givenF_ok (z : Int) : FourOk (givenF z) ∧ ∀ p ∈ givenF z, Sq 12 p := by
  unfold givenF
  cases decide (z % 7 = 4) with
  | true => exact ⟨four_mk rfl rfl rfl rfl (by decide) (by decide) (by decide) (by decide) (by decide) (by decide) (by decide) (by decide) (by decide) (by decide), by simp only [cond_true]; unfold Sq; decide⟩
  | false =>
    cases decide (z % 7 = 5) with
    | true => exact ⟨four_mk rfl rfl rfl rfl (by decide) (by decide) (by decide) (by decide) (by decide) (by decide) (by decide) (by decide) (by decide) (by decide), by simp only [cond_true, cond_false]; unfold Sq; decide⟩
    | false =>
      cases decide (z % 7 = 6) with
      | true => exact ⟨four_mk rfl rfl rfl rfl (by decide) (by decide) (by decide) (by decide) (by decide) (by decide) (by decide) (by decide) (by decide) (by decide), by simp only [cond_true, cond_false]; unfold Sq; decide⟩
      | false =>
        refine ⟨nFour_ok _, ?_⟩
        simp only [cond_false]
        obtain ⟨h0, h1⟩ := givenN_bd z
        generalize givenN z = n at h0 h1
        have h2 : 0 ≤ n * (n + 1) := Int.mul_nonneg h0 (by omega)
        have h3 : n * (n + 1) ≤ 40 * 41 := Int.mul_le_mul h1 (by omega) (by omega) (by omega)
        intro p hp
        unfold nFour at hp
        simp at hp
        rcases hp with e | e | e | e <;> subst e <;> refine ⟨rfl, fun z hz => ?_⟩ <;> simp at hz <;> omega
/-! turned, mirrored, moved -/
def mvF (l : List Int) (s t : Int) : List Int := [l.getD 0 0, l.getD 1 0 + 2 * (l.getD 2 0 * s + l.getD 3 0 * t) + l.getD 0 0 * (s * s + t * t), l.getD 2 0 + l.getD 0 0 * s, l.getD 3 0 + l.getD 0 0 * t]
def rotF (l : List Int) : List Int := [l.getD 0 0, l.getD 1 0, 0 - l.getD 3 0, l.getD 2 0]
def flipF (l : List Int) : List Int := [l.getD 0 0, l.getD 1 0, 0 - l.getD 2 0, l.getD 3 0]
theorem dbl_mv (p q : List Int) (s t : Int) : dbl (mvF p s t) (mvF q s t) = dbl p q := by
  unfold mvF dbl
  simp only [List.getD_cons_zero, List.getD_cons_succ]
  grind
theorem dbl_rot (p q : List Int) : dbl (rotF p) (rotF q) = dbl p q := by
  unfold rotF dbl
  simp only [List.getD_cons_zero, List.getD_cons_succ]
  grind
theorem dbl_flip (p q : List Int) : dbl (flipF p) (flipF q) = dbl p q := by
  unfold flipF dbl
  simp only [List.getD_cons_zero, List.getD_cons_succ]
  grind
theorem FourOk.map {cs : List (List Int)} (h : FourOk cs) (f : List Int → List Int) (hl : ∀ p ∈ cs, (f p).length = 4) (hd : ∀ p q, dbl (f p) (f q) = dbl p q) : FourOk (cs.map f) := by
  refine ⟨by simp [h.len], fun q hq => ?_, ?_⟩
  · obtain ⟨p, hp, rfl⟩ := List.mem_map.mp hq
    exact ⟨hl p hp, by rw [hd]; exact (h.each p hp).2⟩
  · rw [List.pairwise_map]
    exact h.two.imp fun {a b} e => by rw [hd]; exact e
def rotsF (m : Nat) (l : List Int) : List Int := (List.range m).foldl (fun l (_ : Nat) => rotF l) l
theorem rots_dbl (p q : List Int) : ∀ (is : List Nat) (p q : List Int), dbl (is.foldl (fun l (_ : Nat) => rotF l) p) (is.foldl (fun l (_ : Nat) => rotF l) q) = dbl p q
  | [], _, _ => rfl
  | _ :: is, p, q => by rw [List.foldl_cons, List.foldl_cons, rots_dbl p q is, dbl_rot]
theorem rot_sq {n : Nat} {l : List Int} (h : Sq n l) : Sq n (rotF l) := by
  refine ⟨rfl, fun z hz => ?_⟩
  have h0 := mem_getD4 h 0; have h1 := mem_getD4 h 1; have h2 := mem_getD4 h 2; have h3 := mem_getD4 h 3
  unfold rotF at hz
  generalize 2 ^ n = m at *
  simp only [List.mem_cons, List.not_mem_nil, or_false] at hz
  rcases hz with e | e | e | e <;> omega
theorem rots_sq {n : Nat} : ∀ (is : List Nat) {l : List Int}, Sq n l → Sq n (is.foldl (fun l (_ : Nat) => rotF l) l)
  | [], _, h => h
  | _ :: is, l, h => rots_sq is (rot_sq h)
theorem flip_sq {n : Nat} {l : List Int} (h : Sq n l) : Sq n (flipF l) := by
  refine ⟨rfl, fun z hz => ?_⟩
  have h0 := mem_getD4 h 0; have h1 := mem_getD4 h 1; have h2 := mem_getD4 h 2; have h3 := mem_getD4 h 3
  unfold flipF at hz
  generalize 2 ^ n = m at *
  simp only [List.mem_cons, List.not_mem_nil, or_false] at hz
  rcases hz with e | e | e | e <;> omega
theorem mulA {x y : Int} {m c : Nat} (hx : x.natAbs < m) (hy : y.natAbs ≤ c) : (x * y).natAbs ≤ m * c := by
  rw [Int.natAbs_mul]; exact Nat.mul_le_mul (Nat.le_of_lt hx) hy
theorem mv_sq {n : Nat} {l : List Int} {s t : Int} (h : Sq n l) (hs : s.natAbs ≤ 4000) (ht : t.natAbs ≤ 4000) : Sq (n + 30) (mvF l s t) := by
  refine ⟨rfl, fun z hz => ?_⟩
  have h0 := mem_getD4 h 0; have h1 := mem_getD4 h 1; have h2 := mem_getD4 h 2; have h3 := mem_getD4 h 3
  have hss : (s * s).natAbs ≤ 16000000 := by rw [Int.natAbs_mul]; exact Nat.mul_le_mul hs hs
  have htt : (t * t).natAbs ≤ 16000000 := by rw [Int.natAbs_mul]; exact Nat.mul_le_mul ht ht
  have a1 := mulA h2 hs; have a2 := mulA h3 ht; have a3 := mulA h0 hs; have a4 := mulA h0 ht
  have a5 : (l.getD 0 0 * (s * s + t * t)).natAbs ≤ 2 ^ n * 32000000 := mulA h0 (by omega)
  have e : 2 ^ (n + 30) = 1073741824 * 2 ^ n := by rw [Nat.pow_add]; omega
  rw [e]
  unfold mvF at hz
  generalize 2 ^ n = m at *
  simp only [List.mem_cons, List.not_mem_nil, or_false] at hz
  rcases hz with e | e | e | e <;> omega
def stepN (zs : List Int) (a : Int) (i : Int) : Int := nth zs (a + i) % (2 * ([0, 9, 1009] : List Int).getD (nth zs (a + 1) % 3).toNat 0 + 1) - ([0, 9, 1009] : List Int).getD (nth zs (a + 1) % 3).toNat 0
def faceF (zs : List Int) (a : Int) (l : List Int) : List Int := bif decide (nth zs a / 4 % 2 = 1) then flipF (rotsF (nth zs a % 4).toNat l) else rotsF (nth zs a % 4).toNat l
def laidF (zs : List Int) (a : Int) (l : List Int) : List Int := mvF (faceF zs a l) (stepN zs a 2) (stepN zs a 3)
theorem most_bd (z : Int) : ([0, 9, 1009] : List Int).getD (z % 3).toNat 0 = 0 ∨ ([0, 9, 1009] : List Int).getD (z % 3).toNat 0 = 9 ∨ ([0, 9, 1009] : List Int).getD (z % 3).toNat 0 = 1009 := by
  have h0 := Int.emod_nonneg z (show (3 : Int) ≠ 0 by decide)
  have h1 := Int.emod_lt_of_pos z (show (0 : Int) < 3 by decide)
  generalize z % 3 = j at *
  have : j = 0 ∨ j = 1 ∨ j = 2 := by omega
  rcases this with e | e | e <;> subst e <;> decide
theorem stepN_bd (zs : List Int) (a i : Int) : (stepN zs a i).natAbs ≤ 1009 := by
  unfold stepN
  rcases most_bd (nth zs (a + 1)) with e | e | e <;> rw [e] <;> omega
theorem face_dbl (zs : List Int) (a : Int) (p q : List Int) : dbl (faceF zs a p) (faceF zs a q) = dbl p q := by
  unfold faceF rotsF
  cases decide (nth zs a / 4 % 2 = 1) with
  | true => simp only [cond_true]; rw [dbl_flip]; exact rots_dbl p q _ p q
  | false => exact rots_dbl p q _ p q
theorem laid_dbl (zs : List Int) (a : Int) (p q : List Int) : dbl (laidF zs a p) (laidF zs a q) = dbl p q := by
  unfold laidF
  rw [dbl_mv, face_dbl]
theorem face_sq {n : Nat} {zs : List Int} {a : Int} {l : List Int} (h : Sq n l) : Sq n (faceF zs a l) := by
  unfold faceF rotsF
  cases decide (nth zs a / 4 % 2 = 1) with
  | true => exact flip_sq (rots_sq _ h)
  | false => exact rots_sq _ h
theorem laid_sq {n : Nat} {zs : List Int} {a : Int} {l : List Int} (h : Sq n l) : Sq (n + 30) (laidF zs a l) :=
  mv_sq (face_sq h) (by have := stepN_bd zs a 2; omega) (by have := stepN_bd zs a 3; omega)
/-! exchanged along a word -/
def fallenF (cs : List (List Int)) (w : List Int) : List (List Int) := w.foldl (fun cs k => cs.set k.toNat (otherF cs k.toNat)) cs
theorem fallen_ok : ∀ (w : List Int) (cs : List (List Int)) (n : Nat), FourOk cs → (∀ p ∈ cs, Sq n p) → (∀ k ∈ w, 0 ≤ k ∧ k < 4) → FourOk (fallenF cs w) ∧ ∀ p ∈ fallenF cs w, Sq (n + 4 * w.length) p
  | [], cs, n, h, hs, _ => ⟨h, hs⟩
  | k :: w, cs, n, h, hs, hk => by
    have k0 := hk k List.mem_cons_self
    obtain ⟨g1, g2⟩ := fallen_ok w _ (n + 4) (h.other (k := k.toNat) (by omega)) (fun p hp => by
      rcases List.mem_or_eq_of_mem_set hp with e | e
      · exact (hs p e).mono (by omega)
      · rw [e]; exact other_bd h.len hs (by omega)) fun j hj => hk j (List.mem_cons_of_mem _ hj)
    exact ⟨g1, fun p hp => (g2 p hp).mono (by simp only [List.length_cons]; omega)⟩
def wordK (zs : List Int) (a m : Int) : List Int := (List.range m.toNat).map fun i : Nat => nth zs (a + (0 + (i : Int))) % 4
def four0 (zs : List Int) (a : Int) : List (List Int) := (givenF (nth zs a)).map (laidF zs (a + 1))
def four1 (zs : List Int) (a : Int) : List (List Int) := fallenF (four0 zs a) (wordK zs (a + 6) (nth zs (a + 5) % 7))
def four2 (zs : List Int) (a : Int) : List (List Int) := (four1 zs a).drop (nth zs (a + 12) % 4).toNat ++ (four1 zs a).take (nth zs (a + 12) % 4).toNat
def fourF (zs : List Int) (a : Int) : List (List Int) := bif decide (nth zs (a + 13) % 2 = 1) then (four2 zs a).reverse else four2 zs a
theorem four0_ok (zs : List Int) (a : Int) : FourOk (four0 zs a) ∧ ∀ p ∈ four0 zs a, Sq 42 p := by
  obtain ⟨h1, h2⟩ := givenF_ok (nth zs a)
  refine ⟨h1.map _ (fun p hp => rfl) (laid_dbl zs (a + 1)), fun p hp => ?_⟩
  obtain ⟨q, hq, rfl⟩ := List.mem_map.mp hp
  exact laid_sq (h2 q hq)
theorem four1_ok (zs : List Int) (a : Int) : FourOk (four1 zs a) ∧ ∀ p ∈ four1 zs a, Sq 80 p := by
  obtain ⟨h1, h2⟩ := four0_ok zs a
  have m7 := mod_bd (nth zs (a + 5)) 7
  obtain ⟨g1, g2⟩ := fallen_ok (wordK zs (a + 6) (nth zs (a + 5) % 7)) _ 42 h1 h2 fun k hk => by
    obtain ⟨i, _, rfl⟩ := List.mem_map.mp hk
    exact mod_bd _ 4
  exact ⟨g1, fun p hp => (g2 p hp).mono (by simp [wordK]; omega)⟩
theorem four2_perm (zs : List Int) (a : Int) : (four2 zs a).Perm (four1 zs a) := by
  unfold four2
  exact List.perm_append_comm.trans (by rw [List.take_append_drop])
theorem fourF_perm (zs : List Int) (a : Int) : (fourF zs a).Perm (four1 zs a) := by
  unfold fourF
  cases decide (nth zs (a + 13) % 2 = 1) with
  | true => exact (List.reverse_perm _).trans (four2_perm zs a)
  | false => exact four2_perm zs a
theorem fourF_ok (zs : List Int) (a : Int) : FourOk (fourF zs a) ∧ ∀ p ∈ fourF zs a, Sq 80 p :=
  ⟨(four1_ok zs a).1.perm (fourF_perm zs a), fun p hp => (four1_ok zs a).2 p ((fourF_perm zs a).mem_iff.mp hp)⟩
end Law

namespace Law
abbrev k__law_given : Nat := 1
def ct__law_given : Ct := fun ds r => ∃ z : Int, ds = [.int z] ∧ r = .ok (.lst ((givenF z).map qD))
theorem b__law_given {X : Cx} {W : WX} {k : Nat} (B : Bg X N__law_given (defScope s__law_given) k W) (py : Py X.mg) : BodyOk X N__law_given (defScope s__law_given) k W (defBody s__law_given) 1 ct__law_given := by
  intro ds r hl hc
  obtain ⟨z, rfl, rfl⟩ := hc
  refine dk_done ?_
  -- _law_k = int(_law_number) % 7
  refine dk_cons (ds_set B.toBx 1 (de_mod (de_int1 B.toBx py.int (de_var B.toBx 0)) de_int (by decide))) ?_
  -- if _law_k == 4:
  refine dk_if (dt_eq (de_var B.toBx 1) de_int) (fun h1 => ?_) (fun h1 => ?_)
  · refine dk_leave (ds_ret ((df_lst (da_cons (de_tup (da_cons (de_neg de_int) (da_cons de_int (da_cons de_int (da_cons de_int da_nil))))) (da_cons (de_tup (da_cons de_int (da_cons de_int (da_cons (de_neg de_int) (da_cons de_int da_nil))))) (da_cons (de_tup (da_cons de_int (da_cons de_int (da_cons (de_neg de_int) (da_cons de_int da_nil))))) (da_cons (de_tup (da_cons de_int (da_cons de_int (da_cons (de_neg de_int) (da_cons (de_neg de_int) da_nil))))) da_nil)))))).de) ?_
    unfold givenF
    rw [show decide (z % 7 = 4) = true from h1]; rfl
  refine dk_nil ?_
  -- if _law_k == 5:
  refine dk_if (dt_eq (de_var B.toBx 1) de_int) (fun h2 => ?_) (fun h2 => ?_)
  · refine dk_leave (ds_ret ((df_lst (da_cons (de_tup (da_cons de_int (da_cons de_int (da_cons de_int (da_cons de_int da_nil))))) (da_cons (de_tup (da_cons de_int (da_cons de_int (da_cons de_int (da_cons (de_neg de_int) da_nil))))) (da_cons (de_tup (da_cons de_int (da_cons (de_neg de_int) (da_cons de_int (da_cons de_int da_nil))))) (da_cons (de_tup (da_cons de_int (da_cons de_int (da_cons de_int (da_cons de_int da_nil))))) da_nil)))))).de) ?_
    unfold givenF
    rw [show decide (z % 7 = 4) = false from h1, show decide (z % 7 = 5) = true from h2]; rfl
  refine dk_nil ?_
  -- if _law_k == 6:
  refine dk_if (dt_eq (de_var B.toBx 1) de_int) (fun h3 => ?_) (fun h3 => ?_)
  · refine dk_leave (ds_ret ((df_lst (da_cons (de_tup (da_cons de_int (da_cons de_int (da_cons de_int (da_cons de_int da_nil))))) (da_cons (de_tup (da_cons de_int (da_cons de_int (da_cons de_int (da_cons (de_neg de_int) da_nil))))) (da_cons (de_tup (da_cons de_int (da_cons de_int (da_cons de_int (da_cons de_int da_nil))))) (da_cons (de_tup (da_cons de_int (da_cons de_int (da_cons de_int (da_cons de_int da_nil))))) da_nil)))))).de) ?_
    unfold givenF
    rw [show decide (z % 7 = 4) = false from h1, show decide (z % 7 = 5) = false from h2, show decide (z % 7 = 6) = true from h3]; rfl
  refine dk_nil ?_
  have m7 := mod_bd z 7
  have e4 := of_decide_eq_false h1
  have e5 := of_decide_eq_false h2
  have e6 := of_decide_eq_false h3
  obtain ⟨n0, n1⟩ := givenN_bd z
  -- _law_n = [0, 1, 2, 1 + int(_law_number) // 7 % 40][_law_k]
  refine dk_cons (ds_set B.toBx 2 ((de_ixL ((df_lst (da_cons de_int (da_cons de_int (da_cons de_int (da_cons (de_add de_int (de_mod (de_fdiv (de_int1 B.toBx py.int (de_var B.toBx 0)) de_int (divW (by decide))) de_int (by decide))) da_nil))) ) (show (4 : Nat) ≤ sizeLine by decide)).of_eq (ds' := ([0, 1, 2, 1 + z / 7 % 40] : List Int).map D.int) rfl).de (de_var B.toBx 1) (atI_ints m7.1 (show z % 7 < 4 by omega))).ofD (show _ = D.int (givenN z) from rfl))) ?_
  generalize hn : givenN z = n at n0 n1
  -- _law_area = _law_n * (_law_n + 1)
  refine dk_cons (ds_set B.toBx 3 (de_mul (de_var B.toBx 2) (de_add (de_var B.toBx 2) de_int) (Sm.mul (n := 8) (m := 8) (show n.natAbs < 2 ^ 8 by omega) (show (n + 1).natAbs < 2 ^ 8 by omega)))) ?_
  refine dk_leave (ds_ret ((df_lst (da_cons (de_tup (da_cons (de_sub de_int (de_var B.toBx 2)) (da_cons de_int (da_cons de_int (da_cons de_int da_nil)))) (show (4 : Nat) ≤ sizeLine by decide)) (da_cons (de_tup (da_cons (de_add (de_var B.toBx 2) de_int) (da_cons de_int (da_cons (de_neg de_int) (da_cons de_int da_nil)))) (show (4 : Nat) ≤ sizeLine by decide)) (da_cons (de_tup (da_cons (de_var B.toBx 3) (da_cons de_int (da_cons (de_sub (de_sub de_int (de_mul de_int (de_var B.toBx 2) (mulL (by decide)))) de_int) (da_cons de_int da_nil)))) (show (4 : Nat) ≤ sizeLine by decide)) (da_cons (de_tup (da_cons (de_add (de_var B.toBx 3) de_int) (da_cons de_int (da_cons (de_sub (de_sub de_int (de_mul de_int (de_var B.toBx 2) (mulL (by decide)))) de_int) (da_cons de_int da_nil)))) (show (4 : Nat) ≤ sizeLine by decide)) da_nil)))) (show (4 : Nat) ≤ sizeLine by decide)).de)) ?_
  unfold givenF nFour
  rw [show decide (z % 7 = 4) = false from h1, show decide (z % 7 = 5) = false from h2, show decide (z % 7 = 6) = false from h3, hn]; rfl
abbrev k__law_moved : Nat := 1
def ct__law_moved : Ct := fun ds r => ∃ (l : List Int) (s t : Int), ds = [qD l, .int s, .int t] ∧ Sq 4000 l ∧ s.natAbs ≤ 4000 ∧ t.natAbs ≤ 4000 ∧ r = .ok (qD (mvF l s t))
theorem b__law_moved {X : Cx} {W : WX} {k : Nat} (B : Bg X N__law_moved (defScope s__law_moved) k W) (py : Py X.mg) : BodyOk X N__law_moved (defScope s__law_moved) k W (defBody s__law_moved) 3 ct__law_moved := by
  intro ds r hl hc
  obtain ⟨l, s, t, rfl, hs4, hs, ht, rfl⟩ := hc
  obtain ⟨b, c, x, y, rfl⟩ := four_of hs4.1
  have hb : Sm 4000 b := hs4.2 b (by simp)
  have hx : Sm 4000 x := hs4.2 x (by simp)
  have hy : Sm 4000 y := hs4.2 y (by simp)
  have gs : Sm 13 s := show s.natAbs < 2 ^ 13 by omega
  have gt : Sm 13 t := show t.natAbs < 2 ^ 13 by omega
  have hss : (s * s).natAbs ≤ 16000000 := by rw [Int.natAbs_mul]; exact Nat.mul_le_mul hs hs
  have htt : (t * t).natAbs ≤ 16000000 := by rw [Int.natAbs_mul]; exact Nat.mul_le_mul ht ht
  have gq : Sm 30 (s * s + t * t) := show (s * s + t * t).natAbs < 2 ^ 30 by omega
  refine dk_done ?_
  -- _law_b, _law_c, _law_x, _law_y = _law_circle
  refine dk_cons (ds_asg (de_var B.toBx 0) (dg_tup B.toBd rfl (dgs_cons (dg_name B.toBx 3) (dgs_cons (dg_name B.toBx 4) (dgs_cons (dg_name B.toBx 5) (dgs_cons (dg_name B.toBx 6) dgs_nil)))))) ?_
  exact dk_leave (ds_ret (de_tup (da_cons (de_var B.toBx 3) (da_cons (de_add (de_add (de_var B.toBx 4) (de_mul de_int (de_add (de_mul (de_var B.toBx 5) (de_var B.toBx 1) (Sm.mul hx gs)) (de_mul (de_var B.toBx 6) (de_var B.toBx 2) (Sm.mul hy gt))) (mulL (by decide)))) (de_mul (de_var B.toBx 3) (de_add (de_mul (de_var B.toBx 1) (de_var B.toBx 1) (Sm.mul gs gs)) (de_mul (de_var B.toBx 2) (de_var B.toBx 2) (Sm.mul gt gt))) (Sm.mul hb gq))) (da_cons (de_add (de_var B.toBx 5) (de_mul (de_var B.toBx 3) (de_var B.toBx 1) (Sm.mul hb gs))) (da_cons (de_add (de_var B.toBx 6) (de_mul (de_var B.toBx 3) (de_var B.toBx 2) (Sm.mul hb gt))) da_nil)))) (show (4 : Nat) ≤ sizeLine by decide))) rfl
abbrev k__law_laid : Nat := 2
def ct__law_laid : Ct := fun ds r => ∃ (zs : List Int) (a : Int) (l : List Int), ds = [.lst (zs.map D.int), .int a, qD l] ∧ 0 ≤ a ∧ a + 4 ≤ (zs.length : Int) ∧ Sq 4000 l ∧ r = .ok (qD (laidF zs a l))
theorem b__law_laid {X : Cx} {W : WX} {k : Nat} (B : Bg X N__law_laid (defScope s__law_laid) k W) (hk : k__law_moved ≤ k) (py : Py X.mg) (c__law_moved : Fn X.prog X.w X.K X.mg X.base "_law_moved" k__law_moved 3 ct__law_moved) : BodyOk X N__law_laid (defScope s__law_laid) k W (defBody s__law_laid) 3 ct__law_laid := by
  intro ds r hl hc
  obtain ⟨zs, a, l, rfl, h0, h1, hs4, rfl⟩ := hc
  have at_ : ∀ i : Int, 0 ≤ i → i < a + 4 → atI (zs.map D.int) i = some (D.int (nth zs i)) := fun i g0 g1 => atI_ints g0 (by omega)
  have hf4 := face_sq (zs := zs) (a := a) hs4
  have m4 := mod_bd (nth zs a) 4
  have m3 := mod_bd (nth zs (a + 1)) 3
  obtain ⟨b, c, x, y, rfl⟩ := four_of hs4.1
  refine dk_done ?_
  -- _law_b, _law_c, _law_x, _law_y = _law_circle
  refine dk_cons (ds_asg (de_var B.toBx 2) (dg_tup B.toBd rfl (dgs_cons (dg_name B.toBx 3) (dgs_cons (dg_name B.toBx 4) (dgs_cons (dg_name B.toBx 5) (dgs_cons (dg_name B.toBx 6) dgs_nil)))))) ?_
  -- for _law_k in range(int(_law_numbers_here[_law_at]) % 4):
  refine dk_cons (ds_for B.toBd (di_range1 B.toBx py.range (de_mod (de_int1 B.toBx py.int (de_ixL (de_var B.toBx 0) (de_var B.toBx 1) (at_ a h0 (by omega)))) de_int (by decide)) (by omega)) (DFor.foldP (fun p : List Int => [Sl.val (.lst (zs.map D.int)), .val (.int a), .val (qD [b, c, x, y]), .val (.int (p.getD 0 0)), .val (.int (p.getD 1 0)), .val (.int (p.getD 2 0)), .val (.int (p.getD 3 0)), .any, .any, .any, .any]) (fun i : Nat => D.int (0 + (i : Int))) (fun p (_ : Nat) => rotF p) (fun _ _ => True) (List.range (nth zs a % 4).toNat) [] [b, c, x, y] True.intro ?_).1) ?_
  · intro pre i post p hp _
    refine ⟨⟨_, _, dg_name B.toBx 7, ?_⟩, True.intro⟩
    -- _law_x, _law_y = (0 - _law_y, _law_x)
    refine dk_cons (ds_par B.toBd 5 6 (da_cons (de_sub de_int (de_var B.toBx 6)) (da_cons (de_var B.toBx 5) da_nil))) ?_
    refine dk_nil (dk_fin (goes_nx ?_))
    unfold rotF
    walk_at "le"
  -- if int(_law_numbers_here[_law_at]) // 4 % 2 == 1:
  refine dk_meet (ρT := [Sl.val (.lst (zs.map D.int)), .val (.int a), .any, .val (.int ((faceF zs a [b, c, x, y]).getD 0 0)), .val (.int ((faceF zs a [b, c, x, y]).getD 1 0)), .val (.int ((faceF zs a [b, c, x, y]).getD 2 0)), .val (.int ((faceF zs a [b, c, x, y]).getD 3 0)), .any, .any, .any, .any]) (dt_eq (de_mod (de_fdiv (de_int1 B.toBx py.int (de_ixL (de_var B.toBx 0) (de_var B.toBx 1) (at_ a h0 (by omega)))) de_int (divW (by decide))) de_int (by decide)) de_int) (fun h2 => ?_) (fun h2 => ?_) ?_
  · -- _law_x = 0 - _law_x
    refine dk_cons (ds_set B.toBx 5 (de_sub de_int (de_var B.toBx 5))) ?_
    refine dk_nil (dk_fin (meets ?_))
    unfold faceF flipF rotsF
    rw [show decide (nth zs a / 4 % 2 = 1) = true from h2]
    walk_at "le"
  · refine dk_nil (dk_fin (meets ?_))
    unfold faceF rotsF
    rw [show decide (nth zs a / 4 % 2 = 1) = false from h2]
    walk_at "le"
  obtain ⟨b', c', x', y', hface⟩ := four_of hf4.1
  unfold laidF
  rw [hface] at hf4 ⊢
  have mb := most_bd (nth zs (a + 1))
  -- _law_most = [0, 9, 1009][int(_law_numbers_here[_law_at + 1]) % 3]
  refine dk_cons (ds_set B.toBx 8 (de_ixL ((df_lst (da_cons de_int (da_cons de_int (da_cons de_int da_nil)))).of_eq (ds' := ([0, 9, 1009] : List Int).map D.int) rfl).de (de_mod (de_int1 B.toBx py.int (de_ixL (de_var B.toBx 0) (de_add (de_var B.toBx 1) de_int) (at_ (a + 1) (by omega) (by omega)))) de_int (by decide)) (atI_ints m3.1 m3.2))) ?_
  have bs := stepN_bd zs a 2
  have bt := stepN_bd zs a 3
  have es : stepN zs a 2 = nth zs (a + 2) % (2 * ([0, 9, 1009] : List Int).getD (nth zs (a + 1) % 3).toNat 0 + 1) - ([0, 9, 1009] : List Int).getD (nth zs (a + 1) % 3).toNat 0 := rfl
  have et : stepN zs a 3 = nth zs (a + 3) % (2 * ([0, 9, 1009] : List Int).getD (nth zs (a + 1) % 3).toNat 0 + 1) - ([0, 9, 1009] : List Int).getD (nth zs (a + 1) % 3).toNat 0 := rfl
  generalize ([0, 9, 1009] : List Int).getD (nth zs (a + 1) % 3).toNat 0 = mo at mb es et
  -- _law_s = int(_law_numbers_here[_law_at + 2]) % (2 * _law_most + 1) - _law_most
  refine dk_cons (ds_set B.toBx 9 ((de_sub (de_mod (de_int1 B.toBx py.int (de_ixL (de_var B.toBx 0) (de_add (de_var B.toBx 1) de_int) (at_ (a + 2) (by omega) (by omega)))) (de_add (de_mul de_int (de_var B.toBx 8) (mulL (by decide))) de_int) (by omega)) (de_var B.toBx 8)).ofD (show _ = D.int (stepN zs a 2) by rw [es]))) ?_
  -- _law_t = int(_law_numbers_here[_law_at + 3]) % (2 * _law_most + 1) - _law_most
  refine dk_cons (ds_set B.toBx 10 ((de_sub (de_mod (de_int1 B.toBx py.int (de_ixL (de_var B.toBx 0) (de_add (de_var B.toBx 1) de_int) (at_ (a + 3) (by omega) (by omega)))) (de_add (de_mul de_int (de_var B.toBx 8) (mulL (by decide))) de_int) (by omega)) (de_var B.toBx 8)).ofD (show _ = D.int (stepN zs a 3) by rw [et]))) ?_
  -- return _law_moved((_law_b, _law_c, _law_x, _law_y), _law_s, _law_t)
  exact dk_leave (ds_ret (de_call B c__law_moved hk (da_cons (de_tup (da_cons (de_var B.toBx 3) (da_cons (de_var B.toBx 4) (da_cons (de_var B.toBx 5) (da_cons (de_var B.toBx 6) da_nil)))) (show (4 : Nat) ≤ sizeLine by decide)) (da_cons (de_var B.toBx 9) (da_cons (de_var B.toBx 10) da_nil))) rfl ⟨[b', c', x', y'], _, _, rfl, hf4, by omega, by omega, rfl⟩)) rfl
abbrev k__law_other : Nat := 1
def ct__law_other : Ct := fun ds r => ∃ (cs : List (List Int)) (n : Int), ds = [.lst (cs.map qD), .int n] ∧ cs.length = 4 ∧ (∀ p ∈ cs, p.length = 4) ∧ 0 ≤ n ∧ n < 4 ∧ r = .ok (qD (otherF cs n.toNat))
theorem b__law_other {X : Cx} {W : WX} {k : Nat} (B : Bg X N__law_other (defScope s__law_other) k W) (py : Py X.mg) : BodyOk X N__law_other (defScope s__law_other) k W (defBody s__law_other) 2 ct__law_other := by
  intro ds r hl hc
  obtain ⟨cs, n, rfl, h4, hp, n0, n1, rfl⟩ := hc
  have hck : (cs.getD n.toNat []).length = 4 := hp _ (by
    rw [List.getD_eq_getElem?_getD, List.getElem?_eq_getElem (by omega)]; exact List.getElem_mem _)
  refine dk_done ?_
  refine dk_leave (ds_ret (de_tupleL B.toBx py.tuple (df_lc B [("_law_part", 2)] (di_range1 B.toBx py.range de_int (by decide)) (dlc_map (List.range 4) (f := fun i : Nat => D.int (2 * (cs.map fun c => c.getD i 0).sum - 3 * (cs.getD n.toNat []).getD i 0)) fun i hi => ⟨_, _, fun q1 => (dg_name (B.blk q1).toBx 2), by decide, fun _ => dts_nil, fun q1 => (de_sub (de_mul de_int (de_sumQ (ns := cs.map fun c => c.getD i 0) (B.blk q1).toBd py.sum (df_lc (B.blk q1) [("_law_circle", 3)] (di_seq (de_var (B.blk q1).toBx 0) rfl) (dlc_map cs (f := fun c => D.int (c.getD i 0)) fun c hc => ⟨_, _, fun q2 => (dg_name ((B.blk q1).blk q2).toBx 3), by decide, fun _ => dts_nil, fun q2 => (de_ixT (de_var ((B.blk q1).blk q2).toBx 3) (de_var ((B.blk q1).blk q2).toBx 2) ?_)⟩) ?_ (blkOk_by (by decide +kernel))).de ?_) (mulL (by decide))) (de_mul de_int (de_ixT (ds := (cs.getD n.toNat []).map D.int) (de_ixL (de_var (B.blk q1).toBx 0) (de_var (B.blk q1).toBx 1) ?_) (de_var (B.blk q1).toBx 2) ?_) (mulL (by decide))))⟩) (by decide) (blkOk_by (by decide +kernel))).de rfl)) ?_
  · have := List.mem_range.mp hi
    have h5 := hp c hc
    rw [atI_ints (by omega) (by omega), show (0 + (i : Int)).toNat = i by omega]
  · rw [List.length_map, h4]; decide
  · show some _ = some _; rw [List.map_map]; rfl
  · exact atD (g := qD) (z := []) n0 (by omega)
  · have := List.mem_range.mp hi
    rw [atI_ints (by omega) (by omega), show (0 + (i : Int)).toNat = i by omega]
  · show D.tup _ = qD _
    unfold qD otherF
    rw [List.map_map]; rfl
theorem lfree_ints : ∀ l : List Int, lfreeAll (l.map D.int) = true
  | [] => rfl
  | _ :: l => by simp [lfreeAll, D.lfree, lfree_ints l]
theorem lfree_q (l : List Int) : (qD l).lfree = true := by unfold qD; simp only [D.lfree]; exact lfree_ints l
abbrev k__law_fallen : Nat := 2
def ct__law_fallen : Ct := fun ds r => ∃ (cs : List (List Int)) (w : List Int), ds = [.lst (cs.map qD), .lst (w.map D.int)] ∧ cs.length = 4 ∧ (∀ p ∈ cs, p.length = 4) ∧ (∀ n ∈ w, 0 ≤ n ∧ n < 4) ∧ r = .ok (.lst ((fallenF cs w).map qD))
theorem b__law_fallen {X : Cx} {W : WX} {k : Nat} (B : Bg X N__law_fallen (defScope s__law_fallen) k W) (hk : k__law_other ≤ k) (py : Py X.mg) (c__law_other : Fn X.prog X.w X.K X.mg X.base "_law_other" k__law_other 2 ct__law_other) : BodyOk X N__law_fallen (defScope s__law_fallen) k W (defBody s__law_fallen) 2 ct__law_fallen := by
  intro ds r hl hc
  obtain ⟨cs, w, rfl, h4, hp, hw, rfl⟩ := hc
  refine dk_done ?_
  -- _law_found = list(_law_circles)
  refine dk_cons (ds_own B.toBx 2 (df_list B.toBx py.list (de_var B.toBx 0) rfl)) ?_
  -- for _law_k in _law_word:
  refine dk_cons (ds_for B.toBd (di_seq (de_var B.toBx 1) rfl) (DFor.foldP (fun f : List (List Int) => [Sl.val (.lst (cs.map qD)), .val (.lst (w.map D.int)), .own (f.map qD), .any]) D.int (fun f n => f.set n.toNat (otherF f n.toNat)) (fun _ f => f.length = 4 ∧ ∀ p ∈ f, p.length = 4) w [] cs ⟨h4, hp⟩ ?_).1) ?_
  · intro pre n post f hpre ⟨f4, fp⟩
    obtain ⟨n0, n1⟩ := hw n (by rw [show w = pre ++ n :: post from hpre]; simp)
    refine ⟨⟨_, _, dg_name B.toBx 3, ?_⟩, by simp [f4], fun p hp => by
      rcases List.mem_or_eq_of_mem_set hp with e | e
      · exact fp p e
      · rw [e]; exact otherF_len _ _⟩
    -- _law_found[_law_k] = _law_other(_law_found, _law_k)
    refine dk_cons (ds_setI B.toBx 2 (ds := f.map qD) (m := n.toNat) (de_lend (i := 2) rfl (de_call B c__law_other hk (da_cons (de_var B.toBx 2) (da_cons (de_var B.toBx 3) da_nil)) rfl ⟨f, n, rfl, f4, fp, n0, n1, rfl⟩) (lfree_q _)) (de_var B.toBx 3) (ixN_nat n0 (by rw [List.length_map]; omega))) ?_
    refine dk_nil (dk_fin (goes_nx ?_))
    rw [List.map_set]
    walk_at "le"
  -- return _law_found
  refine dk_freeze 2 rfl ?_
  exact dk_leave (ds_ret (de_var B.toBx 2)) rfl
abbrev k__law_four : Nat := 3
def ct__law_four : Ct := fun ds r => ∃ (zs : List Int) (a : Int), ds = [.lst (zs.map D.int), .int a] ∧ 0 ≤ a ∧ a + 14 ≤ (zs.length : Int) ∧ r = .ok (.lst ((fourF zs a).map qD))
theorem b__law_four {X : Cx} {W : WX} {k : Nat} (B : Bg X N__law_four (defScope s__law_four) k W) (hk1 : k__law_fallen ≤ k) (hk2 : k__law_laid ≤ k) (hk3 : k__law_given ≤ k) (py : Py X.mg) (c__law_fallen : Fn X.prog X.w X.K X.mg X.base "_law_fallen" k__law_fallen 2 ct__law_fallen) (c__law_laid : Fn X.prog X.w X.K X.mg X.base "_law_laid" k__law_laid 3 ct__law_laid) (c__law_given : Fn X.prog X.w X.K X.mg X.base "_law_given" k__law_given 1 ct__law_given) : BodyOk X N__law_four (defScope s__law_four) k W (defBody s__law_four) 2 ct__law_four := by
  intro ds r hl hc
  obtain ⟨zs, a, rfl, h0, h1, rfl⟩ := hc
  have at_ : ∀ i : Int, 0 ≤ i → i < a + 14 → atI (zs.map D.int) i = some (D.int (nth zs i)) := fun i g0 g1 => atI_ints g0 (by omega)
  have m7 := mod_bd (nth zs (a + 5)) 7
  have m4 := mod_bd (nth zs (a + 12)) 4
  obtain ⟨g1, g2⟩ := givenF_ok (nth zs a)
  obtain ⟨f1, f2⟩ := four0_ok zs a
  obtain ⟨f3, f4⟩ := four1_ok zs a
  refine dk_done ?_
  refine dk_cons (own_val (ds_ownLc B 2 [("_law_circle", 5)] (di_seq (de_call B c__law_given hk3 (da_cons (de_ixL (de_var B.toBx 0) (de_var B.toBx 1) (at_ a h0 (by omega))) da_nil) rfl ⟨_, rfl, rfl⟩) rfl) (dlc_map (givenF (nth zs a)) (f := fun p => qD (laidF zs (a + 1) p)) fun p hp => ⟨_, _, fun q1 => (dg_name (B.blk q1).toBx 5), by decide, fun _ => dts_nil, fun q1 => (de_call (B.blk q1) c__law_laid hk2 (da_cons (de_var (B.blk q1).toBx 0) (da_cons (de_add (de_var (B.blk q1).toBx 1) de_int) (da_cons (de_var (B.blk q1).toBx 5) da_nil))) rfl ⟨zs, a + 1, p, rfl, by omega, by omega, (g2 p hp).mono (by decide), rfl⟩)⟩) (by rw [List.length_map, g1.len]; decide) (blkOk_by (by decide +kernel))) (show (2 : Nat) < 7 by decide)) ?_
  rw [show (givenF (nth zs a)).map (fun p => qD (laidF zs (a + 1) p)) = (four0 zs a).map qD by unfold four0; rw [List.map_map]; rfl]
  -- _law_word = [..]
  refine dk_cons (own_val (ds_ownLc B 3 [("_law_k", 6)] (di_range1 B.toBx py.range (de_mod (de_int1 B.toBx py.int (de_ixL (de_var B.toBx 0) (de_add (de_var B.toBx 1) de_int) (at_ (a + 5) (by omega) (by omega)))) de_int (by decide)) (by omega)) (dlc_map (List.range (nth zs (a + 5) % 7).toNat) (f := fun i : Nat => D.int (nth zs (a + 6 + (0 + (i : Int))) % 4)) fun i hi => ⟨_, _, fun q2 => (dg_name (B.blk q2).toBx 6), by decide, fun _ => dts_nil, fun q2 => (de_mod (de_int1 (B.blk q2).toBx py.int (de_ixL (de_var (B.blk q2).toBx 0) (de_add (de_add (de_var (B.blk q2).toBx 1) de_int) (de_var (B.blk q2).toBx 6)) (at_ _ (by omega) (by have := List.mem_range.mp hi; omega)))) de_int (by decide))⟩) (by rw [rngD_length]; exact Nat.lt_of_le_of_lt (show _ ≤ 7 by omega) (by decide)) (blkOk_by (by decide +kernel))) (show (3 : Nat) < 7 by decide)) ?_
  rw [show (List.range (nth zs (a + 5) % 7).toNat).map (fun i : Nat => D.int (nth zs (a + 6 + (0 + (i : Int))) % 4)) = (wordK zs (a + 6) (nth zs (a + 5) % 7)).map D.int by unfold wordK; rw [List.map_map]; rfl]
  -- _law_circles = _law_fallen(_law_circles, _law_word)
  refine dk_cons (ds_set B.toBx 2 (de_call B c__law_fallen hk1 (da_cons (de_var B.toBx 2) (da_cons (de_var B.toBx 3) da_nil)) rfl ⟨four0 zs a, wordK zs (a + 6) (nth zs (a + 5) % 7), rfl, f1.len, fun p hp => (f1.each p hp).1, fun n hn => by
    obtain ⟨i, _, rfl⟩ := List.mem_map.mp hn
    exact mod_bd _ 4, rfl⟩)) ?_
  -- _law_turn = int(_law_numbers_here[_law_at + 12]) % 4
  refine dk_cons (ds_set B.toBx 4 (de_mod (de_int1 B.toBx py.int (de_ixL (de_var B.toBx 0) (de_add (de_var B.toBx 1) de_int) (at_ (a + 12) (by omega) (by omega)))) de_int (by decide))) ?_
  -- _law_circles = _law_circles[_law_turn:] + _law_circles[:_law_turn]
  refine dk_cons (ds_set B.toBx 2 ((df_cat ((df_slL (de_var B.toBx 2) (do_some (de_var B.toBx 4)) do_none).of_eq (cut_fromI (four1 zs a) _ m4.1)).de ((df_slL (de_var B.toBx 2) do_none (do_some (de_var B.toBx 4))).of_eq (cut_to (four1 zs a) _ m4.1)).de ?_).of_eq (ds' := (four2 zs a).map qD) (by unfold four2; rw [List.map_append])).de) ?_
  · rw [List.length_map, List.length_map, List.length_drop, List.length_take, f3.len]; exact Nat.le_trans (show _ ≤ 8 by omega) (by decide)
  -- if int(_law_numbers_here[_law_at + 13]) % 2 == 1:
  refine dk_meet (ρT := [Sl.val (.lst (zs.map D.int)), .val (.int a), .val (.lst ((fourF zs a).map qD)), .any, .any, .any, .any]) (dt_eq (de_mod (de_int1 B.toBx py.int (de_ixL (de_var B.toBx 0) (de_add (de_var B.toBx 1) de_int) (at_ (a + 13) (by omega) (by omega)))) de_int (by decide)) de_int) (fun h2 => ?_) (fun h2 => ?_) ?_
  · refine dk_cons (ds_set B.toBx 2 (df_revL (de_var B.toBx 2)).de) ?_
    refine dk_nil (dk_fin (meets ?_))
    unfold fourF
    rw [show decide (nth zs (a + 13) % 2 = 1) = true from h2, ← List.map_reverse]
    walk_at "le"
  · refine dk_nil (dk_fin (meets ?_))
    unfold fourF
    rw [show decide (nth zs (a + 13) % 2 = 1) = false from h2]
    walk_at "le"
  -- return _law_circles
  exact dk_leave (ds_ret (de_var B.toBx 2)) rfl
end Law

namespace Law
abbrev k__law_opposite : Nat := 1
def ct__law_opposite : Ct := fun ds r => ∃ (l : List Int), ds = [qD l] ∧ l.length ≤ 1000 ∧ r = .ok (qD (oppF l))
theorem b__law_opposite {X : Cx} {W : WX} {k : Nat} (B : Bg X N__law_opposite (defScope s__law_opposite) k W) (py : Py X.mg) : BodyOk X N__law_opposite (defScope s__law_opposite) k W (defBody s__law_opposite) 1 ct__law_opposite := by
  intro ds r hl hc
  obtain ⟨l, rfl, hn, rfl⟩ := hc
  refine dk_done ?_
  refine dk_leave (ds_ret (de_tupleL B.toBx py.tuple (df_lc B [("_law_part", 1)] (di_seq (ds := l.map D.int) (de_var B.toBx 0) rfl) (dlc_map l (f := fun z => D.int (0 - z)) fun z hz => ⟨_, _, fun q1 => (dg_name (B.blk q1).toBx 1), by decide, fun _ => dts_nil, fun q1 => (de_sub de_int (de_var (B.blk q1).toBx 1))⟩) ?_ (blkOk_by (by decide +kernel))).de rfl)) ?_
  · rw [List.length_map]; exact Nat.lt_of_le_of_lt hn (by decide)
  · show D.tup _ = qD _
    unfold qD oppF
    rw [List.map_map]
    congr 1
    exact List.map_congr_left fun z _ => by simp
theorem opp_isC {l : List Int} (h : isC l = true) : isC (oppF l) = true := by
  obtain ⟨b, c, x, y, rfl⟩ := four_of (isC_len h)
  rw [isC4] at h
  show isC [-b, -c, -x, -y] = true
  rw [isC4]
  grind
theorem opp_opp (l : List Int) : oppF (oppF l) = l := by
  unfold oppF
  rw [List.map_map]
  conv => rhs; rw [← List.map_id l]
  exact List.map_congr_left fun z _ => by simp
theorem opp_sq {n : Nat} {l : List Int} (h : Sq n l) : Sq n (oppF l) := by
  refine ⟨by simp [oppF, h.1], fun z hz => ?_⟩
  obtain ⟨y, hy, rfl⟩ := List.mem_map.mp hz
  rw [Int.natAbs_neg]
  exact h.2 y hy
end Law

namespace Law
theorem eqv_ints : ∀ l m : List Int, PyData.eqvAll (pyAll (l.map D.int)) (pyAll (m.map D.int)) = decide (l = m)
  | [], [] => by simp [pyAll, PyData.eqvAll]
  | [], _ :: _ => by simp [pyAll, PyData.eqvAll]
  | _ :: _, [] => by simp [pyAll, PyData.eqvAll]
  | x :: l, y :: m => by
    simp only [List.map_cons, pyAll, PyData.eqvAll, D.py, PyData.eqv, eqv_ints l m, List.cons.injEq]
    by_cases h : x = y <;> by_cases g : l = m <;> simp [h, g]
theorem eqD_q (l m : List Int) : eqD (qD l) (qD m) = decide (l = m) := by
  show PyData.eqv (D.tup (l.map D.int)).py (D.tup (m.map D.int)).py = _
  simp only [D.py, PyData.eqv]
  exact eqv_ints l m
def outF (p q : List Int) : Bool := decide (0 < p.getD 0 0 + q.getD 0 0) || (decide (p.getD 0 0 + q.getD 0 0 = 0) && decide (0 < p.getD 1 0 + q.getD 1 0))
theorem outF_comm (p q : List Int) : outF p q = outF q p := by unfold outF; rw [Int.add_comm (q.getD 0 0), Int.add_comm (q.getD 1 0)]
abbrev k_double : Nat := 3
def twoC (p q : List Int) : Bool := isC p && isC q
def ct_double : Ct := fun ds r => ∃ (x y : D) (p q : List Int), ds = [x, y] ∧ seqD x = some (p.map D.int) ∧ seqD y = some (q.map D.int) ∧ (∀ z ∈ p, z.natAbs < 2 ^ 5000) ∧ (∀ z ∈ q, z.natAbs < 2 ^ 5000) ∧ r = bif twoC p q then .ok (.int (dbl p q)) else .ex "InvalidCircle" []
theorem b_double {X : Cx} {W : WX} {k : Nat} (B : Bg X N_double (defScope s_double) k W) (hk : k_check_circle ≤ k) (py : Py X.mg) (c_check_circle : Fn X.prog X.w X.K X.mg X.base "check_circle" k_check_circle 1 ct_check_circle) : BodyOk X N_double (defScope s_double) k W (defBody s_double) 2 ct_double := by
  intro ds r hl hc
  obtain ⟨x, y, p, q, rfl, hx, hy, hp, hq, rfl⟩ := hc
  refine dk_done ?_
  unfold twoC
  cases hi : isC p with
  | false => exact dk_leave (ds_exprX (de_call B c_check_circle hk (da_cons (de_var B.toBx 0) da_nil) rfl ⟨x, p, rfl, hx, hp, by rw [hi]; rfl⟩)) ⟨rfl, rfl⟩
  | true =>
    -- check_circle(one)
    refine dk_cons (ds_expr (d := .non) (de_call B c_check_circle hk (da_cons (de_var B.toBx 0) da_nil) rfl ⟨x, p, rfl, hx, hp, by rw [hi]; rfl⟩)) ?_
    cases hj : isC q with
    | false => exact dk_leave (ds_exprX (de_call B c_check_circle hk (da_cons (de_var B.toBx 1) da_nil) rfl ⟨y, q, rfl, hy, hq, by rw [hj]; rfl⟩)) ⟨rfl, rfl⟩
    | true =>
      -- check_circle(other)
      refine dk_cons (ds_expr (d := .non) (de_call B c_check_circle hk (da_cons (de_var B.toBx 1) da_nil) rfl ⟨y, q, rfl, hy, hq, by rw [hj]; rfl⟩)) ?_
      obtain ⟨b, c, u, v, rfl⟩ := four_of (isC_len hi)
      obtain ⟨b', c', u', v', rfl⟩ := four_of (isC_len hj)
      have p1 : Sm 5000 b := hp b (by simp)
      have p2 : Sm 5000 c := hp c (by simp)
      have p3 : Sm 5000 u := hp u (by simp)
      have p4 : Sm 5000 v := hp v (by simp)
      have q1 : Sm 5000 b' := hq b' (by simp)
      have q2 : Sm 5000 c' := hq c' (by simp)
      have q3 : Sm 5000 u' := hq u' (by simp)
      have q4 : Sm 5000 v' := hq v' (by simp)
      -- b, c, x, y = one
      refine dk_cons (ds_asg (de_var B.toBx 0) (dg_tup B.toBd hx (dgs_cons (dg_name B.toBx 2) (dgs_cons (dg_name B.toBx 3) (dgs_cons (dg_name B.toBx 4) (dgs_cons (dg_name B.toBx 5) dgs_nil)))))) ?_
      -- far_b, far_c, far_x, far_y = other
      refine dk_cons (ds_asg (de_var B.toBx 1) (dg_tup B.toBd hy (dgs_cons (dg_name B.toBx 6) (dgs_cons (dg_name B.toBx 7) (dgs_cons (dg_name B.toBx 8) (dgs_cons (dg_name B.toBx 9) dgs_nil)))))) ?_
      refine dk_leave (ds_ret (de_sub (de_mul de_int (de_add (de_mul (de_var B.toBx 4) (de_var B.toBx 8) (Sm.mul p3 q3)) (de_mul (de_var B.toBx 5) (de_var B.toBx 9) (Sm.mul p4 q4))) (mulL (by decide))) (de_add (de_mul (de_var B.toBx 2) (de_var B.toBx 7) (Sm.mul p1 q2)) (de_mul (de_var B.toBx 6) (de_var B.toBx 3) (Sm.mul q1 p2))))) ?_
      show D.int _ = D.int (dbl _ _)
      rw [dbl4]
      congr 1
      grind
abbrev k_are_outward : Nat := 1
def ct_are_outward : Ct := fun ds r => ∃ (x y : D) (p q : List Int), ds = [x, y] ∧ seqD x = some (p.map D.int) ∧ seqD y = some (q.map D.int) ∧ 2 ≤ p.length ∧ 2 ≤ q.length ∧ r = .ok (.bl (outF p q))
theorem b_are_outward {X : Cx} {W : WX} {k : Nat} (B : Bg X N_are_outward (defScope s_are_outward) k W) (py : Py X.mg) : BodyOk X N_are_outward (defScope s_are_outward) k W (defBody s_are_outward) 2 ct_are_outward := by
  intro ds r hl hc
  obtain ⟨x, y, p, q, rfl, hx, hy, hp, hq, rfl⟩ := hc
  refine dk_done ?_
  -- b = one[0] + other[0]
  refine dk_cons (ds_set B.toBx 2 (de_add (de_ixQ (de_var B.toBx 0) hx de_int (atI_ints (by decide) (by omega))) (de_ixQ (de_var B.toBx 1) hy de_int (atI_ints (by decide) (by omega))))) ?_
  -- return b > 0 or (b == 0 and one[1] + other[1] > 0)
  exact dk_leave (ds_ret (de_or (de_gt (de_var B.toBx 2) de_int) fun h => (de_one (de_and (de_eq (de_var B.toBx 2) de_int) fun h => (de_one (de_gt (de_add (de_ixQ (de_var B.toBx 0) hx de_int (atI_ints (by decide) (by omega))) (de_ixQ (de_var B.toBx 1) hy de_int (atI_ints (by decide) (by omega)))) de_int)))))) rfl
abbrev k_touch : Nat := 4
def touF (p q : List Int) : Bool := decide (dbl p q = -2) && outF p q
def ct_touch : Ct := fun ds r => ∃ (x y : D) (p q : List Int), ds = [x, y] ∧ seqD x = some (p.map D.int) ∧ seqD y = some (q.map D.int) ∧ (∀ z ∈ p, z.natAbs < 2 ^ 5000) ∧ (∀ z ∈ q, z.natAbs < 2 ^ 5000) ∧ r = bif twoC p q then .ok (.bl (touF p q)) else .ex "InvalidCircle" []
end Law
namespace Law
theorem twoC_len {p q : List Int} (h : twoC p q = true) : p.length = 4 ∧ q.length = 4 := by
  unfold twoC at h
  rw [Bool.and_eq_true] at h
  exact ⟨isC_len h.1, isC_len h.2⟩
theorem b_touch {X : Cx} {W : WX} {k : Nat} (B : Bg X N_touch (defScope s_touch) k W) (hk1 : k_are_outward ≤ k) (hk2 : k_double ≤ k) (py : Py X.mg) (c_are_outward : Fn X.prog X.w X.K X.mg X.base "are_outward" k_are_outward 2 ct_are_outward) (c_double : Fn X.prog X.w X.K X.mg X.base "double" k_double 2 ct_double) : BodyOk X N_touch (defScope s_touch) k W (defBody s_touch) 2 ct_touch := by
  intro ds r hl hc
  obtain ⟨x, y, p, q, rfl, hx, hy, hp, hq, rfl⟩ := hc
  refine dk_done ?_
  cases hi : twoC p q with
  | false => exact dk_leave (ds_retX (de_andX1 (de_eqX1 (de_call B c_double hk2 (da_cons (de_var B.toBx 0) (da_cons (de_var B.toBx 1) da_nil)) rfl ⟨x, y, p, q, rfl, hx, hy, hp, hq, by rw [hi]; rfl⟩)))) ⟨rfl, rfl⟩
  | true =>
    obtain ⟨l1, l2⟩ := twoC_len hi
    exact dk_leave (ds_ret (de_and (de_eq (de_call (r := .ok (.int (dbl p q))) B c_double hk2 (da_cons (de_var B.toBx 0) (da_cons (de_var B.toBx 1) da_nil)) rfl ⟨x, y, p, q, rfl, hx, hy, hp, hq, by rw [hi]; rfl⟩) (de_neg de_int)) fun h => (de_one (de_call B c_are_outward hk1 (da_cons (de_var B.toBx 0) (da_cons (de_var B.toBx 1) da_nil)) rfl ⟨x, y, p, q, rfl, hx, hy, by omega, by omega, rfl⟩)))) rfl
/-! the relation -/
abbrev S (x : String) : Str := PySem.Str.ofString x
def relF (p q : List Int) : Str :=
  bif decide (p = q) then "same" else bif decide (q = oppF p) then "opposite" else bif decide (dbl p q = -2) then (bif outF p q then "touch" else "touch around")
  else bif decide (dbl p q = 2) then "touch inside" else bif decide (dbl p q < -2) then (bif outF p q then "apart" else "around") else bif decide (2 < dbl p q) then "nested" else "cross"
theorem relF_comm (p q : List Int) : relF p q = relF q p := by
  unfold relF
  rw [dbl_comm q p, outF_comm q p, show decide (q = p) = decide (p = q) from decide_eq_decide.mpr eq_comm, show decide (p = oppF q) = decide (q = oppF p) from decide_eq_decide.mpr ⟨fun h => by rw [h, opp_opp], fun h => by rw [h, opp_opp]⟩]
abbrev k_relation : Nat := 4
def ct_relation : Ct := fun ds r => ∃ (x y : D) (p q : List Int), ds = [x, y] ∧ seqD x = some (p.map D.int) ∧ seqD y = some (q.map D.int) ∧ (∀ z ∈ p, z.natAbs < 2 ^ 5000) ∧ (∀ z ∈ q, z.natAbs < 2 ^ 5000) ∧ r = bif twoC p q then .ok (.str (relF p q)) else .ex "InvalidCircle" []
theorem b_relation {X : Cx} {W : WX} {k : Nat} (B : Bg X N_relation (defScope s_relation) k W) (hk1 : k_double ≤ k) (hk2 : k_opposite ≤ k) (hk3 : k_are_outward ≤ k) (py : Py X.mg) (c_double : Fn X.prog X.w X.K X.mg X.base "double" k_double 2 ct_double) (c_opposite : Fn X.prog X.w X.K X.mg X.base "opposite" k_opposite 1 ct_opposite) (c_are_outward : Fn X.prog X.w X.K X.mg X.base "are_outward" k_are_outward 2 ct_are_outward) : BodyOk X N_relation (defScope s_relation) k W (defBody s_relation) 2 ct_relation := by
  intro ds r hl hc
  obtain ⟨x, y, p, q, rfl, hx, hy, hp, hq, rfl⟩ := hc
  refine dk_done ?_
  cases hi : twoC p q with
  | false => exact dk_leave (ds_setX B.toBx 2 (de_call B c_double hk1 (da_cons (de_var B.toBx 0) (da_cons (de_var B.toBx 1) da_nil)) rfl ⟨x, y, p, q, rfl, hx, hy, hp, hq, by rw [hi]; rfl⟩)) ⟨rfl, rfl⟩
  | true =>
    obtain ⟨l1, l2⟩ := twoC_len hi
    have hip : isC p = true := by unfold twoC at hi; rw [Bool.and_eq_true] at hi; exact hi.1
    show DK X W (fun o => OutIs o (.ok (.str (relF p q)))) _ _
    -- twice = double(one, other)
    refine dk_cons (ds_set (d := .int (dbl p q)) B.toBx 2 (de_call B c_double hk1 (da_cons (de_var B.toBx 0) (da_cons (de_var B.toBx 1) da_nil)) rfl ⟨x, y, p, q, rfl, hx, hy, hp, hq, by rw [hi]; rfl⟩)) ?_
    have out : ∀ {W' : WX} {ρ : Rho} {p1 p2 p3 p4 : Pos}, ρ[0]? = some (Sl.val x) → ρ[1]? = some (Sl.val y) → True := fun _ _ => True.intro
    -- if tuple(one) == tuple(other):
    refine dk_if ((dt_eqD B.toBd (de_tupleL B.toBx py.tuple (de_var B.toBx 0) hx) (de_tupleL B.toBx py.tuple (de_var B.toBx 1) hy) Sh.tupI Sh.tupI).ofB (eqD_q p q)) (fun h1 => ?_) (fun h1 => ?_)
    · refine dk_leave (ds_ret de_str) ?_
      unfold relF; rw [h1]; rfl
    refine dk_nil ?_
    -- if tuple(other) == opposite(one):
    refine dk_if ((dt_eqD B.toBd (de_tupleL B.toBx py.tuple (de_var B.toBx 1) hy) (de_call (r := .ok (qD (oppF p))) B c_opposite hk2 (da_cons (de_var B.toBx 0) da_nil) rfl ⟨x, p, rfl, hx, hp, by rw [hip]; rfl⟩) Sh.tupI Sh.tupI).ofB (eqD_q q (oppF p))) (fun h2 => ?_) (fun h2 => ?_)
    · refine dk_leave (ds_ret de_str) ?_
      unfold relF; rw [h1, h2]; rfl
    refine dk_nil ?_
    -- if twice == -2:
    refine dk_if (dt_eq (de_var B.toBx 2) (de_neg de_int)) (fun h3 => ?_) (fun h3 => ?_)
    · refine dk_leave (ds_ret (de_if (p := outF p q) (r := .ok (bif outF p q then .str "touch" else .str "touch around")) (dt_val (de_call B c_are_outward hk3 (da_cons (de_var B.toBx 0) (da_cons (de_var B.toBx 1) da_nil)) rfl ⟨x, y, p, q, rfl, hx, hy, by omega, by omega, rfl⟩)) (fun h => by rw [h]; exact de_str) (fun h => by rw [h]; exact de_str))) ?_
      unfold relF; rw [h1, h2, show decide (dbl p q = -2) = true from h3]
      cases outF p q <;> rfl
    refine dk_nil ?_
    -- if twice == 2:
    refine dk_if (dt_eq (de_var B.toBx 2) de_int) (fun h4 => ?_) (fun h4 => ?_)
    · refine dk_leave (ds_ret de_str) ?_
      unfold relF; rw [h1, h2, show decide (dbl p q = -2) = false from h3, show decide (dbl p q = 2) = true from h4]; rfl
    refine dk_nil ?_
    -- if twice < -2:
    refine dk_if (dt_lt (de_var B.toBx 2) (de_neg de_int)) (fun h5 => ?_) (fun h5 => ?_)
    · refine dk_leave (ds_ret (de_if (p := outF p q) (r := .ok (bif outF p q then .str "apart" else .str "around")) (dt_val (de_call B c_are_outward hk3 (da_cons (de_var B.toBx 0) (da_cons (de_var B.toBx 1) da_nil)) rfl ⟨x, y, p, q, rfl, hx, hy, by omega, by omega, rfl⟩)) (fun h => by rw [h]; exact de_str) (fun h => by rw [h]; exact de_str))) ?_
      unfold relF; rw [h1, h2, show decide (dbl p q = -2) = false from h3, show decide (dbl p q = 2) = false from h4, show decide (dbl p q < -2) = true from h5]
      cases outF p q <;> rfl
    refine dk_nil ?_
    -- if twice > 2:
    refine dk_if (dt_gt (de_var B.toBx 2) de_int) (fun h6 => ?_) (fun h6 => ?_)
    · refine dk_leave (ds_ret de_str) ?_
      unfold relF; rw [h1, h2, show decide (dbl p q = -2) = false from h3, show decide (dbl p q = 2) = false from h4, show decide (dbl p q < -2) = false from h5, show decide (2 < dbl p q) = true from h6]; rfl
    refine dk_nil ?_
    refine dk_leave (ds_ret de_str) ?_
    unfold relF; rw [h1, h2, show decide (dbl p q = -2) = false from h3, show decide (dbl p q = 2) = false from h4, show decide (dbl p q < -2) = false from h5, show decide (2 < dbl p q) = false from h6]; rfl
end Law

namespace Law
abbrev k__law_double : Nat := 1
def ct__law_double : Ct := fun ds r => ∃ (p q : List Int), ds = [qD p, qD q] ∧ Sq 5000 p ∧ Sq 5000 q ∧ r = .ok (.int (dbl p q))
theorem b__law_double {X : Cx} {W : WX} {k : Nat} (B : Bg X N__law_double (defScope s__law_double) k W) (py : Py X.mg) : BodyOk X N__law_double (defScope s__law_double) k W (defBody s__law_double) 2 ct__law_double := by
  intro ds r hl hc
  obtain ⟨p, q, rfl, hp, hq, rfl⟩ := hc
  have sp : ∀ i : Nat, Sm 5000 (p.getD i 0) := fun i => mem_getD4 hp i
  have sq : ∀ i : Nat, Sm 5000 (q.getD i 0) := fun i => mem_getD4 hq i
  have lp := hp.1
  have lq := hq.1
  have ap : ∀ i : Nat, i < 4 → atI (p.map D.int) (i : Int) = some (D.int (p.getD i 0)) := fun i hi => by have := atI_ints (xs := p) (i := (i : Int)) (by omega) (by omega); rwa [Int.toNat_natCast] at this
  have aq : ∀ i : Nat, i < 4 → atI (q.map D.int) (i : Int) = some (D.int (q.getD i 0)) := fun i hi => by have := atI_ints (xs := q) (i := (i : Int)) (by omega) (by omega); rwa [Int.toNat_natCast] at this
  refine dk_done ?_
  exact dk_leave (ds_ret (de_sub (de_sub (de_mul de_int (de_add (de_mul (de_ixT (ds := p.map D.int) (de_var B.toBx 0) de_int (ap 2 (by decide))) (de_ixT (ds := q.map D.int) (de_var B.toBx 1) de_int (aq 2 (by decide))) (Sm.mul (sp 2) (sq 2))) (de_mul (de_ixT (ds := p.map D.int) (de_var B.toBx 0) de_int (ap 3 (by decide))) (de_ixT (ds := q.map D.int) (de_var B.toBx 1) de_int (aq 3 (by decide))) (Sm.mul (sp 3) (sq 3)))) (mulL (by decide))) (de_mul (de_ixT (ds := p.map D.int) (de_var B.toBx 0) de_int (ap 0 (by decide))) (de_ixT (ds := q.map D.int) (de_var B.toBx 1) de_int (aq 1 (by decide))) (Sm.mul (sp 0) (sq 1)))) (de_mul (de_ixT (ds := p.map D.int) (de_var B.toBx 0) de_int (ap 1 (by decide))) (de_ixT (ds := q.map D.int) (de_var B.toBx 1) de_int (aq 0 (by decide))) (Sm.mul (sp 1) (sq 0))))) rfl
abbrev k__law_relation : Nat := 2
def ct__law_relation : Ct := fun ds r => ∃ (p q : List Int), ds = [qD p, qD q] ∧ Sq 5000 p ∧ Sq 5000 q ∧ r = .ok (.str (relF p q))
theorem b__law_relation {X : Cx} {W : WX} {k : Nat} (B : Bg X N__law_relation (defScope s__law_relation) k W) (hk1 : k__law_double ≤ k) (hk2 : k__law_opposite ≤ k) (py : Py X.mg) (c__law_double : Fn X.prog X.w X.K X.mg X.base "_law_double" k__law_double 2 ct__law_double) (c__law_opposite : Fn X.prog X.w X.K X.mg X.base "_law_opposite" k__law_opposite 1 ct__law_opposite) : BodyOk X N__law_relation (defScope s__law_relation) k W (defBody s__law_relation) 2 ct__law_relation := by
  intro ds r hl hc
  obtain ⟨p, q, rfl, hp, hq, rfl⟩ := hc
  have lp := hp.1
  have lq := hq.1
  refine dk_done ?_
  -- _law_twice = _law_double(_law_one, _law_other_here)
  refine dk_cons (ds_set B.toBx 2 (de_call B c__law_double hk1 (da_cons (de_var B.toBx 0) (da_cons (de_var B.toBx 1) da_nil)) rfl ⟨p, q, rfl, hp, hq, rfl⟩)) ?_
  -- if _law_one == _law_other_here:
  refine dk_if ((dt_eqD B.toBd (de_var B.toBx 0) (de_var B.toBx 1) Sh.tupI Sh.tupI).ofB (eqD_q p q)) (fun h1 => ?_) (fun h1 => ?_)
  · refine dk_leave (ds_ret de_str) ?_
    unfold relF; rw [h1]; rfl
  refine dk_nil ?_
  -- if _law_one == _law_opposite(_law_other_here):
  refine dk_if ((dt_eqD B.toBd (de_var B.toBx 0) (de_call B c__law_opposite hk2 (da_cons (de_var B.toBx 1) da_nil) rfl ⟨q, rfl, by omega, rfl⟩) Sh.tupI Sh.tupI).ofB (d' := decide (q = oppF p)) (by
    show eqD (qD p) (qD (oppF q)) = _
    rw [eqD_q]
    exact decide_eq_decide.mpr ⟨fun h => by rw [h, opp_opp], fun h => by rw [h, opp_opp]⟩)) (fun h2 => ?_) (fun h2 => ?_)
  · refine dk_leave (ds_ret de_str) ?_
    unfold relF; rw [h1, h2]; rfl
  refine dk_nil ?_
  -- _law_outward = (..) > (0, 0)
  refine dk_cons (ds_set B.toBx 3 ((de_gtD B.toBd (de_tup (da_cons (de_add (de_ixT (ds := p.map D.int) (de_var B.toBx 0) de_int (atI_ints (by decide) (by omega))) (de_ixT (ds := q.map D.int) (de_var B.toBx 1) de_int (atI_ints (by decide) (by omega)))) (da_cons (de_add (de_ixT (ds := p.map D.int) (de_var B.toBx 0) de_int (atI_ints (by decide) (by omega))) (de_ixT (ds := q.map D.int) (de_var B.toBx 1) de_int (atI_ints (by decide) (by omega)))) da_nil)) (show (2 : Nat) ≤ sizeLine by decide)) (de_tup (da_cons de_int (da_cons de_int da_nil))) (Sh.tupI (l := [p.getD 0 0 + q.getD 0 0, p.getD 1 0 + q.getD 1 0])) (Sh.tupI (l := [0, 0])) rfl (fun h => nomatch h)).ofD (d' := .bl (outF p q)) ?_)) ?_
  · show D.bl (PySem.W.dataLt (.tuple [.int 0, .int 0]) (.tuple [.int (p.getD 0 0 + q.getD 0 0), .int (p.getD 1 0 + q.getD 1 0)])) = _
    rw [lt2]
    unfold outF
    rw [show decide ((0 : Int) = p.getD 0 0 + q.getD 0 0) = decide (p.getD 0 0 + q.getD 0 0 = 0) from decide_eq_decide.mpr eq_comm]
  have pick : ∀ (o : Bool) (u v : Str), atI [D.str u, D.str v] (if o = true then (1 : Int) else 0) = some (.str (bif o then v else u)) := fun o u v => by cases o <;> rfl
  -- if _law_twice == -2:
  refine dk_if (dt_eq (de_var B.toBx 2) (de_neg de_int)) (fun h3 => ?_) (fun h3 => ?_)
  · refine dk_leave (ds_ret (de_ixL (df_lst (da_cons de_str (da_cons de_str da_nil)) (show (2 : Nat) ≤ sizeLine by decide)).de (de_intB B.toBx py.int (de_var B.toBx 3)) (pick _ _ _))) ?_
    unfold relF; rw [h1, h2, show decide (dbl p q = -2) = true from h3]; rfl
  refine dk_nil ?_
  -- if _law_twice < -2:
  refine dk_if (dt_lt (de_var B.toBx 2) (de_neg de_int)) (fun h5 => ?_) (fun h5 => ?_)
  · refine dk_leave (ds_ret (de_ixL (df_lst (da_cons de_str (da_cons de_str da_nil)) (show (2 : Nat) ≤ sizeLine by decide)).de (de_intB B.toBx py.int (de_var B.toBx 3)) (pick _ _ _))) ?_
    unfold relF; rw [h1, h2, show decide (dbl p q = -2) = false from h3, show decide (dbl p q < -2) = true from h5, show decide (dbl p q = 2) = false from decide_eq_false (by have := of_decide_eq_true (show decide (dbl p q < -2) = true from h5); omega)]; rfl
  refine dk_nil ?_
  -- if _law_twice > 2:
  refine dk_if (dt_gt (de_var B.toBx 2) de_int) (fun h6 => ?_) (fun h6 => ?_)
  · refine dk_leave (ds_ret de_str) ?_
    unfold relF; rw [h1, h2, show decide (dbl p q = -2) = false from h3, show decide (dbl p q < -2) = false from h5, show decide (2 < dbl p q) = true from h6, show decide (dbl p q = 2) = false from decide_eq_false (by have := of_decide_eq_true (show decide (2 < dbl p q) = true from h6); omega)]; rfl
  refine dk_nil ?_
  refine dk_leave (ds_ret (de_ixL (df_lst (da_cons de_str (da_cons de_str da_nil)) (show (2 : Nat) ≤ sizeLine by decide)).de (de_intB B.toBx py.int (de_eq (de_var B.toBx 2) de_int)) (pick _ _ _))) ?_
  unfold relF; rw [h1, h2, show decide (dbl p q = -2) = false from h3, show decide (dbl p q < -2) = false from h5, show decide (2 < dbl p q) = false from h6]
  cases decide (dbl p q = 2) <;> rfl
abbrev k__law_refused : Nat := 5
def ct__law_refused : Ct := fun ds r => ∃ (p q : List Int), ds = [qD p, qD q] ∧ (∀ z ∈ p, z.natAbs < 2 ^ 5000) ∧ (∀ z ∈ q, z.natAbs < 2 ^ 5000) ∧ twoC p q = false ∧ r = .ok (.bl true)
theorem b__law_refused {X : Cx} {W : WX} {k : Nat} (B : Bg X N__law_refused (defScope s__law_refused) k W) (htop : TopX X) (hk1 : k_double ≤ k) (hk2 : k_touch ≤ k) (hk3 : k_relation ≤ k) (py : Py X.mg) (m_1 : EX X.K X.mg "InvalidCircle" "InvalidCircle" true) (i_1 : KIT X.K X.mg "InvalidCircle" "ValueError" true) (c_double : Fn X.prog X.w X.K X.mg X.base "double" k_double 2 ct_double) (c_touch : Fn X.prog X.w X.K X.mg X.base "touch" k_touch 2 ct_touch) (c_relation : Fn X.prog X.w X.K X.mg X.base "relation" k_relation 2 ct_relation) : BodyOk X N__law_refused (defScope s__law_refused) k W (defBody s__law_refused) 2 ct__law_refused := by
  intro ds r hl hc
  obtain ⟨p, q, rfl, hp, hq, hi, rfl⟩ := hc
  refine dk_done ?_
  -- _law_found = 0
  refine dk_cons (ds_set B.toBx 2 de_int) ?_
  -- for _law_k in range(3):
  refine dk_cons (ds_for B.toBd (di_range1 B.toBx py.range de_int (by decide)) (DFor.foldP (fun f : Int => [Sl.val (qD p), .val (qD q), .val (.int f), .any, .any]) (fun i : Nat => D.int (0 + (i : Int))) (fun f (_ : Nat) => f + 1) (fun _ _ => True) (List.range 3) [] 0 True.intro ?_).1) ?_
  · intro pre i post f _ _
    refine ⟨⟨_, _, dg_name B.toBx 3, ?_⟩, True.intro⟩
    -- try:
    refine dk_cons (ds_tryA B htop 4 m_1 (ρ1 := [Sl.val (qD p), .val (qD q), .val (.int f), .val (.int (0 + (i : Int))), .any]) (fs := []) (o2 := .nx [Sl.val (qD p), .val (qD q), .val (.int (f + 1)), .any, .any]) (fun W' pn xe B' => dk_is ?_) (fun a oe cls dd pn held => dk_to ?_)) ?_
    · refine dk_if (dt_eq (de_var B'.toBx 3) de_int) (fun _ => ?_) (fun _ => ?_)
      · exact dk_leave (ds_exprX (de_call B' c_double hk1 (da_cons (de_var B'.toBx 0) (da_cons (de_var B'.toBx 1) da_nil)) rfl ⟨qD p, qD q, p, q, rfl, rfl, rfl, hp, hq, by rw [hi]; rfl⟩)) rfl
      · refine dk_if (dt_eq (de_var B'.toBx 3) de_int) (fun _ => ?_) (fun _ => ?_)
        · exact dk_leave (ds_exprX (de_call B' c_touch hk2 (da_cons (de_var B'.toBx 0) (da_cons (de_var B'.toBx 1) da_nil)) rfl ⟨qD p, qD q, p, q, rfl, rfl, rfl, hp, hq, by rw [hi]; rfl⟩)) rfl
        · exact dk_leave (ds_exprX (de_call B' c_relation hk3 (da_cons (de_var B'.toBx 0) (da_cons (de_var B'.toBx 1) da_nil)) rfl ⟨qD p, qD q, p, q, rfl, rfl, rfl, hp, hq, by rw [hi]; rfl⟩)) rfl
    · refine dk_cons (ds_set (sBx B.toBx) 2 ((de_add (de_var (sBx B.toBx) 2) (de_intB (sBx B.toBx) py.int (de_isE B.toBx py.isinstance 4 rfl held i_1))).ofD (d' := .int (f + 1)) rfl)) ?_
      refine dk_nil (dk_fin (meets ?_))
      walk_at "le"
    refine dk_nil (dk_fin (goes_nx ?_))
    walk_at "le"
  -- return _law_found == 3
  exact dk_leave (ds_ret ((de_eq (de_var B.toBx 2) de_int).ofD (d' := .bl true) rfl)) rfl
abbrev k_law : Nat := 6
def ct_law : Ct := fun ds r => ∃ ns : List Int, ds = [.scr ns] ∧ r = .ok (.bl true)
def Good (p : List Int) : Prop := isC p = true ∧ Sq 110 p
theorem Good.opp {p : List Int} (h : Good p) : Good (oppF p) := ⟨opp_isC h.1, opp_sq h.2⟩
theorem Good.two {p q : List Int} (h : Good p) (g : Good q) : twoC p q = true := by unfold twoC; rw [h.1, g.1]; rfl
theorem Good.b5 {p : List Int} (h : Good p) : ∀ z ∈ p, z.natAbs < 2 ^ 5000 := (h.2.mono (by decide)).2
theorem Good.s5 {p : List Int} (h : Good p) : Sq 5000 p := h.2.mono (by decide)
theorem relF_touch (p q : List Int) (hpq : isC p = true) (hq : isC q = true) : touF p q = decide (relF p q = "touch") := by
  unfold touF relF
  by_cases e1 : p = q
  · subst e1
    rw [dbl_self hpq, decide_eq_true rfl]; rfl
  · rw [decide_eq_false e1]
    by_cases e2 : q = oppF p
    · subst e2
      have : dbl p (oppF p) = -2 := by
        have h := dbl_self hpq
        obtain ⟨b, c, x, y, rfl⟩ := four_of (isC_len hpq)
        show dbl [b, c, x, y] [-b, -c, -x, -y] = -2
        rw [dbl4] at h ⊢
        grind
      have ho : outF p (oppF p) = false := by
        obtain ⟨b, c, x, y, rfl⟩ := four_of (isC_len hpq)
        show outF [b, c, x, y] [-b, -c, -x, -y] = false
        unfold outF
        simp only [List.getD_cons_zero, List.getD_cons_succ]
        rw [decide_eq_false (show ¬ (0 < b + -b) by omega), decide_eq_false (show ¬ (0 < c + -c) by omega)]; simp
      rw [ho, decide_eq_true (rfl : oppF p = oppF p)]; simp; decide
    · rw [decide_eq_false e2]
      cases decide (dbl p q = -2) <;> cases outF p q <;> cases decide (dbl p q = 2) <;> cases decide (dbl p q < -2) <;> cases decide (2 < dbl p q) <;> decide
def secondF (zs : List Int) : List (List Int) := bif decide (nth zs 31 % 2 = 1) then fourF zs 15 else fallenF (fourF zs 0) (wordK zs 32 (nth zs 30 % 7))
theorem second_ok (zs : List Int) : (∀ p ∈ fourF zs 0, Good p) ∧ (fourF zs 0).length = 4 ∧ (∀ p ∈ secondF zs, Good p) ∧ (secondF zs).length = 4 := by
  have m7 := mod_bd (nth zs 30) 7
  obtain ⟨f1, f2⟩ := fourF_ok zs 0
  obtain ⟨f3, f4⟩ := fourF_ok zs 15
  obtain ⟨g1, g2⟩ := fallen_ok (wordK zs 32 (nth zs 30 % 7)) (fourF zs 0) 80 f1 f2 fun k hk => by
    obtain ⟨i, _, rfl⟩ := List.mem_map.mp hk
    exact mod_bd _ 4
  refine ⟨fun p hp => ⟨f1.circ p hp, (f2 p hp).mono (by decide)⟩, f1.len, ?_, ?_⟩
  · unfold secondF
    cases decide (nth zs 31 % 2 = 1) with
    | true => exact fun p hp => ⟨f3.circ p hp, (f4 p hp).mono (by decide)⟩
    | false => exact fun p hp => ⟨g1.circ p hp, (g2 p hp).mono (by simp [wordK]; omega)⟩
  · unfold secondF
    cases decide (nth zs 31 % 2 = 1) with
    | true => exact f3.len
    | false => exact g1.len
def badF (zs : List Int) : List Int := ([[1, 1, 1, 0], [1, 2], [], [0, 0, 0, 0]] : List (List Int)).getD (nth zs 39 % 4).toNat []
theorem badF_ok (zs : List Int) : isC (badF zs) = false ∧ ∀ z ∈ badF zs, z.natAbs < 2 ^ 5000 := by
  have m4 := mod_bd (nth zs 39) 4
  unfold badF
  generalize nth zs 39 % 4 = j at m4
  have : j = 0 ∨ j = 1 ∨ j = 2 ∨ j = 3 := by omega
  have p5 : 2 ^ 2 ≤ 2 ^ 5000 := Nat.pow_le_pow_right (by decide) (by decide)
  rcases this with e | e | e | e <;> subst e <;> refine ⟨by decide, fun z hz => Nat.lt_of_lt_of_le ?_ p5⟩ <;> simp at hz <;> omega
theorem b_law {X : Cx} {W : WX} {k : Nat} (B : Bg X N_law (defScope s_law) k W) (hfn : ∀ s, X.fn s = true) (hk1 : k__law_numbers ≤ k) (hk2 : k__law_four ≤ k) (hk3 : k__law_fallen ≤ k) (hk4 : k__law_refused ≤ k) (hk5 : k__law_opposite ≤ k) (hk6 : k__law_relation ≤ k) (hk7 : k_touch ≤ k) (hk8 : k_double ≤ k) (hk9 : k__law_double ≤ k) (hk10 : k_relation ≤ k) (py : Py X.mg) (c__law_numbers : Fn X.prog X.w X.K X.mg X.base "_law_numbers" k__law_numbers 2 ct__law_numbers) (c__law_four : Fn X.prog X.w X.K X.mg X.base "_law_four" k__law_four 2 ct__law_four) (c__law_fallen : Fn X.prog X.w X.K X.mg X.base "_law_fallen" k__law_fallen 2 ct__law_fallen) (c__law_refused : Fn X.prog X.w X.K X.mg X.base "_law_refused" k__law_refused 2 ct__law_refused) (c__law_opposite : Fn X.prog X.w X.K X.mg X.base "_law_opposite" k__law_opposite 1 ct__law_opposite) (c__law_relation : Fn X.prog X.w X.K X.mg X.base "_law_relation" k__law_relation 2 ct__law_relation) (c_touch : Fn X.prog X.w X.K X.mg X.base "touch" k_touch 2 ct_touch) (c_double : Fn X.prog X.w X.K X.mg X.base "double" k_double 2 ct_double) (c__law_double : Fn X.prog X.w X.K X.mg X.base "_law_double" k__law_double 2 ct__law_double) (c_relation : Fn X.prog X.w X.K X.mg X.base "relation" k_relation 2 ct_relation) : BodyOk X N_law (defScope s_law) k W (defBody s_law) 1 ct_law := by
  intro ds r hl hc
  obtain ⟨ns, rfl, rfl⟩ := hc
  have dr := drawn ns 40 (by decide) (by decide)
  generalize hzs : numF ns 40 = zs at dr
  have zl := dr.len
  have m7 := mod_bd (nth zs 30) 7
  have m4 := mod_bd (nth zs 39) 4
  obtain ⟨gf, lf, gs, ls⟩ := second_ok zs
  obtain ⟨b1, b2⟩ := badF_ok zs
  obtain ⟨fo, _⟩ := fourF_ok zs 0
  refine dk_done ?_
  -- _law_numbers_here = _law_numbers(_law_script, 40)
  refine dk_cons (ds_set B.toBx 1 (de_call B c__law_numbers hk1 (da_cons (de_var B.toBx 0) (da_cons de_int da_nil)) rfl ⟨ns, 40, rfl, by decide, by decide, by rw [hzs]⟩)) ?_
  -- _law_first = _law_four(_law_numbers_here, 0)
  refine dk_cons (ds_set B.toBx 2 (de_call B c__law_four hk2 (da_cons (de_var B.toBx 1) (da_cons de_int da_nil)) rfl ⟨zs, 0, rfl, by decide, by omega, rfl⟩)) ?_
  -- _law_second = _law_fallen(..)
  refine dk_cons (ds_set (d := .lst ((fallenF (fourF zs 0) (wordK zs 32 (nth zs 30 % 7))).map qD)) B.toBx 3 (de_call B c__law_fallen hk3 (da_cons (de_var B.toBx 2) (da_cons ((df_lc B [("_law_k", 10)] (di_range1 B.toBx py.range (de_mod (de_int1 B.toBx py.int (de_ixL (de_var B.toBx 1) de_int (dr.at 30))) de_int (by decide)) (by omega)) (dlc_map (List.range (nth zs 30 % 7).toNat) (f := fun i : Nat => D.int (nth zs (32 + (0 + (i : Int))) % 4)) fun i hi => ⟨_, _, fun q1 => (dg_name (B.blk q1).toBx 10), by decide, fun _ => dts_nil, fun q1 => (de_mod (de_int1 (B.blk q1).toBx py.int (de_ixL (de_var (B.blk q1).toBx 1) (de_add de_int (de_var (B.blk q1).toBx 10)) (dr.at _ (by omega) (by have := List.mem_range.mp hi; omega)))) de_int (by decide))⟩) (by rw [rngD_length]; exact Nat.lt_of_le_of_lt (show _ ≤ 7 by omega) (by decide)) (blkOk_by (by decide +kernel))).of_eq (ds' := (wordK zs 32 (nth zs 30 % 7)).map D.int) (by unfold wordK; rw [List.map_map]; rfl)).de da_nil)) rfl ⟨fourF zs 0, wordK zs 32 (nth zs 30 % 7), rfl, lf, fun p hp => (fo.each p hp).1, fun n hn => by
    obtain ⟨i, _, rfl⟩ := List.mem_map.mp hn
    exact mod_bd _ 4, rfl⟩)) ?_
  -- if int(_law_numbers_here[31]) % 2 == 1:
  refine dk_meet (ρT := [Sl.val (.scr ns), .val (.lst (zs.map D.int)), .val (.lst ((fourF zs 0).map qD)), .val (.lst ((secondF zs).map qD)), .any, .any, .any, .any, .any, .any, .any]) (dt_eq (de_mod (de_int1 B.toBx py.int (de_ixL (de_var B.toBx 1) de_int (dr.at 31))) de_int (by decide)) de_int) (fun h1 => ?_) (fun h1 => ?_) ?_
  · refine dk_cons (ds_set B.toBx 3 (de_call B c__law_four hk2 (da_cons (de_var B.toBx 1) (da_cons de_int da_nil)) rfl ⟨zs, 15, rfl, by decide, by omega, rfl⟩)) ?_
    refine dk_nil (dk_fin (meets ?_))
    unfold secondF
    rw [show decide (nth zs 31 % 2 = 1) = true from h1]
    walk_at "le"
  · refine dk_nil (dk_fin (meets ?_))
    unfold secondF
    rw [show decide (nth zs 31 % 2 = 1) = false from h1]
    walk_at "le"
  generalize hf : fourF zs 0 = fst at gf lf
  generalize secondF zs = snd at gs ls
  -- for _law_one in _law_first:
  refine dk_cons (ds_for B.toBd (di_seq (de_var B.toBx 2) rfl) (DFor.foldP (fun _ : Unit => [Sl.val (.scr ns), .val (.lst (zs.map D.int)), .val (.lst (fst.map qD)), .val (.lst (snd.map qD)), .any, .any, .any, .any, .any, .any, .any]) qD (fun b _ => b) (fun _ _ => True) fst [] () True.intro ?_).1) ?_
  · intro pre p post _ hp _
    have gp := gf p (by rw [show fst = pre ++ p :: post from hp]; simp)
    have lp := gp.2.1
    refine ⟨⟨_, _, dg_name B.toBx 4, ?_⟩, True.intro⟩
    -- for _law_other_here in _law_second + [_law_one, _law_opposite(_law_one)]:
    refine dk_cons (ds_for B.toBd (di_seq (ds := (snd ++ [p, oppF p]).map qD) ((df_cat (de_var B.toBx 3) (df_lst (da_cons (de_var B.toBx 4) (da_cons (de_call B c__law_opposite hk5 (da_cons (de_var B.toBx 4) da_nil) rfl ⟨p, rfl, by omega, rfl⟩) da_nil)) (show (2 : Nat) ≤ sizeLine by decide)).de ?_).of_eq (ds' := (snd ++ [p, oppF p]).map qD) (by rw [List.map_append]; rfl)).de rfl) (DFor.foldP (fun _ : Unit => [Sl.val (.scr ns), .val (.lst (zs.map D.int)), .val (.lst (fst.map qD)), .val (.lst (snd.map qD)), .val (qD p), .any, .any, .any, .any, .any, .any]) qD (fun b _ => b) (fun _ _ => True) (snd ++ [p, oppF p]) [] () True.intro ?_).1) ?_
    · rw [List.length_map, ls]; exact (show (4 : Nat) + 2 ≤ sizeLine by decide)
    · intro pre2 o post2 _ hp2 _
      have go : Good o := by
        have : o ∈ snd ++ [p, oppF p] := by rw [show snd ++ [p, oppF p] = pre2 ++ o :: post2 from hp2]; simp
        simp only [List.mem_append, List.mem_cons, List.not_mem_nil, or_false] at this
        rcases this with h | h | h
        · exact gs o h
        · rw [h]; exact gp
        · rw [h]; exact gp.opp
      have lo := go.2.1
      refine ⟨⟨_, _, dg_name B.toBx 5, ?_⟩, True.intro⟩
      -- for _law_far in [_law_other_here, _law_opposite(_law_other_here)]:
      refine dk_cons (ds_for B.toBd (di_seq (ds := [o, oppF o].map qD) ((df_lst (da_cons (de_var B.toBx 5) (da_cons (de_call B c__law_opposite hk5 (da_cons (de_var B.toBx 5) da_nil) rfl ⟨o, rfl, by omega, rfl⟩) da_nil)) (show (2 : Nat) ≤ sizeLine by decide)).of_eq (ds' := [o, oppF o].map qD) rfl).de rfl) (DFor.foldP (fun _ : Unit => [Sl.val (.scr ns), .val (.lst (zs.map D.int)), .val (.lst (fst.map qD)), .val (.lst (snd.map qD)), .val (qD p), .val (qD o), .any, .any, .any, .any, .any]) qD (fun b _ => b) (fun _ _ => True) [o, oppF o] [] () True.intro ?_).1) ?_
      · intro pre3 q post3 _ hp3 _
        have gq : Good q := by
          have : q ∈ [o, oppF o] := by rw [show [o, oppF o] = pre3 ++ q :: post3 from hp3]; simp
          simp only [List.mem_cons, List.not_mem_nil, or_false] at this
          rcases this with h | h
          · rw [h]; exact go
          · rw [h]; exact go.opp
        have tpq := gp.two gq
        have tqp := gq.two gp
        refine ⟨⟨_, _, dg_name B.toBx 6, ?_⟩, True.intro⟩
        -- _law_due = _law_relation(_law_one, _law_far)
        refine dk_cons (ds_set B.toBx 7 (de_call B c__law_relation hk6 (da_cons (de_var B.toBx 4) (da_cons (de_var B.toBx 6) da_nil)) rfl ⟨p, q, rfl, gp.s5, gq.s5, rfl⟩)) ?_
        refine dk_if ((dt_bool (dw_or (dt_ne (de_call (r := .ok (.int (dbl p q))) B c_double hk8 (da_cons (de_var B.toBx 4) (da_cons (de_var B.toBx 6) da_nil)) rfl ⟨_, _, p, q, rfl, rfl, rfl, gp.b5, gq.b5, by rw [tpq]; rfl⟩) (de_call B c__law_double hk9 (da_cons (de_var B.toBx 4) (da_cons (de_var B.toBx 6) da_nil)) rfl ⟨p, q, rfl, gp.s5, gq.s5, rfl⟩)) fun h => (dw_or1 (dt_ne (de_call (r := .ok (.int (dbl p q))) B c_double hk8 (da_cons (df_list B.toBx py.list (de_var B.toBx 6) rfl).de (da_cons (df_list B.toBx py.list (de_var B.toBx 4) rfl).de da_nil)) rfl ⟨_, _, q, p, rfl, rfl, rfl, gq.b5, gp.b5, by rw [tqp, dbl_comm q p]; rfl⟩) (de_call B c__law_double hk9 (da_cons (de_var B.toBx 4) (da_cons (de_var B.toBx 6) da_nil)) rfl ⟨p, q, rfl, gp.s5, gq.s5, rfl⟩))))).ofB (d' := false) (by simp)) (fun h1 => nomatch h1) (fun h1 => ?_)
        refine dk_nil ?_
        -- _law_told = touch(_law_one, _law_far)
        refine dk_cons (ds_set (d := .bl (touF p q)) B.toBx 8 (de_call B c_touch hk7 (da_cons (de_var B.toBx 4) (da_cons (de_var B.toBx 6) da_nil)) rfl ⟨_, _, p, q, rfl, rfl, rfl, gp.b5, gq.b5, by rw [tpq]; rfl⟩)) ?_
        refine dk_if ((dt_bool (dw_or (dt_not (dt_val (de_isi (u := "bool") (p := true) B.toBx py.isinstance py.bool (de_var B.toBx 8) rfl (by decide +kernel) (by decide +kernel)))) fun h => (dw_or (dt_neB (de_var B.toBx 8) (de_eqS (de_var B.toBx 7) de_str)) fun h => (dw_or1 (dt_neB (de_call (r := .ok (.bl (touF p q))) B c_touch hk7 (da_cons (df_list B.toBx py.list (de_var B.toBx 6) rfl).de (da_cons (de_var B.toBx 4) da_nil)) rfl ⟨_, _, q, p, rfl, rfl, rfl, gq.b5, gp.b5, by rw [tqp, show touF q p = touF p q by unfold touF; rw [dbl_comm, outF_comm]]; rfl⟩) (de_var B.toBx 8)))))).ofB (d' := false) ?_) (fun h1 => nomatch h1) (fun h1 => ?_)
        · rw [← relF_touch p q gp.1 gq.1]; simp
        refine dk_nil ?_
        refine dk_if ((dt_bool (dw_or (dt_neS (de_call (r := .ok (.str (relF p q))) B c_relation hk10 (da_cons (de_var B.toBx 4) (da_cons (de_var B.toBx 6) da_nil)) rfl ⟨_, _, p, q, rfl, rfl, rfl, gp.b5, gq.b5, by rw [tpq]; rfl⟩) (de_var B.toBx 7)) fun h => (dw_or1 (dt_neS (de_call (r := .ok (.str (relF p q))) B c_relation hk10 (da_cons (de_var B.toBx 6) (da_cons (df_list B.toBx py.list (de_var B.toBx 4) rfl).de da_nil)) rfl ⟨_, _, q, p, rfl, rfl, rfl, gq.b5, gp.b5, by rw [tqp, relF_comm q p]; rfl⟩) (de_var B.toBx 7))))).ofB (d' := false) (by simp)) (fun h1 => nomatch h1) (fun h1 => ?_)
        refine dk_nil (dk_nil (dk_fin (goes_nx ?_)))
        walk_at "le"
      refine dk_nil (dk_fin (goes_nx ?_))
      walk_at "le"
    refine dk_nil (dk_fin (goes_nx ?_))
    walk_at "le"
  -- _law_bad = ..
  refine dk_cons (ds_set (d := qD (badF zs)) B.toBx 9 (de_ixL ((df_lst (da_cons (de_tup (da_cons de_int (da_cons de_int (da_cons de_int (da_cons de_int da_nil))))) (da_cons (de_tup (da_cons de_int (da_cons de_int da_nil))) (da_cons (de_tup da_nil) (da_cons (de_tup (da_cons de_int (da_cons de_int (da_cons de_int (da_cons de_int da_nil))))) da_nil))))).of_eq (ds' := ([[1, 1, 1, 0], [1, 2], [], [0, 0, 0, 0]] : List (List Int)).map qD) rfl).de (de_mod (de_int1 B.toBx py.int (de_ixL (de_var B.toBx 1) de_int (dr.at 39))) de_int (by decide)) (atD (g := qD) (z := []) m4.1 m4.2))) ?_
  have g0 : Good (fst.getD 0 []) := gf _ (by rw [List.getD_eq_getElem?_getD, List.getElem?_eq_getElem (by omega)]; exact List.getElem_mem _)
  have a0 : atI (fst.map qD) 0 = some (qD (fst.getD 0 [])) := atD (g := qD) (z := []) (i := 0) (by decide) (by omega)
  -- return ..
  exact dk_leave (ds_ret (de_and (p := true) (t := true) (de_call B c__law_refused hk4 (da_cons (de_var B.toBx 9) (da_cons (de_ixL (de_var B.toBx 2) de_int a0) da_nil)) rfl ⟨badF zs, fst.getD 0 [], rfl, b2, g0.b5, by unfold twoC; rw [b1]; rfl, rfl⟩) fun h => (de_one (de_call B c__law_refused hk4 (da_cons (de_ixL (de_var B.toBx 2) de_int a0) (da_cons (de_var B.toBx 9) da_nil)) rfl ⟨fst.getD 0 [], badF zs, rfl, g0.b5, b2, by unfold twoC; rw [b1, Bool.and_false], rfl⟩)))) rfl
end Law

namespace Law
theorem ends {P : Program} {w : World} {K : PySem.W.Frag} {h : Heap} {mg : Str → Option Value} {fa : Addr} (X : K.In h) (G : h.Ns mainGlobals mg) (hfa : mg "law" = some (.ref fa))
    {CInvalidCircle : Addr}
    {f_law_row : Addr} {oc_law_row kV_law_row dc_law_row pm_law_row cd_law_row ct_law_row : Value} {od_law_row an_law_row : Option Addr} {sl_law_row : Array (Option Value)}
    {f_law_numbers : Addr} {oc_law_numbers kV_law_numbers dc_law_numbers pm_law_numbers cd_law_numbers ct_law_numbers : Value} {od_law_numbers an_law_numbers : Option Addr} {sl_law_numbers : Array (Option Value)}
    {fis_circle : Addr} {ocis_circle kVis_circle dcis_circle pmis_circle cdis_circle ctis_circle : Value} {odis_circle anis_circle : Option Addr} {slis_circle : Array (Option Value)}
    {fcheck_circle : Addr} {occheck_circle kVcheck_circle dccheck_circle pmcheck_circle cdcheck_circle ctcheck_circle : Value} {odcheck_circle ancheck_circle : Option Addr} {slcheck_circle : Array (Option Value)}
    {fopposite : Addr} {ocopposite kVopposite dcopposite pmopposite cdopposite ctopposite : Value} {odopposite anopposite : Option Addr} {slopposite : Array (Option Value)}
    {f_law_given : Addr} {oc_law_given kV_law_given dc_law_given pm_law_given cd_law_given ct_law_given : Value} {od_law_given an_law_given : Option Addr} {sl_law_given : Array (Option Value)}
    {f_law_moved : Addr} {oc_law_moved kV_law_moved dc_law_moved pm_law_moved cd_law_moved ct_law_moved : Value} {od_law_moved an_law_moved : Option Addr} {sl_law_moved : Array (Option Value)}
    {f_law_laid : Addr} {oc_law_laid kV_law_laid dc_law_laid pm_law_laid cd_law_laid ct_law_laid : Value} {od_law_laid an_law_laid : Option Addr} {sl_law_laid : Array (Option Value)}
    {f_law_other : Addr} {oc_law_other kV_law_other dc_law_other pm_law_other cd_law_other ct_law_other : Value} {od_law_other an_law_other : Option Addr} {sl_law_other : Array (Option Value)}
    {f_law_fallen : Addr} {oc_law_fallen kV_law_fallen dc_law_fallen pm_law_fallen cd_law_fallen ct_law_fallen : Value} {od_law_fallen an_law_fallen : Option Addr} {sl_law_fallen : Array (Option Value)}
    {f_law_four : Addr} {oc_law_four kV_law_four dc_law_four pm_law_four cd_law_four ct_law_four : Value} {od_law_four an_law_four : Option Addr} {sl_law_four : Array (Option Value)}
    {f_law_opposite : Addr} {oc_law_opposite kV_law_opposite dc_law_opposite pm_law_opposite cd_law_opposite ct_law_opposite : Value} {od_law_opposite an_law_opposite : Option Addr} {sl_law_opposite : Array (Option Value)}
    {fdouble : Addr} {ocdouble kVdouble dcdouble pmdouble cddouble ctdouble : Value} {oddouble andouble : Option Addr} {sldouble : Array (Option Value)}
    {fare_outward : Addr} {ocare_outward kVare_outward dcare_outward pmare_outward cdare_outward ctare_outward : Value} {odare_outward anare_outward : Option Addr} {slare_outward : Array (Option Value)}
    {ftouch : Addr} {octouch kVtouch dctouch pmtouch cdtouch cttouch : Value} {odtouch antouch : Option Addr} {sltouch : Array (Option Value)}
    {frelation : Addr} {ocrelation kVrelation dcrelation pmrelation cdrelation ctrelation : Value} {odrelation anrelation : Option Addr} {slrelation : Array (Option Value)}
    {f_law_double : Addr} {oc_law_double kV_law_double dc_law_double pm_law_double cd_law_double ct_law_double : Value} {od_law_double an_law_double : Option Addr} {sl_law_double : Array (Option Value)}
    {f_law_relation : Addr} {oc_law_relation kV_law_relation dc_law_relation pm_law_relation cd_law_relation ct_law_relation : Value} {od_law_relation an_law_relation : Option Addr} {sl_law_relation : Array (Option Value)}
    {f_law_refused : Addr} {oc_law_refused kV_law_refused dc_law_refused pm_law_refused cd_law_refused ct_law_refused : Value} {od_law_refused an_law_refused : Option Addr} {sl_law_refused : Array (Option Value)}
    {flaw : Addr} {oclaw kVlaw dclaw pmlaw cdlaw ctlaw : Value} {odlaw anlaw : Option Addr} {sllaw : Array (Option Value)}
    (mInvalidCircle : PySem.W.nsIn K mainGlobals "InvalidCircle" = some (some (.ref CInvalidCircle)))
    (x1InvalidCircle : PySem.W.excIn K CInvalidCircle [.type "ValueError", .type "Exception", .type "BaseException", .type "object"] "ValueError.__new__" = true)
    (x2InvalidCircle : PySem.W.keepIn K (.ref CInvalidCircle) = true)
    (x3InvalidCircle : PySem.W.subIn K (.ref CInvalidCircle) (.type "BaseException") = some true)
    (x4InvalidCircle : PySem.W.typeIn K (.ref CInvalidCircle) = some (.type "type"))
    (q1InvalidCircle : PySem.W.subIn K (.ref CInvalidCircle) (.type "BaseException") = some true)
    (q2InvalidCircle : PySem.W.isClsIn K CInvalidCircle = true)
    (q3InvalidCircle : PySem.W.typeIn K (.ref CInvalidCircle) = some (.type "type"))
    (sREX_InvalidCircle_InvalidCircle : PySem.W.subIn K (.ref CInvalidCircle) (.ref CInvalidCircle) = some true)
    (o0InvalidCircle : PySem.W.findIn K (.ref CInvalidCircle) "__getattribute__" = some (some (.builtin "BaseException.__getattribute__")))
    (o1InvalidCircle : PySem.W.findIn K (.ref CInvalidCircle) "__getattr__" = some none)
    (o2InvalidCircle : PySem.W.subIn K (.ref CInvalidCircle) (.type "BaseException") = some true)
    (o3InvalidCircle : PySem.W.hasDictIn K CInvalidCircle = true)
    (o4InvalidCircle : PySem.W.findIn K (.ref CInvalidCircle) "__class__" = some (some (.builtin "object.__class__")))
    (o5InvalidCircle : PySem.W.specialIn K (.builtin "object.__class__") "__get__" = some (some (.builtin "getset_descriptor.__get__")))
    (o6InvalidCircle : PySem.W.takesIn K (.builtin "object.__class__") = some true)
    (o7InvalidCircle : PySem.W.mroIn K CInvalidCircle (.type "object") = some true)
    (o8InvalidCircle : PySem.W.subIn K (.ref CInvalidCircle) (.ref CInvalidCircle) = some true)
    (sRKIT_InvalidCircle_ValueError : PySem.W.subIn K (.ref CInvalidCircle) (.type "ValueError") = some true)
    (zabs : PySem.W.nsIn K mainGlobals "abs" = some none)
    (zall : PySem.W.nsIn K mainGlobals "all" = some none)
    (zany : PySem.W.nsIn K mainGlobals "any" = some none)
    (zbool : PySem.W.nsIn K mainGlobals "bool" = some none)
    (zdict : PySem.W.nsIn K mainGlobals "dict" = some none)
    (zdivmod : PySem.W.nsIn K mainGlobals "divmod" = some none)
    (zenumerate : PySem.W.nsIn K mainGlobals "enumerate" = some none)
    (zint : PySem.W.nsIn K mainGlobals "int" = some none)
    (zisinstance : PySem.W.nsIn K mainGlobals "isinstance" = some none)
    (zlen : PySem.W.nsIn K mainGlobals "len" = some none)
    (zlist : PySem.W.nsIn K mainGlobals "list" = some none)
    (zmax : PySem.W.nsIn K mainGlobals "max" = some none)
    (zmin : PySem.W.nsIn K mainGlobals "min" = some none)
    (zrange : PySem.W.nsIn K mainGlobals "range" = some none)
    (zrepr : PySem.W.nsIn K mainGlobals "repr" = some none)
    (zsorted : PySem.W.nsIn K mainGlobals "sorted" = some none)
    (zstr : PySem.W.nsIn K mainGlobals "str" = some none)
    (zsum : PySem.W.nsIn K mainGlobals "sum" = some none)
    (ztuple : PySem.W.nsIn K mainGlobals "tuple" = some none)
    (ztype : PySem.W.nsIn K mainGlobals "type" = some none)
    (zzip : PySem.W.nsIn K mainGlobals "zip" = some none)
    (zValueError : PySem.W.nsIn K mainGlobals "ValueError" = some none)
    (a_law_row : PySem.W.nsIn K mainGlobals "_law_row" = some (some (.ref f_law_row)))
    (l_law_row : K.lookup f_law_row = some ⟨oc_law_row, od_law_row, .func (PySem.W.fnOf "_law_row" "_law_row" (defArgs s__law_row) (defBody s__law_row) (defScope s__law_row) .none kV_law_row dc_law_row pm_law_row an_law_row cd_law_row ct_law_row), sl_law_row⟩)
    (c_law_row : PySem.W.codeIn K cd_law_row "_law_row" = true)
    (k_law_row : PySem.W.keepIn K (.ref f_law_row) = true)
    (a_law_numbers : PySem.W.nsIn K mainGlobals "_law_numbers" = some (some (.ref f_law_numbers)))
    (l_law_numbers : K.lookup f_law_numbers = some ⟨oc_law_numbers, od_law_numbers, .func (PySem.W.fnOf "_law_numbers" "_law_numbers" (defArgs s__law_numbers) (defBody s__law_numbers) (defScope s__law_numbers) .none kV_law_numbers dc_law_numbers pm_law_numbers an_law_numbers cd_law_numbers ct_law_numbers), sl_law_numbers⟩)
    (c_law_numbers : PySem.W.codeIn K cd_law_numbers "_law_numbers" = true)
    (k_law_numbers : PySem.W.keepIn K (.ref f_law_numbers) = true)
    (ais_circle : PySem.W.nsIn K mainGlobals "is_circle" = some (some (.ref fis_circle)))
    (lis_circle : K.lookup fis_circle = some ⟨ocis_circle, odis_circle, .func (PySem.W.fnOf "is_circle" "is_circle" (defArgs s_is_circle) (defBody s_is_circle) (defScope s_is_circle) .none kVis_circle dcis_circle pmis_circle anis_circle cdis_circle ctis_circle), slis_circle⟩)
    (cis_circle : PySem.W.codeIn K cdis_circle "is_circle" = true)
    (kis_circle : PySem.W.keepIn K (.ref fis_circle) = true)
    (acheck_circle : PySem.W.nsIn K mainGlobals "check_circle" = some (some (.ref fcheck_circle)))
    (lcheck_circle : K.lookup fcheck_circle = some ⟨occheck_circle, odcheck_circle, .func (PySem.W.fnOf "check_circle" "check_circle" (defArgs s_check_circle) (defBody s_check_circle) (defScope s_check_circle) .none kVcheck_circle dccheck_circle pmcheck_circle ancheck_circle cdcheck_circle ctcheck_circle), slcheck_circle⟩)
    (ccheck_circle : PySem.W.codeIn K cdcheck_circle "check_circle" = true)
    (kcheck_circle : PySem.W.keepIn K (.ref fcheck_circle) = true)
    (aopposite : PySem.W.nsIn K mainGlobals "opposite" = some (some (.ref fopposite)))
    (lopposite : K.lookup fopposite = some ⟨ocopposite, odopposite, .func (PySem.W.fnOf "opposite" "opposite" (defArgs s_opposite) (defBody s_opposite) (defScope s_opposite) .none kVopposite dcopposite pmopposite anopposite cdopposite ctopposite), slopposite⟩)
    (copposite : PySem.W.codeIn K cdopposite "opposite" = true)
    (kopposite : PySem.W.keepIn K (.ref fopposite) = true)
    (a_law_given : PySem.W.nsIn K mainGlobals "_law_given" = some (some (.ref f_law_given)))
    (l_law_given : K.lookup f_law_given = some ⟨oc_law_given, od_law_given, .func (PySem.W.fnOf "_law_given" "_law_given" (defArgs s__law_given) (defBody s__law_given) (defScope s__law_given) .none kV_law_given dc_law_given pm_law_given an_law_given cd_law_given ct_law_given), sl_law_given⟩)
    (c_law_given : PySem.W.codeIn K cd_law_given "_law_given" = true)
    (k_law_given : PySem.W.keepIn K (.ref f_law_given) = true)
    (a_law_moved : PySem.W.nsIn K mainGlobals "_law_moved" = some (some (.ref f_law_moved)))
    (l_law_moved : K.lookup f_law_moved = some ⟨oc_law_moved, od_law_moved, .func (PySem.W.fnOf "_law_moved" "_law_moved" (defArgs s__law_moved) (defBody s__law_moved) (defScope s__law_moved) .none kV_law_moved dc_law_moved pm_law_moved an_law_moved cd_law_moved ct_law_moved), sl_law_moved⟩)
    (c_law_moved : PySem.W.codeIn K cd_law_moved "_law_moved" = true)
    (k_law_moved : PySem.W.keepIn K (.ref f_law_moved) = true)
    (a_law_laid : PySem.W.nsIn K mainGlobals "_law_laid" = some (some (.ref f_law_laid)))
    (l_law_laid : K.lookup f_law_laid = some ⟨oc_law_laid, od_law_laid, .func (PySem.W.fnOf "_law_laid" "_law_laid" (defArgs s__law_laid) (defBody s__law_laid) (defScope s__law_laid) .none kV_law_laid dc_law_laid pm_law_laid an_law_laid cd_law_laid ct_law_laid), sl_law_laid⟩)
    (c_law_laid : PySem.W.codeIn K cd_law_laid "_law_laid" = true)
    (k_law_laid : PySem.W.keepIn K (.ref f_law_laid) = true)
    (a_law_other : PySem.W.nsIn K mainGlobals "_law_other" = some (some (.ref f_law_other)))
    (l_law_other : K.lookup f_law_other = some ⟨oc_law_other, od_law_other, .func (PySem.W.fnOf "_law_other" "_law_other" (defArgs s__law_other) (defBody s__law_other) (defScope s__law_other) .none kV_law_other dc_law_other pm_law_other an_law_other cd_law_other ct_law_other), sl_law_other⟩)
    (c_law_other : PySem.W.codeIn K cd_law_other "_law_other" = true)
    (k_law_other : PySem.W.keepIn K (.ref f_law_other) = true)
    (a_law_fallen : PySem.W.nsIn K mainGlobals "_law_fallen" = some (some (.ref f_law_fallen)))
    (l_law_fallen : K.lookup f_law_fallen = some ⟨oc_law_fallen, od_law_fallen, .func (PySem.W.fnOf "_law_fallen" "_law_fallen" (defArgs s__law_fallen) (defBody s__law_fallen) (defScope s__law_fallen) .none kV_law_fallen dc_law_fallen pm_law_fallen an_law_fallen cd_law_fallen ct_law_fallen), sl_law_fallen⟩)
    (c_law_fallen : PySem.W.codeIn K cd_law_fallen "_law_fallen" = true)
    (k_law_fallen : PySem.W.keepIn K (.ref f_law_fallen) = true)
    (a_law_four : PySem.W.nsIn K mainGlobals "_law_four" = some (some (.ref f_law_four)))
    (l_law_four : K.lookup f_law_four = some ⟨oc_law_four, od_law_four, .func (PySem.W.fnOf "_law_four" "_law_four" (defArgs s__law_four) (defBody s__law_four) (defScope s__law_four) .none kV_law_four dc_law_four pm_law_four an_law_four cd_law_four ct_law_four), sl_law_four⟩)
    (c_law_four : PySem.W.codeIn K cd_law_four "_law_four" = true)
    (k_law_four : PySem.W.keepIn K (.ref f_law_four) = true)
    (a_law_opposite : PySem.W.nsIn K mainGlobals "_law_opposite" = some (some (.ref f_law_opposite)))
    (l_law_opposite : K.lookup f_law_opposite = some ⟨oc_law_opposite, od_law_opposite, .func (PySem.W.fnOf "_law_opposite" "_law_opposite" (defArgs s__law_opposite) (defBody s__law_opposite) (defScope s__law_opposite) .none kV_law_opposite dc_law_opposite pm_law_opposite an_law_opposite cd_law_opposite ct_law_opposite), sl_law_opposite⟩)
    (c_law_opposite : PySem.W.codeIn K cd_law_opposite "_law_opposite" = true)
    (k_law_opposite : PySem.W.keepIn K (.ref f_law_opposite) = true)
    (adouble : PySem.W.nsIn K mainGlobals "double" = some (some (.ref fdouble)))
    (ldouble : K.lookup fdouble = some ⟨ocdouble, oddouble, .func (PySem.W.fnOf "double" "double" (defArgs s_double) (defBody s_double) (defScope s_double) .none kVdouble dcdouble pmdouble andouble cddouble ctdouble), sldouble⟩)
    (cdouble : PySem.W.codeIn K cddouble "double" = true)
    (kdouble : PySem.W.keepIn K (.ref fdouble) = true)
    (aare_outward : PySem.W.nsIn K mainGlobals "are_outward" = some (some (.ref fare_outward)))
    (lare_outward : K.lookup fare_outward = some ⟨ocare_outward, odare_outward, .func (PySem.W.fnOf "are_outward" "are_outward" (defArgs s_are_outward) (defBody s_are_outward) (defScope s_are_outward) .none kVare_outward dcare_outward pmare_outward anare_outward cdare_outward ctare_outward), slare_outward⟩)
    (care_outward : PySem.W.codeIn K cdare_outward "are_outward" = true)
    (kare_outward : PySem.W.keepIn K (.ref fare_outward) = true)
    (atouch : PySem.W.nsIn K mainGlobals "touch" = some (some (.ref ftouch)))
    (ltouch : K.lookup ftouch = some ⟨octouch, odtouch, .func (PySem.W.fnOf "touch" "touch" (defArgs s_touch) (defBody s_touch) (defScope s_touch) .none kVtouch dctouch pmtouch antouch cdtouch cttouch), sltouch⟩)
    (ctouch : PySem.W.codeIn K cdtouch "touch" = true)
    (ktouch : PySem.W.keepIn K (.ref ftouch) = true)
    (arelation : PySem.W.nsIn K mainGlobals "relation" = some (some (.ref frelation)))
    (lrelation : K.lookup frelation = some ⟨ocrelation, odrelation, .func (PySem.W.fnOf "relation" "relation" (defArgs s_relation) (defBody s_relation) (defScope s_relation) .none kVrelation dcrelation pmrelation anrelation cdrelation ctrelation), slrelation⟩)
    (crelation : PySem.W.codeIn K cdrelation "relation" = true)
    (krelation : PySem.W.keepIn K (.ref frelation) = true)
    (a_law_double : PySem.W.nsIn K mainGlobals "_law_double" = some (some (.ref f_law_double)))
    (l_law_double : K.lookup f_law_double = some ⟨oc_law_double, od_law_double, .func (PySem.W.fnOf "_law_double" "_law_double" (defArgs s__law_double) (defBody s__law_double) (defScope s__law_double) .none kV_law_double dc_law_double pm_law_double an_law_double cd_law_double ct_law_double), sl_law_double⟩)
    (c_law_double : PySem.W.codeIn K cd_law_double "_law_double" = true)
    (k_law_double : PySem.W.keepIn K (.ref f_law_double) = true)
    (a_law_relation : PySem.W.nsIn K mainGlobals "_law_relation" = some (some (.ref f_law_relation)))
    (l_law_relation : K.lookup f_law_relation = some ⟨oc_law_relation, od_law_relation, .func (PySem.W.fnOf "_law_relation" "_law_relation" (defArgs s__law_relation) (defBody s__law_relation) (defScope s__law_relation) .none kV_law_relation dc_law_relation pm_law_relation an_law_relation cd_law_relation ct_law_relation), sl_law_relation⟩)
    (c_law_relation : PySem.W.codeIn K cd_law_relation "_law_relation" = true)
    (k_law_relation : PySem.W.keepIn K (.ref f_law_relation) = true)
    (a_law_refused : PySem.W.nsIn K mainGlobals "_law_refused" = some (some (.ref f_law_refused)))
    (l_law_refused : K.lookup f_law_refused = some ⟨oc_law_refused, od_law_refused, .func (PySem.W.fnOf "_law_refused" "_law_refused" (defArgs s__law_refused) (defBody s__law_refused) (defScope s__law_refused) .none kV_law_refused dc_law_refused pm_law_refused an_law_refused cd_law_refused ct_law_refused), sl_law_refused⟩)
    (c_law_refused : PySem.W.codeIn K cd_law_refused "_law_refused" = true)
    (k_law_refused : PySem.W.keepIn K (.ref f_law_refused) = true)
    (alaw : PySem.W.nsIn K mainGlobals "law" = some (some (.ref flaw)))
    (llaw : K.lookup flaw = some ⟨oclaw, odlaw, .func (PySem.W.fnOf "law" "law" (defArgs s_law) (defBody s_law) (defScope s_law) .none kVlaw dclaw pmlaw anlaw cdlaw ctlaw), sllaw⟩)
    (claw : PySem.W.codeIn K cdlaw "law" = true)
    (klaw : PySem.W.keepIn K (.ref flaw) = true) :
    ∃ fd : FuncData, (∀ (s : Shared) (v : Value), BindsTo s fd ⟨[v], []⟩ [("_law_script", v)]) ∧ ∀ base : Heap, K.In base → base.Ns mainGlobals mg → FnG P w K mg base k_law fa fd ["_law_script"] (spOf K mg 1 ct_law) := by
  have e := hfa.symm.trans (PySem.W.mg_of X G alaw)
  cases e
  refine ⟨PySem.W.fnOf "law" "law" (defArgs s_law) (defBody s_law) (defScope s_law) .none kVlaw dclaw pmlaw anlaw cdlaw ctlaw, fun s v => .of_eq rfl, fun base _ _ => ?_⟩
  have E_InvalidCircle : ExC K mg "InvalidCircle" := ⟨_, PySem.W.mg_of X G mInvalidCircle, x1InvalidCircle, x2InvalidCircle, x3InvalidCircle, x4InvalidCircle⟩
  have O_InvalidCircle : L2.ExcC K CInvalidCircle := ⟨o0InvalidCircle, o1InvalidCircle, o2InvalidCircle, o3InvalidCircle, o4InvalidCircle, o5InvalidCircle, o6InvalidCircle, o7InvalidCircle⟩
  have REX_InvalidCircle_InvalidCircle : EX K mg "InvalidCircle" "InvalidCircle" true := ex_own (PySem.W.mg_of X G mInvalidCircle) (PySem.W.mg_of X G mInvalidCircle) q1InvalidCircle q2InvalidCircle q3InvalidCircle sREX_InvalidCircle_InvalidCircle
  have RKIT_InvalidCircle_ValueError : KIT K mg "InvalidCircle" "ValueError" true := kit_blt O_InvalidCircle (PySem.W.mg_of X G mInvalidCircle) (PySem.W.mg_none_of X G zValueError) (by decide +kernel) (by decide) (by decide +kernel) sRKIT_InvalidCircle_ValueError
  have py : Py mg := ⟨PySem.W.mg_none_of X G zabs, PySem.W.mg_none_of X G zall, PySem.W.mg_none_of X G zany, PySem.W.mg_none_of X G zbool, PySem.W.mg_none_of X G zdict, PySem.W.mg_none_of X G zdivmod, PySem.W.mg_none_of X G zenumerate, PySem.W.mg_none_of X G zint, PySem.W.mg_none_of X G zisinstance, PySem.W.mg_none_of X G zlen, PySem.W.mg_none_of X G zlist, PySem.W.mg_none_of X G zmax, PySem.W.mg_none_of X G zmin, PySem.W.mg_none_of X G zrange, PySem.W.mg_none_of X G zrepr, PySem.W.mg_none_of X G zsorted, PySem.W.mg_none_of X G zstr, PySem.W.mg_none_of X G zsum, PySem.W.mg_none_of X G ztuple, PySem.W.mg_none_of X G ztype, PySem.W.mg_none_of X G zzip, PySem.W.mg_none_of X G zValueError⟩
  have K__law_row : Fn P w K mg base "_law_row" k__law_row 2 ct__law_row := fn_known (fun_mk (st := s__law_row) l_law_row c_law_row k_law_row) (PySem.W.mg_of X G a_law_row) sc__law_row rfl ((fun_mk (st := s__law_row) l_law_row c_law_row k_law_row).binds fun _ _ _ _ _ _ us hl => match us, hl with | [_, _], _ => rfl) (k := k__law_row - 1) fun X W B e1 e2 e3 e4 e5 hf ht => by subst e1 e2 e3 e4 e5; exact b__law_row B py
  have K__law_numbers : Fn P w K mg base "_law_numbers" k__law_numbers 2 ct__law_numbers := fn_known (fun_mk (st := s__law_numbers) l_law_numbers c_law_numbers k_law_numbers) (PySem.W.mg_of X G a_law_numbers) sc__law_numbers rfl ((fun_mk (st := s__law_numbers) l_law_numbers c_law_numbers k_law_numbers).binds fun _ _ _ _ _ _ us hl => match us, hl with | [_, _], _ => rfl) (k := k__law_numbers - 1) fun X W B e1 e2 e3 e4 e5 hf ht => by subst e1 e2 e3 e4 e5; exact b__law_numbers B (by decide) py K__law_row
  have K_is_circle : Fn P w K mg base "is_circle" k_is_circle 1 ct_is_circle := fn_known (fun_mk (st := s_is_circle) lis_circle cis_circle kis_circle) (PySem.W.mg_of X G ais_circle) sc_is_circle rfl ((fun_mk (st := s_is_circle) lis_circle cis_circle kis_circle).binds fun _ _ _ _ _ _ us hl => match us, hl with | [_], _ => rfl) (k := k_is_circle - 1) fun X W B e1 e2 e3 e4 e5 hf ht => by subst e1 e2 e3 e4 e5; exact b_is_circle B py
  have K_check_circle : Fn P w K mg base "check_circle" k_check_circle 1 ct_check_circle := fn_known (fun_mk (st := s_check_circle) lcheck_circle ccheck_circle kcheck_circle) (PySem.W.mg_of X G acheck_circle) sc_check_circle rfl ((fun_mk (st := s_check_circle) lcheck_circle ccheck_circle kcheck_circle).binds fun _ _ _ _ _ _ us hl => match us, hl with | [_], _ => rfl) (k := k_check_circle - 1) fun X W B e1 e2 e3 e4 e5 hf ht => by subst e1 e2 e3 e4 e5; exact b_check_circle B (by decide) py K_is_circle E_InvalidCircle
  have K_opposite : Fn P w K mg base "opposite" k_opposite 1 ct_opposite := fn_known (fun_mk (st := s_opposite) lopposite copposite kopposite) (PySem.W.mg_of X G aopposite) sc_opposite rfl ((fun_mk (st := s_opposite) lopposite copposite kopposite).binds fun _ _ _ _ _ _ us hl => match us, hl with | [_], _ => rfl) (k := k_opposite - 1) fun X W B e1 e2 e3 e4 e5 hf ht => by subst e1 e2 e3 e4 e5; exact b_opposite B (by decide) py K_check_circle
  have K__law_given : Fn P w K mg base "_law_given" k__law_given 1 ct__law_given := fn_known (fun_mk (st := s__law_given) l_law_given c_law_given k_law_given) (PySem.W.mg_of X G a_law_given) sc__law_given rfl ((fun_mk (st := s__law_given) l_law_given c_law_given k_law_given).binds fun _ _ _ _ _ _ us hl => match us, hl with | [_], _ => rfl) (k := k__law_given - 1) fun X W B e1 e2 e3 e4 e5 hf ht => by subst e1 e2 e3 e4 e5; exact b__law_given B py
  have K__law_moved : Fn P w K mg base "_law_moved" k__law_moved 3 ct__law_moved := fn_known (fun_mk (st := s__law_moved) l_law_moved c_law_moved k_law_moved) (PySem.W.mg_of X G a_law_moved) sc__law_moved rfl ((fun_mk (st := s__law_moved) l_law_moved c_law_moved k_law_moved).binds fun _ _ _ _ _ _ us hl => match us, hl with | [_, _, _], _ => rfl) (k := k__law_moved - 1) fun X W B e1 e2 e3 e4 e5 hf ht => by subst e1 e2 e3 e4 e5; exact b__law_moved B py
  have K__law_laid : Fn P w K mg base "_law_laid" k__law_laid 3 ct__law_laid := fn_known (fun_mk (st := s__law_laid) l_law_laid c_law_laid k_law_laid) (PySem.W.mg_of X G a_law_laid) sc__law_laid rfl ((fun_mk (st := s__law_laid) l_law_laid c_law_laid k_law_laid).binds fun _ _ _ _ _ _ us hl => match us, hl with | [_, _, _], _ => rfl) (k := k__law_laid - 1) fun X W B e1 e2 e3 e4 e5 hf ht => by subst e1 e2 e3 e4 e5; exact b__law_laid B (by decide) py K__law_moved
  have K__law_other : Fn P w K mg base "_law_other" k__law_other 2 ct__law_other := fn_known (fun_mk (st := s__law_other) l_law_other c_law_other k_law_other) (PySem.W.mg_of X G a_law_other) sc__law_other rfl ((fun_mk (st := s__law_other) l_law_other c_law_other k_law_other).binds fun _ _ _ _ _ _ us hl => match us, hl with | [_, _], _ => rfl) (k := k__law_other - 1) fun X W B e1 e2 e3 e4 e5 hf ht => by subst e1 e2 e3 e4 e5; exact b__law_other B py
  have K__law_fallen : Fn P w K mg base "_law_fallen" k__law_fallen 2 ct__law_fallen := fn_known (fun_mk (st := s__law_fallen) l_law_fallen c_law_fallen k_law_fallen) (PySem.W.mg_of X G a_law_fallen) sc__law_fallen rfl ((fun_mk (st := s__law_fallen) l_law_fallen c_law_fallen k_law_fallen).binds fun _ _ _ _ _ _ us hl => match us, hl with | [_, _], _ => rfl) (k := k__law_fallen - 1) fun X W B e1 e2 e3 e4 e5 hf ht => by subst e1 e2 e3 e4 e5; exact b__law_fallen B (by decide) py K__law_other
  have K__law_four : Fn P w K mg base "_law_four" k__law_four 2 ct__law_four := fn_known (fun_mk (st := s__law_four) l_law_four c_law_four k_law_four) (PySem.W.mg_of X G a_law_four) sc__law_four rfl ((fun_mk (st := s__law_four) l_law_four c_law_four k_law_four).binds fun _ _ _ _ _ _ us hl => match us, hl with | [_, _], _ => rfl) (k := k__law_four - 1) fun X W B e1 e2 e3 e4 e5 hf ht => by subst e1 e2 e3 e4 e5; exact b__law_four B (by decide) (by decide) (by decide) py K__law_fallen K__law_laid K__law_given
  have K__law_opposite : Fn P w K mg base "_law_opposite" k__law_opposite 1 ct__law_opposite := fn_known (fun_mk (st := s__law_opposite) l_law_opposite c_law_opposite k_law_opposite) (PySem.W.mg_of X G a_law_opposite) sc__law_opposite rfl ((fun_mk (st := s__law_opposite) l_law_opposite c_law_opposite k_law_opposite).binds fun _ _ _ _ _ _ us hl => match us, hl with | [_], _ => rfl) (k := k__law_opposite - 1) fun X W B e1 e2 e3 e4 e5 hf ht => by subst e1 e2 e3 e4 e5; exact b__law_opposite B py
  have K_double : Fn P w K mg base "double" k_double 2 ct_double := fn_known (fun_mk (st := s_double) ldouble cdouble kdouble) (PySem.W.mg_of X G adouble) sc_double rfl ((fun_mk (st := s_double) ldouble cdouble kdouble).binds fun _ _ _ _ _ _ us hl => match us, hl with | [_, _], _ => rfl) (k := k_double - 1) fun X W B e1 e2 e3 e4 e5 hf ht => by subst e1 e2 e3 e4 e5; exact b_double B (by decide) py K_check_circle
  have K_are_outward : Fn P w K mg base "are_outward" k_are_outward 2 ct_are_outward := fn_known (fun_mk (st := s_are_outward) lare_outward care_outward kare_outward) (PySem.W.mg_of X G aare_outward) sc_are_outward rfl ((fun_mk (st := s_are_outward) lare_outward care_outward kare_outward).binds fun _ _ _ _ _ _ us hl => match us, hl with | [_, _], _ => rfl) (k := k_are_outward - 1) fun X W B e1 e2 e3 e4 e5 hf ht => by subst e1 e2 e3 e4 e5; exact b_are_outward B py
  have K_touch : Fn P w K mg base "touch" k_touch 2 ct_touch := fn_known (fun_mk (st := s_touch) ltouch ctouch ktouch) (PySem.W.mg_of X G atouch) sc_touch rfl ((fun_mk (st := s_touch) ltouch ctouch ktouch).binds fun _ _ _ _ _ _ us hl => match us, hl with | [_, _], _ => rfl) (k := k_touch - 1) fun X W B e1 e2 e3 e4 e5 hf ht => by subst e1 e2 e3 e4 e5; exact b_touch B (by decide) (by decide) py K_are_outward K_double
  have K_relation : Fn P w K mg base "relation" k_relation 2 ct_relation := fn_known (fun_mk (st := s_relation) lrelation crelation krelation) (PySem.W.mg_of X G arelation) sc_relation rfl ((fun_mk (st := s_relation) lrelation crelation krelation).binds fun _ _ _ _ _ _ us hl => match us, hl with | [_, _], _ => rfl) (k := k_relation - 1) fun X W B e1 e2 e3 e4 e5 hf ht => by subst e1 e2 e3 e4 e5; exact b_relation B (by decide) (by decide) (by decide) py K_double K_opposite K_are_outward
  have K__law_double : Fn P w K mg base "_law_double" k__law_double 2 ct__law_double := fn_known (fun_mk (st := s__law_double) l_law_double c_law_double k_law_double) (PySem.W.mg_of X G a_law_double) sc__law_double rfl ((fun_mk (st := s__law_double) l_law_double c_law_double k_law_double).binds fun _ _ _ _ _ _ us hl => match us, hl with | [_, _], _ => rfl) (k := k__law_double - 1) fun X W B e1 e2 e3 e4 e5 hf ht => by subst e1 e2 e3 e4 e5; exact b__law_double B py
  have K__law_relation : Fn P w K mg base "_law_relation" k__law_relation 2 ct__law_relation := fn_known (fun_mk (st := s__law_relation) l_law_relation c_law_relation k_law_relation) (PySem.W.mg_of X G a_law_relation) sc__law_relation rfl ((fun_mk (st := s__law_relation) l_law_relation c_law_relation k_law_relation).binds fun _ _ _ _ _ _ us hl => match us, hl with | [_, _], _ => rfl) (k := k__law_relation - 1) fun X W B e1 e2 e3 e4 e5 hf ht => by subst e1 e2 e3 e4 e5; exact b__law_relation B (by decide) (by decide) py K__law_double K__law_opposite
  have K__law_refused : Fn P w K mg base "_law_refused" k__law_refused 2 ct__law_refused := fn_known (fun_mk (st := s__law_refused) l_law_refused c_law_refused k_law_refused) (PySem.W.mg_of X G a_law_refused) sc__law_refused rfl ((fun_mk (st := s__law_refused) l_law_refused c_law_refused k_law_refused).binds fun _ _ _ _ _ _ us hl => match us, hl with | [_, _], _ => rfl) (k := k__law_refused - 1) fun X W B e1 e2 e3 e4 e5 hf ht => by subst e1 e2 e3 e4 e5; exact b__law_refused B ht (by decide) (by decide) (by decide) py REX_InvalidCircle_InvalidCircle RKIT_InvalidCircle_ValueError K_double K_touch K_relation
  exact fn_ok (fun_mk (st := s_law) llaw claw klaw) sc_law rfl (k := k_law - 1) fun X W B e1 e2 e3 e4 e5 hf ht => by subst e1 e2 e3 e4 e5; exact b_law B hf (by decide) (by decide) (by decide) (by decide) (by decide) (by decide) (by decide) (by decide) (by decide) (by decide) py K__law_numbers K__law_four K__law_fallen K__law_refused K__law_opposite K__law_relation K_touch K_double K__law_double K_relation
end Law
open PySem PySem.W PyProof.Rows in
set_option maxRecDepth 100000 in
set_option maxHeartbeats 0 in
theorem PySem.Challenge.cw_fourtouch_k01_doubles_and_relations_holds : PySem.Challenge.rw_fourtouch_k01_doubles_and_relations.Holds := by
  w_on; o_law; k_head; (case hw => w_witness2)
  k_fill
  refine DL.walk_end (l := PySem.Challenge.rw_fourtouch_k01_doubles_and_relations) (n := 63) (k := Law.k_law) (x := "_law_script") (ct := Law.ct_law) rfl (by decide) rfl ⟨rfl, by decide, by decide⟩ (fun w h Y => PySem.W.kIn_of Y) ?F (fun ns _ _ => ⟨ns, rfl, rfl⟩)
  case F =>
    intro w mg fa h KX G hmg
    refine' Law.ends KX G hmg ?mInvalidCircle ?x1InvalidCircle ?x2InvalidCircle ?x3InvalidCircle ?x4InvalidCircle ?q1InvalidCircle ?q2InvalidCircle ?q3InvalidCircle ?sREX_InvalidCircle_InvalidCircle ?o0InvalidCircle ?o1InvalidCircle ?o2InvalidCircle ?o3InvalidCircle ?o4InvalidCircle ?o5InvalidCircle ?o6InvalidCircle ?o7InvalidCircle ?o8InvalidCircle ?sRKIT_InvalidCircle_ValueError ?zabs ?zall ?zany ?zbool ?zdict ?zdivmod ?zenumerate ?zint ?zisinstance ?zlen ?zlist ?zmax ?zmin ?zrange ?zrepr ?zsorted ?zstr ?zsum ?ztuple ?ztype ?zzip ?zValueError ?a_law_row ?l_law_row ?c_law_row ?k_law_row ?a_law_numbers ?l_law_numbers ?c_law_numbers ?k_law_numbers ?ais_circle ?lis_circle ?cis_circle ?kis_circle ?acheck_circle ?lcheck_circle ?ccheck_circle ?kcheck_circle ?aopposite ?lopposite ?copposite ?kopposite ?a_law_given ?l_law_given ?c_law_given ?k_law_given ?a_law_moved ?l_law_moved ?c_law_moved ?k_law_moved ?a_law_laid ?l_law_laid ?c_law_laid ?k_law_laid ?a_law_other ?l_law_other ?c_law_other ?k_law_other ?a_law_fallen ?l_law_fallen ?c_law_fallen ?k_law_fallen ?a_law_four ?l_law_four ?c_law_four ?k_law_four ?a_law_opposite ?l_law_opposite ?c_law_opposite ?k_law_opposite ?adouble ?ldouble ?cdouble ?kdouble ?aare_outward ?lare_outward ?care_outward ?kare_outward ?atouch ?ltouch ?ctouch ?ktouch ?arelation ?lrelation ?crelation ?krelation ?a_law_double ?l_law_double ?c_law_double ?k_law_double ?a_law_relation ?l_law_relation ?c_law_relation ?k_law_relation ?a_law_refused ?l_law_refused ?c_law_refused ?k_law_refused ?alaw ?llaw ?claw ?klaw
    (case mInvalidCircle => k_is)
    (case x1InvalidCircle => k_exc)
    (case x2InvalidCircle => k_is)
    (case x3InvalidCircle => k_is)
    (case x4InvalidCircle => k_is)
    (case q1InvalidCircle => k_is)
    (case q2InvalidCircle => k_is)
    (case q3InvalidCircle => k_is)
    (case sREX_InvalidCircle_InvalidCircle => k_is)
    (case o0InvalidCircle => k_is)
    (case o1InvalidCircle => k_is)
    (case o2InvalidCircle => k_is)
    (case o3InvalidCircle => k_is)
    (case o4InvalidCircle => k_is)
    (case o5InvalidCircle => k_is)
    (case o6InvalidCircle => k_is)
    (case o7InvalidCircle => k_is)
    (case o8InvalidCircle => k_is)
    (case sRKIT_InvalidCircle_ValueError => k_is)
    (case zabs => k_is)
    (case zall => k_is)
    (case zany => k_is)
    (case zbool => k_is)
    (case zdict => k_is)
    (case zdivmod => k_is)
    (case zenumerate => k_is)
    (case zint => k_is)
    (case zisinstance => k_is)
    (case zlen => k_is)
    (case zlist => k_is)
    (case zmax => k_is)
    (case zmin => k_is)
    (case zrange => k_is)
    (case zrepr => k_is)
    (case zsorted => k_is)
    (case zstr => k_is)
    (case zsum => k_is)
    (case ztuple => k_is)
    (case ztype => k_is)
    (case zzip => k_is)
    (case zValueError => k_is)
    (case a_law_row => k_is)
    (case l_law_row => k_is)
    (case c_law_row => k_is)
    (case k_law_row => k_is)
    (case a_law_numbers => k_is)
    (case l_law_numbers => k_is)
    (case c_law_numbers => k_is)
    (case k_law_numbers => k_is)
    (case ais_circle => k_is)
    (case lis_circle => k_is)
    (case cis_circle => k_is)
    (case kis_circle => k_is)
    (case acheck_circle => k_is)
    (case lcheck_circle => k_is)
    (case ccheck_circle => k_is)
    (case kcheck_circle => k_is)
    (case aopposite => k_is)
    (case lopposite => k_is)
    (case copposite => k_is)
    (case kopposite => k_is)
    (case a_law_given => k_is)
    (case l_law_given => k_is)
    (case c_law_given => k_is)
    (case k_law_given => k_is)
    (case a_law_moved => k_is)
    (case l_law_moved => k_is)
    (case c_law_moved => k_is)
    (case k_law_moved => k_is)
    (case a_law_laid => k_is)
    (case l_law_laid => k_is)
    (case c_law_laid => k_is)
    (case k_law_laid => k_is)
    (case a_law_other => k_is)
    (case l_law_other => k_is)
    (case c_law_other => k_is)
    (case k_law_other => k_is)
    (case a_law_fallen => k_is)
    (case l_law_fallen => k_is)
    (case c_law_fallen => k_is)
    (case k_law_fallen => k_is)
    (case a_law_four => k_is)
    (case l_law_four => k_is)
    (case c_law_four => k_is)
    (case k_law_four => k_is)
    (case a_law_opposite => k_is)
    (case l_law_opposite => k_is)
    (case c_law_opposite => k_is)
    (case k_law_opposite => k_is)
    (case adouble => k_is)
    (case ldouble => k_is)
    (case cdouble => k_is)
    (case kdouble => k_is)
    (case aare_outward => k_is)
    (case lare_outward => k_is)
    (case care_outward => k_is)
    (case kare_outward => k_is)
    (case atouch => k_is)
    (case ltouch => k_is)
    (case ctouch => k_is)
    (case ktouch => k_is)
    (case arelation => k_is)
    (case lrelation => k_is)
    (case crelation => k_is)
    (case krelation => k_is)
    (case a_law_double => k_is)
    (case l_law_double => k_is)
    (case c_law_double => k_is)
    (case k_law_double => k_is)
    (case a_law_relation => k_is)
    (case l_law_relation => k_is)
    (case c_law_relation => k_is)
    (case k_law_relation => k_is)
    (case a_law_refused => k_is)
    (case l_law_refused => k_is)
    (case c_law_refused => k_is)
    (case k_law_refused => k_is)
    (case alaw => k_is)
    (case llaw => k_is)
    (case claw => k_is)
    (case klaw => k_is)
#print axioms PySem.Challenge.cw_fourtouch_k01_doubles_and_relations_holds
