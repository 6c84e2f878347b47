import PyProof.Rows.All
import Wide.All
import OpenK.AllK
import Wide.FinOn
import HandS.ForMost
import HandS.Evl
import HandS.Defaults
import HandS.Exc
import HandS.WordsExc
import HandS.ExcOwn
import HandS.Iter
import HandS.Zip
import HandS.Text
import HandS.More
import HandS.Deep
import HandS.TupAny
import HandS.TupMul
import HandS.Wide
import HandS.IsInst
import HandS.RaiseMore
import KE.SortData
import HandS.SetKeys
import HandS.HeadHook3
import PyProof.ReprRoads
import PyProof.DictMoreH
import HandS.Codes
import HandS.Small
import HandS.NoneIn
import PySem.Challenge.RW_betweenanytwosteps_k80_papers_read_back
import KE.KStateDown
import HandS.Head0
import HandS.Head1
import HandS.Head2
import HandS.HeadEnd
import HandS.HeadHook1
import HandS.HeadHook2
import HandS.EndBits
import Lean
section
set_option Elab.async false
set_option linter.all false
set_option maxRecDepth 100000
set_option maxHeartbeats 4000000
/-! the data-level layer: values as trees (Dt), what is read only (W), a few things that are written (Mem) -/
namespace Lw
open PySem L2 Evl

/-- a value as a tree; ref: a thing that is still written -/
inductive Dt where
  | non | bl (b : Bool) | int (i : Int) | str (x : Str)
  | lst (ds : List Dt) | tup (ds : List Dt)
  | ins (C : Addr) (fs : List (Str × Dt))
  | dK (kvs : List (Key × Dt)) | dT (kvs : List (List Key × Dt))
  | ref (a : Addr) | ty (n : String)
  | sq (ds : List Dt) | tq (ds : List Dt)

/-- v stands for d, as far as W tells -/
inductive DV (K : PySem.W.Frag) (W : Hp) : V → Dt → Prop
  | non : DV K W .non .non
  | bl (b : Bool) : DV K W (.bl b) (.bl b)
  | int (i : Int) : DV K W (.int i) (.int i)
  | str (x : Str) : DV K W (.str x) (.str x)
  | ref (a : Addr) : DV K W (.ref a) (.ref a)
  | ty (n : String) : DV K W (.ty n) (.ty n)
  | sq {a : Addr} {xs : List V} {ds : List Dt} (h : SqL K W a xs) (l : xs.length = ds.length) (r : ∀ (i : Nat) (v : V) (d : Dt), xs[i]? = some v → ds[i]? = some d → DV K W v d) : DV K W (.ref a) (.sq ds)
  | tq {a : Addr} {xs : List V} {ds : List Dt} (h : SqT K W a xs) (l : xs.length = ds.length) (r : ∀ (i : Nat) (v : V) (d : Dt), xs[i]? = some v → ds[i]? = some d → DV K W v d) : DV K W (.ref a) (.tq ds)
  | lst {a : Addr} {xs : List V} {ds : List Dt} (h : W a = some (.lst xs)) (l : xs.length = ds.length) (r : ∀ (i : Nat) (v : V) (d : Dt), xs[i]? = some v → ds[i]? = some d → DV K W v d) : DV K W (.ref a) (.lst ds)
  | tup {a : Addr} {xs : List V} {ds : List Dt} (h : W a = some (.tup xs)) (l : xs.length = ds.length) (r : ∀ (i : Nat) (v : V) (d : Dt), xs[i]? = some v → ds[i]? = some d → DV K W v d) : DV K W (.ref a) (.tup ds)
  | ins {a C dx : Addr} {gs : List (Str × V)} {fs : List (Str × Dt)} (h : W a = some (.ins C dx gs)) (l : gs.map (·.1) = fs.map (·.1))
      (r : ∀ (i : Nat) f g (v : V) (d : Dt), gs[i]? = some (f, v) → fs[i]? = some (g, d) → DV K W v d) : DV K W (.ref a) (.ins C fs)
  | dK {a : Addr} {o : Obj} {gs : List (Key × V)} {fs : List (Key × Dt)} (h : W a = some (.frz o (.dK gs))) (l : gs.map (·.1) = fs.map (·.1))
      (r : ∀ (i : Nat) f g (v : V) (d : Dt), gs[i]? = some (f, v) → fs[i]? = some (g, d) → DV K W v d) : DV K W (.ref a) (.dK fs)
  | dT {a : Addr} {o : Obj} {gs : List (List Key × V)} {fs : List (List Key × Dt)} (h : W a = some (.frz o (.dT gs))) (l : gs.map (·.1) = fs.map (·.1))
      (r : ∀ (i : Nat) f g (v : V) (d : Dt), gs[i]? = some (f, v) → fs[i]? = some (g, d) → DV K W v d) : DV K W (.ref a) (.dT fs)
structure DVs (K : PySem.W.Frag) (W : Hp) (xs : List V) (ds : List Dt) : Prop where
  len : xs.length = ds.length
  at_ : ∀ (i : Nat) (v : V) (d : Dt), xs[i]? = some v → ds[i]? = some d → DV K W v d
structure DVm {κ : Type} (K : PySem.W.Frag) (W : Hp) (gs : List (κ × V)) (fs : List (κ × Dt)) : Prop where
  keys : gs.map (·.1) = fs.map (·.1)
  at_ : ∀ (i : Nat) f g (v : V) (d : Dt), gs[i]? = some (f, v) → fs[i]? = some (g, d) → DV K W v d
/-- what is written -/
inductive MO where
  | lst (ds : List Dt) | ins (C : Addr) (fs : List (Str × Dt)) | dK (kvs : List (Key × Dt)) | dT (kvs : List (List Key × Dt))
abbrev Mem := List (Addr × MO)
def MOk (K : PySem.W.Frag) (W H : Hp) (a : Addr) : MO → Prop
  | .lst ds => ∃ xs, H a = some (.lst xs) ∧ DVs K W xs ds
  | .ins C fs => ∃ dx gs, H a = some (.ins C dx gs) ∧ DVm K W gs fs
  | .dK kvs => ∃ gs, H a = some (.dK gs) ∧ DVm K W gs kvs
  | .dT kvs => ∃ gs, H a = some (.dT gs) ∧ DVm K W gs kvs
/-- the heap: W is known and stays, M is written, F belongs to others and stays as it is -/
structure St (K : PySem.W.Frag) (W H : Hp) (M : Mem) (F : List (Addr × HO)) : Prop where
  ex : Ex W H
  mem : ∀ p ∈ M, W p.1 = none ∧ MOk K W H p.1 p.2
  frm : ∀ p ∈ F, W p.1 = none ∧ H p.1 = some p.2
  ntu : ∀ p ∈ F, ∀ xs, p.2 ≠ HO.tup xs
  nd : (M.map (·.1) ++ F.map (·.1)).Nodup
abbrev Gam := List (Option Dt)
structure GOk (K : PySem.W.Frag) (W : Hp) (σ : L2.St) (Γ : Gam) : Prop where
  len : σ.length = Γ.length
  at_ : ∀ (i : Nat) (d : Dt), Γ[i]? = some (some d) → ∃ v, σ[i]? = some (some v) ∧ DV K W v d

section
variable {K : PySem.W.Frag} {W W' W'' H H' : Hp} {M M' : Mem} {F : List (Addr × HO)} {σ : L2.St} {Γ : Gam} {v : V} {d : Dt} {xs : List V} {ds : List Dt}
theorem DV.mono (e : Ex W W') (h : DV K W v d) : DV K W' v d := by
  induction h with
  | non => exact .non
  | bl b => exact .bl b
  | int i => exact .int i
  | str x => exact .str x
  | ref a => exact .ref a
  | ty n => exact .ty n
  | sq h l r ih => exact .sq (ex_l e h) l fun i v d h1 h2 => ih i v d h1 h2
  | tq h l r ih => exact .tq (ex_t e h) l fun i v d h1 h2 => ih i v d h1 h2
  | lst h l r ih => exact .lst (e _ _ h) l fun i v d h1 h2 => ih i v d h1 h2
  | tup h l r ih => exact .tup (e _ _ h) l fun i v d h1 h2 => ih i v d h1 h2
  | ins h l r ih => exact .ins (e _ _ h) l fun i f g v d h1 h2 => ih i f g v d h1 h2
  | dK h l r ih => exact .dK (e _ _ h) l fun i f g v d h1 h2 => ih i f g v d h1 h2
  | dT h l r ih => exact .dT (e _ _ h) l fun i f g v d h1 h2 => ih i f g v d h1 h2
theorem DVs.mono (e : Ex W W') (h : DVs K W xs ds) : DVs K W' xs ds := ⟨h.len, fun i v d a b => (h.at_ i v d a b).mono e⟩
theorem DVm.mono {κ : Type} {gs : List (κ × V)} {fs : List (κ × Dt)} (e : Ex W W') (h : DVm K W gs fs) : DVm K W' gs fs := ⟨h.keys, fun i f g v d a b => (h.at_ i f g v d a b).mono e⟩
theorem MOk.mono {a : Addr} {o : MO} (e : Ex W W') (h : MOk K W H a o) (s : H' a = H a) : MOk K W' H' a o := by
  cases o with
  | lst ds => obtain ⟨xs, h1, h2⟩ := h; exact ⟨xs, s.trans h1, h2.mono e⟩
  | ins C fs => obtain ⟨dx, gs, h1, h2⟩ := h; exact ⟨dx, gs, s.trans h1, h2.mono e⟩
  | dK fs => obtain ⟨gs, h1, h2⟩ := h; exact ⟨gs, s.trans h1, h2.mono e⟩
  | dT fs => obtain ⟨gs, h1, h2⟩ := h; exact ⟨gs, s.trans h1, h2.mono e⟩
theorem MOk.there {a : Addr} {o : MO} (h : MOk K W H a o) : ∃ u, H a = some u := by
  cases o with
  | lst ds => obtain ⟨xs, h1, h2⟩ := h; exact ⟨_, h1⟩
  | ins C fs => obtain ⟨dx, gs, h1, h2⟩ := h; exact ⟨_, h1⟩
  | dK fs => obtain ⟨gs, h1, h2⟩ := h; exact ⟨_, h1⟩
  | dT fs => obtain ⟨gs, h1, h2⟩ := h; exact ⟨_, h1⟩
theorem GOk.mono (e : Ex W W') (g : GOk K W σ Γ) : GOk K W' σ Γ := ⟨g.len, fun i d h => let ⟨v, a, b⟩ := g.at_ i d h; ⟨v, a, b.mono e⟩⟩
theorem GOk.set {i : Nat} (g : GOk K W σ Γ) (h : DV K W v d) : GOk K W (σ.set i (some v)) (Γ.set i (some d)) := by
  refine ⟨by rw [List.length_set, List.length_set, g.len], fun j e hj => ?_⟩
  by_cases q : i = j
  · subst q
    by_cases hl : i < Γ.length
    · rw [List.getElem?_set_self hl] at hj
      cases hj
      exact ⟨v, by rw [List.getElem?_set_self (by rw [g.len]; exact hl)], h⟩
    · rw [List.getElem?_eq_none (by rw [List.length_set]; omega)] at hj
      cases hj
  · rw [List.getElem?_set_ne q] at hj
    obtain ⟨u, a, b⟩ := g.at_ j e hj
    exact ⟨u, by rw [List.getElem?_set_ne q]; exact a, b⟩
theorem GOk.wipe {i : Nat} (g : GOk K W σ Γ) : GOk K W (σ.set i none) (Γ.set i none) := by
  refine ⟨by rw [List.length_set, List.length_set, g.len], fun j e hj => ?_⟩
  by_cases q : i = j
  · subst q
    by_cases hl : i < Γ.length
    · rw [List.getElem?_set_self hl] at hj
      cases hj
    · rw [List.getElem?_eq_none (by rw [List.length_set]; omega)] at hj
      cases hj
  · rw [List.getElem?_set_ne q] at hj
    obtain ⟨u, a, b⟩ := g.at_ j e hj
    exact ⟨u, by rw [List.getElem?_set_ne q]; exact a, b⟩
/-- less is known of the slots -/
theorem GOk.weak {Γ' : Gam} (g : GOk K W σ Γ) (l : Γ'.length = Γ.length) (h : ∀ (i : Nat) (d : Dt), Γ'[i]? = some (some d) → Γ[i]? = some (some d)) : GOk K W σ Γ' :=
  ⟨g.len.trans l.symm, fun i d e => g.at_ i d (h i d e)⟩
/-- W grows by what the heap has -/
theorem St.grow (s : St K W H M F) (e : Ex W W') (e2 : Ex W' H) (h : ∀ p ∈ M, W' p.1 = none) (h2 : ∀ p ∈ F, W' p.1 = none) : St K W' H M F :=
  ⟨e2, fun p hp => ⟨h p hp, (s.mem p hp).2.mono e rfl⟩, fun p hp => ⟨h2 p hp, (s.frm p hp).2⟩, s.ntu, s.nd⟩
/-- nothing that the heap has is free -/
theorem St.free (s : St K W H M F) {p : Addr} (h : H p = none) : W p = none ∧ (∀ q ∈ M, q.1 ≠ p) ∧ ∀ q ∈ F, q.1 ≠ p := by
  refine ⟨fresh_back s.ex h, fun q hq e => ?_, fun q hq e => ?_⟩
  · obtain ⟨u, hu⟩ := (s.mem q hq).2.there
    rw [e, h] at hu
    cases hu
  · have hu := (s.frm q hq).2
    rw [e, h] at hu
    cases hu
/-- a new thing, known at once -/
theorem St.new (s : St K W H M F) {p : Addr} {o : HO} (h : H p = none) : Ex W (upd W p o) ∧ St K (upd W p o) (upd H p o) M F := by
  obtain ⟨hW, hM, hF⟩ := s.free h
  have e : Ex W (upd W p o) := Ex.new hW
  refine ⟨e, fun b u hb => ?_, fun q hq => ⟨?_, (s.mem q hq).2.mono e (upd_ne (hM q hq))⟩, fun q hq => ⟨?_, ?_⟩, s.ntu, s.nd⟩
  · by_cases z : b = p
    · subst z
      rw [upd_same] at hb ⊢
      exact hb
    · rw [upd_ne z] at hb ⊢
      exact s.ex b u hb
  · rw [upd_ne (hM q hq)]
    exact (s.mem q hq).1
  · rw [upd_ne (hF q hq)]
    exact (s.frm q hq).1
  · rw [upd_ne (hF q hq)]
    exact (s.frm q hq).2
/-- a new thing that is to be written -/
theorem St.newM (s : St K W H M F) {p : Addr} {o : HO} {mo : MO} (h : H p = none) (ok : MOk K W (upd H p o) p mo) : St K W (upd H p o) (M ++ [(p, mo)]) F := by
  obtain ⟨hW, hM, hF⟩ := s.free h
  refine ⟨fun b u hb => ?_, fun q hq => ?_, fun q hq => ⟨(s.frm q hq).1, ?_⟩, s.ntu, ?_⟩
  · rw [upd_ne (ne_of_none (s.ex b u hb) h)]
    exact s.ex b u hb
  · rcases List.mem_append.mp hq with hq | hq
    · exact ⟨(s.mem q hq).1, (s.mem q hq).2.mono (Ex.refl W) (upd_ne (hM q hq))⟩
    · obtain rfl := List.mem_singleton.mp hq
      exact ⟨hW, ok⟩
  · rw [upd_ne (hF q hq)]
    exact (s.frm q hq).2
  · rw [List.map_append, List.append_assoc]
    have nd := s.nd
    rw [List.nodup_append] at nd ⊢
    obtain ⟨n1, n2, n3⟩ := nd
    refine ⟨n1, ?_, fun a ha b hb => ?_⟩
    · show (p :: F.map (·.1)).Nodup
      refine List.nodup_cons.mpr ⟨fun z => ?_, n2⟩
      obtain ⟨q, hq, e⟩ := List.mem_map.mp z
      exact hF q hq e
    · rcases List.mem_append.mp hb with hb | hb
      · obtain ⟨q, hq, e⟩ := List.mem_map.mp ha
        have hb2 : b = p := List.mem_singleton.mp hb
        subst hb2
        intro z
        exact hM q hq (e.trans z)
      · exact n3 a ha b hb
theorem St.perm (s : St K W H M F) (p : M'.Perm M) : St K W H M' F :=
  ⟨s.ex, fun q hq => s.mem q (p.mem_iff.mp hq), s.frm, s.ntu, (List.Perm.append_right _ (p.map _)).nodup_iff.mpr s.nd⟩
end
theorem MOk.notTup {K : PySem.W.Frag} {W H : Hp} {a : Addr} {o : MO} {xs : List V} (h : MOk K W H a o) : H a ≠ some (.tup xs) := by
  intro e
  cases o with
  | lst ds => obtain ⟨_, h1, _⟩ := h; rw [h1] at e; cases e
  | ins C fs => obtain ⟨_, _, h1, _⟩ := h; rw [h1] at e; cases e
  | dK fs => obtain ⟨_, h1, _⟩ := h; rw [h1] at e; cases e
  | dT fs => obtain ⟨_, h1, _⟩ := h; rw [h1] at e; cases e
/-- a tuple that stands may be known -/
theorem St.tup {K : PySem.W.Frag} {W H : Hp} {M : Mem} {F : List (Addr × HO)} {q : Addr} {xs : List V} (s : St K W H M F) (h : H q = some (.tup xs)) : ∃ W2, Ex W W2 ∧ St K W2 H M F ∧ W2 q = some (.tup xs) := by
  cases e : W q with
  | some u =>
    have := s.ex q u e
    rw [h] at this
    cases this
    exact ⟨W, Ex.refl W, s, e⟩
  | none =>
    have e2 : Ex W (upd W q (.tup xs)) := Ex.new e
    refine ⟨upd W q (.tup xs), e2, s.grow e2 (fun b u hb => ?_) (fun p hp => ?_) fun p hp => ?_, upd_same⟩
    · by_cases z : b = q
      · subst z
        rw [upd_same] at hb
        rw [h]
        exact hb
      · rw [upd_ne z] at hb
        exact s.ex b u hb
    · rw [upd_ne fun z => ?_]
      · exact (s.mem p hp).1
      · have := (s.mem p hp).2.notTup (xs := xs)
        rw [z] at this
        exact this h
    · rw [upd_ne fun z => ?_]
      · exact (s.frm p hp).1
      · have h2 := (s.frm p hp).2
        rw [z, h] at h2
        exact s.ntu p hp xs (Option.some.inj h2).symm
/-- what is wanted of an error (E, by the hand layer) and how it is told (X: the class, the fields) -/
structure Cq where
  K : PySem.W.Frag
  E : XK
  X : Addr → List (Str × Dt) → Mem → Prop
/-- no error -/
def Cq.quiet (Z : Cq) : Cq := ⟨Z.K, fun _ _ _ => False, fun _ _ _ => False⟩
def ExR (Z : Cq) (W : Hp) (F : List (Addr × HO)) : Prop :=
  ∀ (C : Addr) (fs : List (Str × Dt)) (M' : Mem) (d : Addr) (W' H' : Hp) (gs : List (Str × V)), Z.X C fs M' → Ex W W' → St Z.K W' H' M' F → H' d = some (.xd gs) → DVm Z.K W' gs fs → Z.E (.ref C) (some d) H'
theorem ExR.quiet {Z : Cq} {W : Hp} {F : List (Addr × HO)} : ExR Z.quiet W F := fun _ _ _ _ _ _ _ x => False.elim x
theorem ExR.mono {Z : Cq} {W W' : Hp} {F : List (Addr × HO)} (e : Ex W W') (x : ExR Z W F) : ExR Z W' F := fun C fs M' d W2 H' gs a b => x C fs M' d W2 H' gs a (e.trans b)
structure GE (Z : Cq) (W : Hp) (F : List (Addr × HO)) (σ : L2.St) (Γ : Gam) : Prop where
  g : GOk Z.K W σ Γ
  x : ExR Z W F
section
variable {Z : Cq} {W W' : Hp} {F : List (Addr × HO)} {σ : L2.St} {Γ : Gam} {v : V} {d : Dt}
theorem GE.mono (e : Ex W W') (g : GE Z W F σ Γ) : GE Z W' F σ Γ := ⟨g.g.mono e, g.x.mono e⟩
theorem GE.set {i : Nat} (g : GE Z W F σ Γ) (h : DV Z.K W v d) : GE Z W F (σ.set i (some v)) (Γ.set i (some d)) := ⟨g.g.set h, g.x⟩
theorem GE.at_ (g : GE Z W F σ Γ) (i : Nat) (d : Dt) (h : Γ[i]? = some (some d)) : ∃ v, σ[i]? = some (some v) ∧ DV Z.K W v d := g.g.at_ i d h
end
end Lw
end

section
set_option Elab.async false
set_option linter.all false
set_option maxRecDepth 100000
set_option maxHeartbeats 4000000
namespace Lw
open PySem L2 Evl

section
variable (Z : Cq)
def EvD (te : TE) (Γ : Gam) (M : Mem) (Q : Dt → Mem → Prop) : Prop :=
  ∀ (F : List (Addr × HO)) (W H : Hp) (σ : L2.St), GE Z W F σ Γ → St Z.K W H M F → ∀ R : VK, (∀ d M' v W' H', Q d M' → Ex W W' → St Z.K W' H' M' F → DV Z.K W' v d → R v H') → te σ H R
def TtD (tt : TT) (Γ : Gam) (M : Mem) (Q : Bool → Mem → Prop) : Prop :=
  ∀ (F : List (Addr × HO)) (W H : Hp) (σ : L2.St), GE Z W F σ Γ → St Z.K W H M F → ∀ R : Bool → Hp → Prop, (∀ b M' W' H', Q b M' → Ex W W' → St Z.K W' H' M' F → R b H') → tt σ H R
def ArD (ta : TA) (Γ : Gam) (M : Mem) (Q : List Dt → Mem → Prop) : Prop :=
  ∀ (F : List (Addr × HO)) (W H : Hp) (σ : L2.St), GE Z W F σ Γ → St Z.K W H M F → ∀ R : List V → Hp → Prop, (∀ ds M' vs W' H', Q ds M' → Ex W W' → St Z.K W' H' M' F → DVs Z.K W' vs ds → R vs H') → ta σ H R
def PoD (to : TO) (Γ : Gam) (M : Mem) (Q : Option Int → Mem → Prop) : Prop :=
  ∀ (F : List (Addr × HO)) (W H : Hp) (σ : L2.St), GE Z W F σ Γ → St Z.K W H M F → ∀ R : Option Int → Hp → Prop, (∀ o M' W' H', Q o M' → Ex W W' → St Z.K W' H' M' F → R o H') → to σ H R
/-- by values -/
def OpD (r : R2) (x y : Dt) (M : Mem) (Q : Dt → Mem → Prop) : Prop :=
  ∀ (F : List (Addr × HO)) (W H : Hp) (vx vy : V), St Z.K W H M F → DV Z.K W vx x → DV Z.K W vy y → ∀ R : VK, (∀ d M' v W' H', Q d M' → Ex W W' → St Z.K W' H' M' F → DV Z.K W' v d → R v H') → r vx vy H R
def UnD (r : V → Hp → VK → Prop) (x : Dt) (M : Mem) (Q : Dt → Mem → Prop) : Prop :=
  ∀ (F : List (Addr × HO)) (W H : Hp) (vx : V), St Z.K W H M F → DV Z.K W vx x → ∀ R : VK, (∀ d M' v W' H', Q d M' → Ex W W' → St Z.K W' H' M' F → DV Z.K W' v d → R v H') → r vx H R
def ClD (r : List V → Hp → VK → Prop) (xs : List Dt) (M : Mem) (Q : Dt → Mem → Prop) : Prop :=
  ∀ (F : List (Addr × HO)) (W H : Hp) (vs : List V), St Z.K W H M F → DVs Z.K W vs xs → ∀ R : VK, (∀ d M' v W' H', Q d M' → Ex W W' → St Z.K W' H' M' F → DV Z.K W' v d → R v H') → r vs H R
def MtD (r : V → List V → Hp → VK → Prop) (x : Dt) (xs : List Dt) (M : Mem) (Q : Dt → Mem → Prop) : Prop :=
  ∀ (F : List (Addr × HO)) (W H : Hp) (vx : V) (vs : List V), St Z.K W H M F → DV Z.K W vx x → DVs Z.K W vs xs → ∀ R : VK, (∀ d M' v W' H', Q d M' → Ex W W' → St Z.K W' H' M' F → DV Z.K W' v d → R v H') → r vx vs H R
def GtD (g : TG) (d : Dt) (Γ : Gam) (M : Mem) (Q : Gam → Mem → Prop) : Prop :=
  ∀ (F : List (Addr × HO)) (W H : Hp) (σ : L2.St) (v : V), GE Z W F σ Γ → St Z.K W H M F → DV Z.K W v d → ∀ R : L2.St → Hp → Prop, (∀ Γ' M' σ' W' H', Q Γ' M' → Ex W W' → GE Z W' F σ' Γ' → St Z.K W' H' M' F → R σ' H') → g v σ H R
def GsD (g : TGs) (ds : List Dt) (Γ : Gam) (M : Mem) (Q : Gam → Mem → Prop) : Prop :=
  ∀ (F : List (Addr × HO)) (W H : Hp) (σ : L2.St) (vs : List V), GE Z W F σ Γ → St Z.K W H M F → DVs Z.K W vs ds → ∀ R : L2.St → Hp → Prop, (∀ Γ' M' σ' W' H', Q Γ' M' → Ex W W' → GE Z W' F σ' Γ' → St Z.K W' H' M' F → R σ' H') → g vs σ H R
/-- a walk over these -/
def WalkD (J : It) (W : Hp) (ds : List Dt) : Prop :=
  ∀ (W' H' : Hp) (M : Mem) (F : List (Addr × HO)), Ex W W' → St Z.K W' H' M F →
    (∀ (i : Nat) (d : Dt), ds[i]? = some d → J.go i H' ∧ ∀ x H2, J.yld i H' x H2 → ∃ W2, Ex W' W2 ∧ St Z.K W2 H2 M F ∧ DV Z.K W2 x d) ∧ J.stop ds.length H'
def ItD (wi : TI) (Γ : Gam) (M : Mem) (Q : List Dt → Mem → Prop) : Prop :=
  ∀ (F : List (Addr × HO)) (W H : Hp) (σ : L2.St), GE Z W F σ Γ → St Z.K W H M F → ∀ R : It → Hp → Prop, (∀ ds M' J W' H', Q ds M' → Ex W W' → St Z.K W' H' M' F → WalkD Z J W' ds → R J H') → wi σ H R
structure EndD where
  nx : Gam → Mem → Prop
  rt : Dt → Mem → Prop
  bk : Gam → Mem → Prop := fun _ _ => False
  ct : Gam → Mem → Prop := fun _ _ => False
structure EndR (W : Hp) (F : List (Addr × HO)) (P : EndD) (D : Ends) : Prop where
  nx : ∀ Γ' M' σ' W' H', P.nx Γ' M' → Ex W W' → GE Z W' F σ' Γ' → St Z.K W' H' M' F → D.nx σ' H'
  rt : ∀ d M' v W' H', P.rt d M' → Ex W W' → St Z.K W' H' M' F → DV Z.K W' v d → D.rt v H'
  bk : ∀ Γ' M' σ' W' H', P.bk Γ' M' → Ex W W' → GE Z W' F σ' Γ' → St Z.K W' H' M' F → D.bk σ' H'
  ct : ∀ Γ' M' σ' W' H', P.ct Γ' M' → Ex W W' → GE Z W' F σ' Γ' → St Z.K W' H' M' F → D.ct σ' H'
def RnD (ts : TS) (Γ : Gam) (M : Mem) (P : EndD) : Prop :=
  ∀ (F : List (Addr × HO)) (W H : Hp) (σ : L2.St) (D : Ends), GE Z W F σ Γ → St Z.K W H M F → EndR Z W F P D → ts D σ H
end
theorem EndR.mono {Z : Cq} {W W' : Hp} {F : List (Addr × HO)} {P : EndD} {D : Ends} (e : Ex W W') (r : EndR Z W F P D) : EndR Z W' F P D :=
  ⟨fun _ _ _ _ _ q e' g s => r.nx _ _ _ _ _ q (e.trans e') g s, fun _ _ _ _ _ q e' g s => r.rt _ _ _ _ _ q (e.trans e') g s, fun _ _ _ _ _ q e' g s => r.bk _ _ _ _ _ q (e.trans e') g s, fun _ _ _ _ _ q e' g s => r.ct _ _ _ _ _ q (e.trans e') g s⟩

section
variable {Z : Cq} {Γ : Gam} {M : Mem} {Q : Dt → Mem → Prop} {QT : Bool → Mem → Prop} {QA : List Dt → Mem → Prop} {QG : Gam → Mem → Prop} {P : EndD} {ta tb te : TE} {tt tu : TT} {tr : TA} {d x y : Dt}
/-! ### expressions -/
theorem ev_mono {Q' : Dt → Mem → Prop} (h : EvD Z te Γ M Q) (k : ∀ d M', Q d M' → Q' d M') : EvD Z te Γ M Q' := fun F W H σ g s R r => h F W H σ g s R fun d M' v W' H' q => r d M' v W' H' (k d M' q)
theorem ev_var {i : Nat} (h : Γ[i]? = some (some d)) (q : Q d M) : EvD Z (tVar i) Γ M Q := fun F W H σ g s R r => by
  obtain ⟨v, a, b⟩ := g.at_ i d h
  exact ⟨v, a, r d M v W H q (Ex.refl W) s b⟩
theorem ev_int {i : Int} (q : Q (.int i) M) : EvD Z (tC (.int i)) Γ M Q := fun F W H σ g s R r => r _ M _ W H q (Ex.refl W) s (.int i)
theorem ev_str {x : Str} (q : Q (.str x) M) : EvD Z (tC (.str x)) Γ M Q := fun F W H σ g s R r => r _ M _ W H q (Ex.refl W) s (.str x)
theorem ev_bl {b : Bool} (q : Q (.bl b) M) : EvD Z (tC (.bl b)) Γ M Q := fun F W H σ g s R r => r _ M _ W H q (Ex.refl W) s (.bl b)
theorem ev_non (q : Q .non M) : EvD Z (tC .non) Γ M Q := fun F W H σ g s R r => r _ M _ W H q (Ex.refl W) s .non
theorem ev_adr {a : Addr} (q : Q (.ref a) M) : EvD Z (tC (.ref a)) Γ M Q := fun F W H σ g s R r => r _ M _ W H q (Ex.refl W) s (.ref a)
theorem ev_op {r : R2} (h : EvD Z ta Γ M fun x M1 => EvD Z tb Γ M1 fun y M2 => OpD Z r x y M2 Q) : EvD Z (tOp r ta tb) Γ M Q := fun F W H σ g s R k =>
  h F W H σ g s _ fun x M1 vx W1 H1 h1 e1 s1 d1 => h1 F W1 H1 σ (g.mono e1) s1 _ fun y M2 vy W2 H2 h2 e2 s2 d2 => h2 F W2 H2 vx vy s2 (d1.mono e2) d2 R fun d M' v W' H' q e3 s3 d3 => k d M' v W' H' q ((e1.trans e2).trans e3) s3 d3
theorem ev_un {r : V → Hp → VK → Prop} (h : EvD Z ta Γ M fun x M1 => UnD Z r x M1 Q) : EvD Z (tUn r ta) Γ M Q := fun F W H σ g s R k =>
  h F W H σ g s _ fun x M1 vx W1 H1 h1 e1 s1 d1 => h1 F W1 H1 vx s1 d1 R fun d M' v W' H' q e3 s3 d3 => k d M' v W' H' q (e1.trans e3) s3 d3
theorem ev_cb {r : List V → Hp → VK → Prop} (h : ArD Z tr Γ M fun xs M1 => ClD Z r xs M1 Q) : EvD Z (tCB r tr) Γ M Q := fun F W H σ g s R k =>
  h F W H σ g s _ fun xs M1 vs W1 H1 h1 e1 s1 d1 => h1 F W1 H1 vs s1 d1 R fun d M' v W' H' q e3 s3 d3 => k d M' v W' H' q (e1.trans e3) s3 d3
theorem DVs.nil {K : PySem.W.Frag} {W : Hp} : DVs K W [] [] := ⟨rfl, fun i v d h => by simp at h⟩
theorem DVs.cons {K : PySem.W.Frag} {W : Hp} {v : V} {d : Dt} {vs : List V} {ds : List Dt} (h : DV K W v d) (r : DVs K W vs ds) : DVs K W (v :: vs) (d :: ds) :=
  ⟨congrArg Nat.succ r.len, fun i u e h1 h2 => by
    cases i with
    | zero =>
      cases h1
      cases h2
      exact h
    | succ i => exact r.at_ i u e (by simpa using h1) (by simpa using h2)⟩
theorem DVs.nil_inv {K : PySem.W.Frag} {W : Hp} {vs : List V} (h : DVs K W vs []) : vs = [] := List.eq_nil_of_length_eq_zero h.len
theorem DVs.cons_inv {K : PySem.W.Frag} {W : Hp} {vs : List V} {d : Dt} {ds : List Dt} (h : DVs K W vs (d :: ds)) : ∃ v us, vs = v :: us ∧ DV K W v d ∧ DVs K W us ds := by
  cases vs with
  | nil => exact absurd h.len (by simp)
  | cons v us => exact ⟨v, us, rfl, h.at_ 0 v d rfl rfl, ⟨by simpa using h.len, fun i u e h1 h2 => h.at_ (i + 1) u e (by simpa using h1) (by simpa using h2)⟩⟩
theorem DVs.append {K : PySem.W.Frag} {W : Hp} {vs us : List V} {ds es : List Dt} (h : DVs K W vs ds) (r : DVs K W us es) : DVs K W (vs ++ us) (ds ++ es) :=
  ⟨by rw [List.length_append, List.length_append, h.len, r.len], fun i u e h1 h2 => by
    by_cases hi : i < vs.length
    · rw [List.getElem?_append_left hi] at h1
      rw [List.getElem?_append_left (by rw [← h.len]; exact hi)] at h2
      exact h.at_ i u e h1 h2
    · rw [List.getElem?_append_right (by omega)] at h1
      rw [List.getElem?_append_right (by rw [← h.len]; omega), ← h.len] at h2
      exact r.at_ _ u e h1 h2⟩
theorem DVs.get {K : PySem.W.Frag} {W : Hp} {vs : List V} {ds : List Dt} {i : Nat} {d : Dt} (h : DVs K W vs ds) (e : ds[i]? = some d) : ∃ v, vs[i]? = some v ∧ DV K W v d := by
  have hi : i < ds.length := (List.getElem?_eq_some_iff.mp e).1
  have hv : i < vs.length := by rw [h.len]; exact hi
  exact ⟨vs[i], List.getElem?_eq_getElem hv, h.at_ i _ d (List.getElem?_eq_getElem hv) e⟩
theorem ar_nil (q : QA [] M) : ArD Z tNil Γ M QA := fun F W H σ g s R k => k [] M [] W H q (Ex.refl W) s .nil
theorem ar_cons (h : EvD Z te Γ M fun x M1 => ArD Z tr Γ M1 fun xs M2 => QA (x :: xs) M2) : ArD Z (tCons te tr) Γ M QA := fun F W H σ g s R k =>
  h F W H σ g s _ fun x M1 vx W1 H1 h1 e1 s1 d1 => h1 F W1 H1 σ (g.mono e1) s1 _ fun xs M2 vs W2 H2 h2 e2 s2 d2 => k (x :: xs) M2 (vx :: vs) W2 H2 h2 (e1.trans e2) s2 (.cons (d1.mono e2) d2)
/-- a new tuple -/
theorem ev_tup (h : ArD Z tr Γ M fun ds M1 => ds.length ≤ sizeLine ∧ Q (.tup ds) M1) : EvD Z (tTup tr) Γ M Q := fun F W H σ g s R k =>
  h F W H σ g s _ fun xs M1 vs W1 H1 h1 e1 s1 d1 => ⟨by rw [d1.len]; exact h1.1, fun p hp => by
    obtain ⟨e2, s2⟩ := s1.new (o := .tup vs) hp
    exact k _ M1 _ _ _ h1.2 (e1.trans e2) s2 (.tup upd_same d1.len (d1.mono e2).at_)⟩
/-- a new list, read only from here -/
theorem ev_lst (h : ArD Z tr Γ M fun ds M1 => ds.length ≤ sizeLine ∧ Q (.lst ds) M1) : EvD Z (tLst tr) Γ M Q := fun F W H σ g s R k =>
  h F W H σ g s _ fun xs M1 vs W1 H1 h1 e1 s1 d1 => ⟨by rw [d1.len]; exact h1.1, fun p hp => by
    obtain ⟨e2, s2⟩ := s1.new (o := .lst vs) hp
    exact k _ M1 _ _ _ h1.2 (e1.trans e2) s2 (.lst upd_same d1.len (d1.mono e2).at_)⟩
/-- a new list that will be written -/
theorem ev_lstM (h : ArD Z tr Γ M fun ds M1 => ds.length ≤ sizeLine ∧ ∀ p, Q (.ref p) (M1 ++ [(p, .lst ds)])) : EvD Z (tLst tr) Γ M Q := fun F W H σ g s R k =>
  h F W H σ g s _ fun xs M1 vs W1 H1 h1 e1 s1 d1 => ⟨by rw [d1.len]; exact h1.1, fun p hp =>
    k _ _ _ _ _ (h1.2 p) e1 (s1.newM hp ⟨vs, upd_same, d1⟩) (.ref p)⟩
theorem ev_dnewK (h : ∀ p, Q (.ref p) (M ++ [(p, .dK [])])) : EvD Z tDNewK Γ M Q := fun F W H σ g s R k p hp =>
  k _ _ _ _ _ (h p) (Ex.refl W) (s.newM hp ⟨[], upd_same, ⟨rfl, fun i f g v d h => by simp at h⟩⟩) (.ref p)
/-! ### tests -/
theorem tt_test (h : EvD Z te Γ M fun x M1 => ∃ b, x = .bl b ∧ QT b M1) : TtD Z (tTest te) Γ M QT := fun F W H σ g s R k =>
  h F W H σ g s _ fun x M1 v W1 H1 ⟨b, e, q⟩ e1 s1 d1 => by
    subst e
    cases d1
    exact ⟨b, rfl, k b M1 W1 H1 q e1 s1⟩
theorem tt_B (h : EvD Z te Γ M fun x M1 => ∃ b, x = .bl b ∧ QT b M1) : TtD Z (tB te) Γ M QT := fun F W H σ g s R k =>
  h F W H σ g s _ fun x M1 v W1 H1 ⟨b, e, q⟩ e1 s1 d1 => by
    subst e
    cases d1
    exact ⟨b, rfl, k b M1 W1 H1 q e1 s1⟩
theorem tt_and (h : TtD Z tt Γ M fun b M1 => if b = true then TtD Z tu Γ M1 QT else QT false M1) : TtD Z (tAnd tt tu) Γ M QT := fun F W H σ g s R k =>
  h F W H σ g s _ fun b M1 W1 H1 q e1 s1 => by
    cases b with
    | true => exact iteT ((show TtD Z tu Γ M1 QT from q) F W1 H1 σ (g.mono e1) s1 R fun b M2 W2 H2 q2 e2 s2 => k b M2 W2 H2 q2 (e1.trans e2) s2)
    | false => exact iteF (k false M1 W1 H1 q e1 s1)
end
end Lw
end

section
set_option Elab.async false
set_option linter.all false
set_option maxRecDepth 100000
set_option maxHeartbeats 4000000
namespace Lw
open PySem L2 Evl

section
variable {Z : Cq} {Γ : Gam} {M : Mem} {Q : Dt → Mem → Prop} {QT : Bool → Mem → Prop} {QA : List Dt → Mem → Prop} {QG : Gam → Mem → Prop} {P : EndD} {ta tb tc te : TE} {tt tu : TT} {tr : TA} {d x y : Dt} {tx ty : TS}
theorem tt_or (h : TtD Z tt Γ M fun b M1 => if b = true then QT true M1 else TtD Z tu Γ M1 QT) : TtD Z (tOr tt tu) Γ M QT := fun F W H σ g s R k =>
  h F W H σ g s _ fun b M1 W1 H1 q e1 s1 => by
    cases b with
    | false => exact iteF ((show TtD Z tu Γ M1 QT from q) F W1 H1 σ (g.mono e1) s1 R fun b M2 W2 H2 q2 e2 s2 => k b M2 W2 H2 q2 (e1.trans e2) s2)
    | true => exact iteT (k true M1 W1 H1 q e1 s1)
theorem tt_not (h : TtD Z tt Γ M fun b M1 => QT (!b) M1) : TtD Z (tNot tt) Γ M QT := fun F W H σ g s R k =>
  h F W H σ g s _ fun b M1 W1 H1 q e1 s1 => k (!b) M1 W1 H1 q e1 s1
theorem ev_andV (h : EvD Z ta Γ M fun x M1 => ∃ b, x = .bl b ∧ if b = true then EvD Z tb Γ M1 Q else Q (.bl false) M1) : EvD Z (tAndV ta tb) Γ M Q := fun F W H σ g s R k =>
  h F W H σ g s _ fun x M1 v W1 H1 ⟨b, e, q⟩ e1 s1 d1 => by
    subst e
    cases d1
    refine ⟨b, rfl, ?_⟩
    cases b with
    | true => exact iteT ((show EvD Z tb Γ M1 Q from q) F W1 H1 σ (g.mono e1) s1 R fun d M2 v W2 H2 q2 e2 s2 => k d M2 v W2 H2 q2 (e1.trans e2) s2)
    | false => exact iteF (k _ M1 _ W1 H1 q e1 s1 (.bl false))
theorem ev_orV (h : EvD Z ta Γ M fun x M1 => ∃ b, x = .bl b ∧ if b = true then Q (.bl true) M1 else EvD Z tb Γ M1 Q) : EvD Z (tOrV ta tb) Γ M Q := fun F W H σ g s R k =>
  h F W H σ g s _ fun x M1 v W1 H1 ⟨b, e, q⟩ e1 s1 d1 => by
    subst e
    cases d1
    refine ⟨b, rfl, ?_⟩
    cases b with
    | false => exact iteF ((show EvD Z tb Γ M1 Q from q) F W1 H1 σ (g.mono e1) s1 R fun d M2 v W2 H2 q2 e2 s2 => k d M2 v W2 H2 q2 (e1.trans e2) s2)
    | true => exact iteT (k _ M1 _ W1 H1 q e1 s1 (.bl true))
theorem ev_notV (h : EvD Z ta Γ M fun x M1 => ∃ b, x = .bl b ∧ Q (.bl (!b)) M1) : EvD Z (tNotV ta) Γ M Q := fun F W H σ g s R k =>
  h F W H σ g s _ fun x M1 v W1 H1 ⟨b, e, q⟩ e1 s1 d1 => by
    subst e
    cases d1
    exact ⟨b, rfl, k _ M1 _ W1 H1 q e1 s1 (.bl _)⟩
theorem ev_if (h : TtD Z tt Γ M fun b M1 => if b = true then EvD Z ta Γ M1 Q else EvD Z tb Γ M1 Q) : EvD Z (tIf tt ta tb) Γ M Q := fun F W H σ g s R k =>
  h F W H σ g s _ fun b M1 W1 H1 q e1 s1 => by
    cases b with
    | true => exact iteT ((show EvD Z ta Γ M1 Q from q) F W1 H1 σ (g.mono e1) s1 R fun d M2 v W2 H2 q2 e2 s2 => k d M2 v W2 H2 q2 (e1.trans e2) s2)
    | false => exact iteF ((show EvD Z tb Γ M1 Q from q) F W1 H1 σ (g.mono e1) s1 R fun d M2 v W2 H2 q2 e2 s2 => k d M2 v W2 H2 q2 (e1.trans e2) s2)
def Dt.isN : Dt → Bool
  | .non => true
  | _ => false
theorem DV.isN {K : PySem.W.Frag} {W : Hp} {v : V} (h : DV K W v d) : decide (v = .non) = d.isN := by
  cases h <;> rfl
theorem ev_isN (h : EvD Z ta Γ M fun x M1 => Q (.bl x.isN) M1) : EvD Z (tIsN ta) Γ M Q := fun F W H σ g s R k =>
  h F W H σ g s _ fun x M1 v W1 H1 q e1 s1 d1 => by
    rw [d1.isN]
    exact k _ M1 _ W1 H1 q e1 s1 (.bl _)
theorem ev_notN (h : EvD Z ta Γ M fun x M1 => Q (.bl (!x.isN)) M1) : EvD Z (tNotN ta) Γ M Q := fun F W H σ g s R k =>
  h F W H σ g s _ fun x M1 v W1 H1 q e1 s1 d1 => by
    rw [d1.isN]
    exact k _ M1 _ W1 H1 q e1 s1 (.bl _)
theorem ev_chain {r r' : R2} (h : EvD Z ta Γ M fun x M1 => EvD Z tb Γ M1 fun y M2 => OpD Z r x y M2 fun z M3 => ∃ b, z = .bl b ∧ if b = true then EvD Z tc Γ M3 fun w M4 => OpD Z r' y w M4 Q else Q (.bl false) M3) : EvD Z (tChain r r' ta tb tc) Γ M Q := fun F W H σ g s R k =>
  h F W H σ g s _ fun x M1 vx W1 H1 h1 e1 s1 d1 => h1 F W1 H1 σ (g.mono e1) s1 _ fun y M2 vy W2 H2 h2 e2 s2 d2 => h2 F W2 H2 vx vy s2 (d1.mono e2) d2 _ fun z M3 vz W3 H3 ⟨b, e, q⟩ e3 s3 d3 => by
    subst e
    cases d3
    refine ⟨b, rfl, ?_⟩
    cases b with
    | true => exact iteT ((show EvD Z tc Γ M3 _ from q) F W3 H3 σ (g.mono ((e1.trans e2).trans e3)) s3 _ fun w M4 vw W4 H4 q4 e4 s4 d4 => q4 F W4 H4 vy vw s4 (d2.mono (e3.trans e4)) d4 R fun d M5 v W5 H5 q5 e5 s5 d5 => k d M5 v W5 H5 q5 ((((e1.trans e2).trans e3).trans e4).trans e5) s5 d5)
    | false => exact iteF (k _ M3 _ W3 H3 q ((e1.trans e2).trans e3) s3 (.bl false))
/-! ### statements -/
theorem rn_mono {P' : EndD} {ts : TS} (h : RnD Z ts Γ M P) (h1 : ∀ G M, P.nx G M → P'.nx G M) (h2 : ∀ d M, P.rt d M → P'.rt d M) (h3 : ∀ G M, P.bk G M → P'.bk G M) (h4 : ∀ G M, P.ct G M → P'.ct G M) : RnD Z ts Γ M P' := fun F W H σ D g s k =>
  h F W H σ D g s ⟨fun _ _ _ _ _ q => k.nx _ _ _ _ _ (h1 _ _ q), fun _ _ _ _ _ q => k.rt _ _ _ _ _ (h2 _ _ q), fun _ _ _ _ _ q => k.bk _ _ _ _ _ (h3 _ _ q), fun _ _ _ _ _ q => k.ct _ _ _ _ _ (h4 _ _ q)⟩
theorem rn_seq (h : RnD Z tx Γ M { P with nx := fun Γ' M' => RnD Z ty Γ' M' P }) : RnD Z (tSeq tx ty) Γ M P := fun F W H σ D g s k =>
  h F W H σ { D with nx := ty D } g s ⟨fun Γ' M' σ' W' H' q e g' s' => q F W' H' σ' D g' s' (k.mono e), k.rt, k.bk, k.ct⟩
theorem rn_next (q : P.nx Γ M) : RnD Z tNext Γ M P := fun F W H σ D g s k => k.nx _ _ _ _ _ q (Ex.refl W) g s
theorem rn_break (q : P.bk Γ M) : RnD Z tBreak Γ M P := fun F W H σ D g s k => k.bk _ _ _ _ _ q (Ex.refl W) g s
theorem rn_cont (q : P.ct Γ M) : RnD Z tCont Γ M P := fun F W H σ D g s k => k.ct _ _ _ _ _ q (Ex.refl W) g s
theorem rn_never (q : False) {ts : TS} : RnD Z ts Γ M P := q.elim
theorem rn_ret (h : EvD Z te Γ M P.rt) : RnD Z (tRet te) Γ M P := fun F W H σ D g s k => h F W H σ g s D.rt fun d M' v W' H' q e s' dv => k.rt d M' v W' H' q e s' dv
theorem rn_retN (q : P.rt .non M) : RnD Z tRetN Γ M P := fun F W H σ D g s k => k.rt _ _ _ _ _ q (Ex.refl W) s .non
theorem rn_drop (h : EvD Z te Γ M fun _ M1 => P.nx Γ M1) : RnD Z (tDrop te) Γ M P := fun F W H σ D g s k => h F W H σ g s _ fun d M' v W' H' q e s' dv => k.nx Γ M' σ W' H' q e (g.mono e) s'
theorem rn_if (h : TtD Z tt Γ M fun b M1 => if b = true then RnD Z tx Γ M1 P else RnD Z ty Γ M1 P) : RnD Z (tIfS tt tx ty) Γ M P := fun F W H σ D g s k =>
  h F W H σ g s _ fun b M1 W1 H1 q e1 s1 => by
    cases b with
    | true => exact iteT ((show RnD Z tx Γ M1 P from q) F W1 H1 σ D (g.mono e1) s1 (k.mono e1))
    | false => exact iteF ((show RnD Z ty Γ M1 P from q) F W1 H1 σ D (g.mono e1) s1 (k.mono e1))
theorem rn_asg {g : TG} (h : EvD Z te Γ M fun d M1 => GtD Z g d Γ M1 P.nx) : RnD Z (tAsg te g) Γ M P := fun F W H σ D gk s k =>
  h F W H σ gk s _ fun d M1 v W1 H1 q e1 s1 d1 => q F W1 H1 σ v (gk.mono e1) s1 d1 D.nx fun Γ' M' σ' W' H' q2 e2 g2 s2 => k.nx _ _ _ _ _ q2 (e1.trans e2) g2 s2
theorem rn_aug {i : Nat} {ti : TIp} {a : Dt} (hx : Γ[i]? = some (some a)) (h : EvD Z te Γ M fun b M1 => OpD Z ti a b M1 fun d M2 => P.nx (Γ.set i (some d)) M2) : RnD Z (tAug i te ti) Γ M P := fun F W H σ D gk s k => by
  obtain ⟨va, e, da⟩ := gk.at_ i a hx
  exact ⟨va, e, h F W H σ gk s _ fun b M1 vb W1 H1 q e1 s1 d1 => q F W1 H1 va vb s1 (da.mono e1) d1 _ fun d M2 v W2 H2 q2 e2 s2 d2 => k.nx _ _ _ _ _ q2 (e1.trans e2) ((gk.mono (e1.trans e2)).set d2) s2⟩
/-! ### targets -/
theorem gt_name {i : Nat} (q : QG (Γ.set i (some d)) M) : GtD Z (gName i) d Γ M QG := fun F W H σ v g s dv R k => k _ _ _ _ _ q (Ex.refl W) (g.set dv) s
theorem gs_nil (q : QG Γ M) : GsD Z gNil [] Γ M QG := fun F W H σ vs g s dv R k => ⟨dv.nil_inv, k _ _ _ _ _ q (Ex.refl W) g s⟩
theorem gs_cons {t : TG} {u : TGs} {ds : List Dt} (h : GtD Z t d Γ M fun Γ1 M1 => GsD Z u ds Γ1 M1 QG) : GsD Z (gCons t u) (d :: ds) Γ M QG := fun F W H σ vs g s dv R k => by
  obtain ⟨v, us, rfl, d1, d2⟩ := dv.cons_inv
  exact ⟨v, us, rfl, h F W H σ v g s d1 _ fun Γ1 M1 σ1 W1 H1 q e1 g1 s1 => q F W1 H1 σ1 us g1 s1 (d2.mono e1) R fun Γ' M' σ' W' H' q2 e2 g2 s2 => k _ _ _ _ _ q2 (e1.trans e2) g2 s2⟩
theorem gt_tup {n : Nat} {t : TGs} {ds : List Dt} (hn : ds.length = n) (h : GsD Z t ds Γ M QG) : GtD Z (gTup Z.K n t) (.tup ds) Γ M QG := fun F W H σ v g s dv R k => by
  cases dv with
  | tup hs l r => exact ⟨_, _, rfl, st_of (s.ex _ _ hs), l.trans hn, h F W H σ _ g s ⟨l, r⟩ R k⟩
/-! ### loops -/
theorem rn_for {wi : TI} {g : TG} {tb : TS} (h : ItD Z wi Γ M fun ds M1 => ∃ Iv : Nat → Gam → Mem → Prop, Iv 0 Γ M1 ∧
      (∀ (i : Nat) (d : Dt) Γ' M', ds[i]? = some d → Iv i Γ' M' → GtD Z g d Γ' M' fun Γ2 M2 => RnD Z tb Γ2 M2 { P with nx := Iv (i + 1), ct := Iv (i + 1), bk := P.nx }) ∧ ∀ Γ' M', Iv ds.length Γ' M' → P.nx Γ' M') :
    RnD Z (tFor wi g tb) Γ M P := fun F W H σ D gk s k => h F W H σ gk s _ fun ds M1 J W1 H1 ⟨Iv, h0, hs, hd⟩ e1 s1 wk => by
  refine ⟨fun i m σ' H' => m = ds.length - i ∧ i ≤ ds.length ∧ ∃ W' Γ' M', Ex W1 W' ∧ GE Z W' F σ' Γ' ∧ St Z.K W' H' M' F ∧ Iv i Γ' M', ⟨ds.length, rfl, Nat.zero_le _, W1, Γ, M1, Ex.refl W1, gk.mono e1, s1, h0⟩, ?_⟩
  rintro i m σ' H' ⟨rfl, hi, W', Γ', M', e', g', s', iv⟩
  obtain ⟨go, stop⟩ := wk W' H' M' F e' s'
  by_cases hlt : i < ds.length
  · obtain ⟨g1, g2⟩ := go i ds[i] (List.getElem?_eq_getElem hlt)
    refine .inr ⟨g1, fun σ2 H2 => ∃ W2 Γ2 M2, Ex W1 W2 ∧ GE Z W2 F σ2 Γ2 ∧ St Z.K W2 H2 M2 F ∧ Iv (i + 1) Γ2 M2, fun σ2 H2 ⟨W2, Γ2, M2, a, b, c, e⟩ => ⟨ds.length - (i + 1), by omega, rfl, hlt, W2, Γ2, M2, a, b, c, e⟩, fun x H2 y => ?_⟩
    obtain ⟨W2, e2, s2, d2⟩ := g2 x H2 y
    refine hs i ds[i] Γ' M' (List.getElem?_eq_getElem hlt) iv F W2 H2 σ' x (g'.mono e2) s2 d2 _ fun Γ3 M3 σ3 W3 H3 q3 e3 g3 s3 => ?_
    have eA : Ex W1 W3 := (e'.trans e2).trans e3
    exact q3 F W3 H3 σ3 _ g3 s3 ⟨fun Γ4 M4 σ4 W4 H4 q e g s => ⟨W4, Γ4, M4, eA.trans e, g, s, q⟩, fun _ _ _ _ _ q e s d => k.rt _ _ _ _ _ q ((e1.trans eA).trans e) s d, fun _ _ _ _ _ q e g s => k.nx _ _ _ _ _ q ((e1.trans eA).trans e) g s, fun Γ4 M4 σ4 W4 H4 q e g s => ⟨W4, Γ4, M4, eA.trans e, g, s, q⟩⟩
  · have hl : i = ds.length := by omega
    subst hl
    exact .inl ⟨stop, k.nx _ _ _ _ _ (hd _ _ iv) (e1.trans e') g' s'⟩
/-- while: an invariant and a number that falls -/
theorem rn_while {tb : TS} (Iv : Nat → Gam → Mem → Prop) (m0 : Nat) (h0 : Iv m0 Γ M)
    (hs : ∀ m Γ' M', Iv m Γ' M' → TtD Z tt Γ' M' fun b M1 => if b = true then RnD Z tb Γ' M1 { P with nx := fun G A => ∃ m', m' < m ∧ Iv m' G A, ct := fun G A => ∃ m', m' < m ∧ Iv m' G A, bk := P.nx } else P.nx Γ' M1) : RnD Z (tWhile tt tb) Γ M P := fun F W H σ D gk s k => by
  refine ⟨fun m σ' H' => ∃ W' Γ' M', Ex W W' ∧ GE Z W' F σ' Γ' ∧ St Z.K W' H' M' F ∧ Iv m Γ' M', ⟨m0, W, Γ, M, Ex.refl W, gk, s, h0⟩, ?_⟩
  rintro m σ' H' ⟨W', Γ', M', e', g', s', iv⟩
  refine hs m Γ' M' iv F W' H' σ' g' s' _ fun b M1 W1 H1 q e1 s1 => ?_
  cases b with
  | false => exact iteF (k.nx _ _ _ _ _ q (e'.trans e1) (g'.mono e1) s1)
  | true =>
    refine iteT ⟨fun σ2 H2 => ∃ m', m' < m ∧ ∃ W2 Γ2 M2, Ex W W2 ∧ GE Z W2 F σ2 Γ2 ∧ St Z.K W2 H2 M2 F ∧ Iv m' Γ2 M2, fun σ2 H2 ⟨m', l, r⟩ => ⟨m', l, r⟩, ?_⟩
    exact (show RnD Z tb Γ' M1 _ from q) F W1 H1 σ' _ (g'.mono e1) s1 ⟨fun Γ4 M4 σ4 W4 H4 ⟨m', l, q⟩ e g s => ⟨m', l, W4, Γ4, M4, (e'.trans e1).trans e, g, s, q⟩, fun _ _ _ _ _ q e s d => k.rt _ _ _ _ _ q ((e'.trans e1).trans e) s d, fun _ _ _ _ _ q e g s => k.nx _ _ _ _ _ q ((e'.trans e1).trans e) g s, fun Γ4 M4 σ4 W4 H4 ⟨m', l, q⟩ e g s => ⟨m', l, W4, Γ4, M4, (e'.trans e1).trans e, g, s, q⟩⟩
/-! ### comprehensions -/
def wipeG (Γ : Gam) : List Nat → Gam
  | [] => Γ
  | v :: vs => (wipeG Γ vs).set v none
theorem GOk.wipes {K : PySem.W.Frag} {W : Hp} {σ : L2.St} (g : GOk K W σ Γ) : ∀ vs : List Nat, GOk K W (L2.wipe σ vs) (wipeG Γ vs)
  | [] => g
  | v :: vs => (GOk.wipes g vs).wipe
/-- a target that stores in these slots alone -/
def GFix (g : TG) (vs : List Nat) : Prop := ∀ v σ H (R R' : L2.St → Hp → Prop), (∀ a b, wipe a vs = wipe σ vs → R a b → R' a b) → g v σ H R → g v σ H R'
def GFixs (g : TGs) (vs : List Nat) : Prop := ∀ us σ H (R R' : L2.St → Hp → Prop), (∀ a b, wipe a vs = wipe σ vs → R a b → R' a b) → g us σ H R → g us σ H R'
theorem wipe_len (σ : L2.St) : ∀ vs : List Nat, (wipe σ vs).length = σ.length
  | [] => rfl
  | v :: vs => by
    show ((wipe σ vs).set v none).length = _
    rw [List.length_set, wipe_len σ vs]
theorem wipe_at (σ : L2.St) (i : Nat) : ∀ vs : List Nat, (wipe σ vs)[i]? = if i ∈ vs ∧ i < σ.length then some none else σ[i]?
  | [] => by simp [wipe]
  | v :: vs => by
    show ((wipe σ vs).set v none)[i]? = _
    rw [List.getElem?_set, wipe_len, wipe_at σ i vs]
    by_cases h : v = i
    · subst h
      by_cases hl : v < σ.length
      · simp [hl]
      · simp [hl]
    · simp [h, Ne.symm h]
theorem wipe_set {σ : L2.St} {i : Nat} {v : Option V} {vs : List Nat} (h : i ∈ vs) : wipe (σ.set i v) vs = wipe σ vs := by
  refine List.ext_getElem? fun j => ?_
  rw [wipe_at, wipe_at, List.length_set]
  by_cases hj : j ∈ vs ∧ j < σ.length
  · rw [if_pos hj, if_pos hj]
  · rw [if_neg hj, if_neg hj, List.getElem?_set]
    by_cases e : i = j
    · subst e
      by_cases hl : i < σ.length
      · exact absurd ⟨h, hl⟩ hj
      · simp [hl]
    · rw [if_neg e]
theorem wipe_wipe (σ : L2.St) (vs : List Nat) : wipe (wipe σ vs) vs = wipe σ vs := by
  refine List.ext_getElem? fun j => ?_
  rw [wipe_at, wipe_len, wipe_at]
  by_cases hj : j ∈ vs ∧ j < σ.length
  · rw [if_pos hj, if_pos hj]
  · rw [if_neg hj]
theorem gfix_name {i : Nat} {vs : List Nat} (h : i ∈ vs) : GFix (gName i) vs := fun v σ H R R' k q => k _ _ (wipe_set h) q
theorem gfix_nil {vs : List Nat} : GFixs gNil vs := fun us σ H R R' k ⟨a, q⟩ => ⟨a, k _ _ rfl q⟩
theorem gfix_cons {t : TG} {u : TGs} {vs : List Nat} (h : GFix t vs) (hu : GFixs u vs) : GFixs (gCons t u) vs := fun us σ H R R' k ⟨v, r, e, q⟩ =>
  ⟨v, r, e, h v σ H _ _ (fun a b e1 q1 => hu r a b _ _ (fun c d e2 q2 => k c d (e2.trans e1) q2) q1) q⟩
theorem gfix_tup {n : Nat} {u : TGs} {vs : List Nat} (h : GFixs u vs) : GFix (gTup Z.K n u) vs := fun v σ H R R' k ⟨a, xs, e, t, l, q⟩ => ⟨a, xs, e, t, l, h xs σ H R R' k q⟩
/-- something of the memory moves to the frame and back -/
theorem St.hide {K : PySem.W.Frag} {W H : Hp} {F : List (Addr × HO)} {p : Addr} {xs : List V} (s : St K W H M F) (h : H p = none) : St K W (upd H p (.lst xs)) M ((p, .lst xs) :: F) := by
  obtain ⟨hW, hM, hF⟩ := s.free h
  refine ⟨fun b u hb => ?_, fun q hq => ⟨(s.mem q hq).1, (s.mem q hq).2.mono (Ex.refl W) (upd_ne (hM q hq))⟩, fun q hq => ?_, fun q hq ys e => ?_, ?_⟩
  · rw [upd_ne (ne_of_none (s.ex b u hb) h)]
    exact s.ex b u hb
  · rcases List.mem_cons.mp hq with e | hq
    · subst e
      exact ⟨hW, upd_same⟩
    · exact ⟨(s.frm q hq).1, by rw [upd_ne (hF q hq)]; exact (s.frm q hq).2⟩
  · rcases List.mem_cons.mp hq with z | hq
    · rw [z] at e
      cases e
    · exact s.ntu q hq ys e
  · show (M.map (·.1) ++ (p :: F.map (·.1))).Nodup
    refine (List.perm_middle.nodup_iff).mpr (List.nodup_cons.mpr ⟨fun z => ?_, s.nd⟩)
    rcases List.mem_append.mp z with z | z
    · obtain ⟨q, hq, e⟩ := List.mem_map.mp z
      exact hM q hq e
    · obtain ⟨q, hq, e⟩ := List.mem_map.mp z
      exact hF q hq e
/-- the first of the frame is written -/
theorem St.fset {K : PySem.W.Frag} {W H : Hp} {F : List (Addr × HO)} {p : Addr} {o : HO} {xs : List V} (s : St K W H M ((p, o) :: F)) : H p = some o ∧ St K W (upd H p (.lst xs)) M ((p, .lst xs) :: F) := by
  have hp := s.frm (p, o) List.mem_cons_self
  have nd : (p :: (M.map (·.1) ++ F.map (·.1))).Nodup := (List.perm_middle.nodup_iff).mp s.nd
  obtain ⟨n1, n2⟩ := List.nodup_cons.mp nd
  have hM : ∀ q ∈ M, q.1 ≠ p := fun q hq e => n1 (List.mem_append_left _ (List.mem_map.mpr ⟨q, hq, e⟩))
  have hF : ∀ q ∈ F, q.1 ≠ p := fun q hq e => n1 (List.mem_append_right _ (List.mem_map.mpr ⟨q, hq, e⟩))
  refine ⟨hp.2, fun b u hb => ?_, fun q hq => ⟨(s.mem q hq).1, (s.mem q hq).2.mono (Ex.refl W) (upd_ne (hM q hq))⟩, fun q hq => ?_, fun q hq ys e => ?_, s.nd⟩
  · rw [upd_ne (ne_of_none hb hp.1)]
    exact s.ex b u hb
  · rcases List.mem_cons.mp hq with e | hq
    · subst e
      exact ⟨hp.1, upd_same⟩
    · exact ⟨(s.frm q (List.mem_cons_of_mem _ hq)).1, by rw [upd_ne (hF q hq)]; exact (s.frm q (List.mem_cons_of_mem _ hq)).2⟩
  · rcases List.mem_cons.mp hq with z | hq
    · rw [z] at e
      cases e
    · exact s.ntu q (List.mem_cons_of_mem _ hq) ys e
/-- .. is known from here on -/
theorem St.fknow {K : PySem.W.Frag} {W H : Hp} {F : List (Addr × HO)} {p : Addr} {o : HO} (s : St K W H M ((p, o) :: F)) : Ex W (upd W p o) ∧ St K (upd W p o) H M F := by
  have hp := s.frm (p, o) List.mem_cons_self
  have nd : (p :: (M.map (·.1) ++ F.map (·.1))).Nodup := (List.perm_middle.nodup_iff).mp s.nd
  obtain ⟨n1, n2⟩ := List.nodup_cons.mp nd
  have hM : ∀ q ∈ M, q.1 ≠ p := fun q hq e => n1 (List.mem_append_left _ (List.mem_map.mpr ⟨q, hq, e⟩))
  have hF : ∀ q ∈ F, q.1 ≠ p := fun q hq e => n1 (List.mem_append_right _ (List.mem_map.mpr ⟨q, hq, e⟩))
  have e : Ex W (upd W p o) := Ex.new hp.1
  refine ⟨e, fun b u hb => ?_, fun q hq => ⟨by rw [upd_ne (hM q hq)]; exact (s.mem q hq).1, (s.mem q hq).2.mono e rfl⟩, fun q hq => ⟨by rw [upd_ne (hF q hq)]; exact (s.frm q (List.mem_cons_of_mem _ hq)).1, (s.frm q (List.mem_cons_of_mem _ hq)).2⟩, fun q hq => s.ntu q (List.mem_cons_of_mem _ hq), n2⟩
  by_cases z : b = p
  · subst z
    rw [upd_same] at hb
    rw [hp.2]
    exact hb
  · rw [upd_ne z] at hb
    exact s.ex b u hb
/-- [e for x in xs if t]: acc is what is made so far -/
theorem ev_lc {wi : TI} {g : TG} {vs : List Nat} (hg : GFix g vs) (h : ItD Z wi Γ M fun ds M1 => ds.length ≤ sizeLine ∧ ∃ Iv : Nat → List Dt → Mem → Prop, Iv 0 [] M1 ∧
      (∀ (i : Nat) (d : Dt) acc M', ds[i]? = some d → Iv i acc M' → GtD Z.quiet g d (wipeG Γ vs) M' fun Γ2 M2 => TtD Z.quiet tt Γ2 M2 fun b M3 => if b = true then EvD Z.quiet te Γ2 M3 fun e M4 => Iv (i + 1) (acc ++ [e]) M4 else Iv (i + 1) acc M3) ∧
      ∀ acc M', Iv ds.length acc M' → Q (.lst acc) M') : EvD Z (tLc wi g tt te vs) Γ M Q := fun F W H σ gk s R k =>
  h F W H σ gk s _ fun ds M1 J W1 H1 ⟨hz, Iv, h0, hs, hd⟩ e1 s1 wk D hD => by
  refine ⟨fun i m H' => m = ds.length - i ∧ i ≤ ds.length ∧ ∃ W' M' accV acc, Ex W1 W' ∧ St Z.K W' H' M' ((D, .lst accV) :: F) ∧ DVs Z.K W' accV acc ∧ acc.length ≤ i ∧ Iv i acc M', ⟨ds.length, rfl, Nat.zero_le _, W1, M1, [], [], Ex.refl W1, s1.hide hD, .nil, Nat.le_refl _, h0⟩, ?_⟩
  rintro i m H' ⟨rfl, hi, W', M', accV, acc, e', s', da, hl, iv⟩
  obtain ⟨go, stop⟩ := wk W' H' M' _ e' s'
  by_cases hlt : i < ds.length
  · obtain ⟨g1, g2⟩ := go i ds[i] (List.getElem?_eq_getElem hlt)
    refine .inr ⟨g1, fun H2 => ∃ W2 M2 accV acc, Ex W1 W2 ∧ St Z.K W2 H2 M2 ((D, .lst accV) :: F) ∧ DVs Z.K W2 accV acc ∧ acc.length ≤ i + 1 ∧ Iv (i + 1) acc M2, fun H2 ⟨W2, M2, a1, a2, a, b, c, l, e⟩ => ⟨ds.length - (i + 1), by omega, rfl, hlt, W2, M2, a1, a2, a, b, c, l, e⟩, fun x H2 y => ?_⟩
    obtain ⟨W2, e2, s2, d2⟩ := g2 x H2 y
    have eW : Ex W W2 := (e1.trans e').trans e2
    have body := hs i ds[i] acc M' (List.getElem?_eq_getElem hlt) iv _ W2 H2 (wipe σ vs) x ⟨(gk.g.mono eW).wipes vs, ExR.quiet⟩ s2 d2
      (fun σ2 H3 => tt σ2 H3 fun b H4 => if b = true then te σ2 H4 fun y H5 => ∃ ac, H5 D = some (.lst ac) ∧ ac.length < sizeLine ∧ ∃ W2 M2 accV acc, Ex W1 W2 ∧ St Z.K W2 (upd H5 D (.lst (ac ++ [y]))) M2 ((D, .lst accV) :: F) ∧ DVs Z.K W2 accV acc ∧ acc.length ≤ i + 1 ∧ Iv (i + 1) acc M2
        else ∃ W2 M2 accV acc, Ex W1 W2 ∧ St Z.K W2 H4 M2 ((D, .lst accV) :: F) ∧ DVs Z.K W2 accV acc ∧ acc.length ≤ i + 1 ∧ Iv (i + 1) acc M2) fun Γ3 M3 σ3 W3 H3 q3 e3 g3 s3 => ?_
    · refine hg x (wipe σ vs) H2 _ _ (fun a b e q => ⟨?_, q⟩) body
      rw [wipe_wipe] at e
      exact e
    · refine q3 _ W3 H3 σ3 g3 s3 _ fun b M4 W4 H4 q4 e4 s4 => ?_
      cases b with
      | true =>
        refine iteT ((show EvD Z.quiet te Γ3 M4 _ from q4) _ W4 H4 σ3 (g3.mono e4) s4 _ fun y M5 vy W5 H5 q5 e5 s5 d5 => ?_)
        obtain ⟨hp, s6⟩ := s5.fset (xs := accV ++ [vy])
        refine ⟨accV, hp, ?_, W5, M5, accV ++ [vy], acc ++ [y], ((((e'.trans e2).trans e3).trans e4).trans e5), s6, (da.mono (((e2.trans e3).trans e4).trans e5)).append (.cons d5 .nil), by rw [List.length_append]; exact Nat.succ_le_succ hl, q5⟩
        rw [da.len]
        omega
      | false => exact iteF ⟨W4, M4, accV, acc, (((e'.trans e2).trans e3).trans e4), s4, da.mono ((e2.trans e3).trans e4), by omega, q4⟩
  · have hl2 : i = ds.length := by omega
    subst hl2
    obtain ⟨e5, s5⟩ := s'.fknow
    exact .inl ⟨stop, k _ _ _ _ _ (hd _ _ iv) ((e1.trans e').trans e5) s5 (.lst upd_same da.len (da.mono e5).at_)⟩
end
end Lw
end

section
set_option Elab.async false
set_option linter.all false
set_option maxRecDepth 100000
set_option maxHeartbeats 4000000
namespace Lw
open PySem PySem.Spec PyProof.Rows L2 Evl

/-- a def's promise over trees: the arguments, the memory, what is wanted, what is wanted of an error -/
abbrev SD := List Dt → Mem → (Dt → Mem → Prop) → (Addr → List (Str × Dt) → Mem → Prop) → Prop
def toSp (K : PySem.W.Frag) (S : SD) : Sp := fun vs H Q E => ∃ (F : List (Addr × HO)) (W : Hp) (M : Mem) (ds : List Dt) (QD : Dt → Mem → Prop) (XD : Addr → List (Str × Dt) → Mem → Prop),
  St K W H M F ∧ DVs K W vs ds ∧ S ds M QD XD ∧ (∀ d M' v W' H', QD d M' → Ex W W' → St K W' H' M' F → DV K W' v d → Q v H') ∧
  ∀ (C : Addr) (fs : List (Str × Dt)) (M' : Mem) (d : Addr) (W' H' : Hp) (gs : List (Str × V)), XD C fs M' → Ex W W' → St K W' H' M' F → H' d = some (.xd gs) → DVm K W' gs fs → E (.ref C) (some d) H'
def noX : Addr → List (Str × Dt) → Mem → Prop := fun _ _ _ => False

section
variable {Z : Cq} {Γ : Gam} {M Mc Mr : Mem} {Q : Dt → Mem → Prop} {te : TE} {tr : TA} {F : List (Addr × HO)} {W H : Hp}
def rawOf (H : Hp) (a : Addr) : HO := match H a with
  | some o => o
  | none => .tbl #[]
theorem rawOf_eq {a : Addr} {u : HO} (h : H a = some u) : H a = some (rawOf H a) := by
  unfold rawOf
  rw [h]
/-- a part of the memory goes to the frame -/
theorem St.split {K : PySem.W.Frag} (s : St K W H (Mc ++ Mr) F) : ∃ Fr : List (Addr × HO), Fr.map (·.1) = Mr.map (·.1) ∧ St K W H Mc (Fr ++ F) ∧ ∀ W' H' Mc', Ex W W' → St K W' H' Mc' (Fr ++ F) → St K W' H' (Mc' ++ Mr) F := by
  have em : (Mr.map fun p => (p.1, rawOf H p.1)).map (·.1) = Mr.map (·.1) := by
    rw [List.map_map]
    rfl
  refine ⟨Mr.map fun p => (p.1, rawOf H p.1), em, ⟨s.ex, fun p hp => s.mem p (List.mem_append_left _ hp), fun p hp => ?_, fun p hp xs e => ?_, ?_⟩, fun W' H' Mc' e s' => ⟨s'.ex, fun p hp => ?_, fun p hp => s'.frm p (List.mem_append_right _ hp), fun p hp => s'.ntu p (List.mem_append_right _ hp), ?_⟩⟩
  · rcases List.mem_append.mp hp with hp | hp
    · obtain ⟨q, hq, eq⟩ := List.mem_map.mp hp
      subst eq
      obtain ⟨u, hu⟩ := (s.mem q (List.mem_append_right _ hq)).2.there
      exact ⟨(s.mem q (List.mem_append_right _ hq)).1, rawOf_eq hu⟩
    · exact s.frm p hp
  · rcases List.mem_append.mp hp with hp | hp
    · obtain ⟨q, hq, eq⟩ := List.mem_map.mp hp
      subst eq
      have h2 := (s.mem q (List.mem_append_right _ hq)).2
      obtain ⟨u, hu⟩ := h2.there
      have h3 := h2.notTup (xs := xs)
      rw [rawOf_eq hu] at h3
      exact h3 (congrArg some e)
    · exact s.ntu p hp xs e
  · have nd := s.nd
    rw [List.map_append, List.append_assoc] at nd
    rw [List.map_append, em]
    exact nd
  · rcases List.mem_append.mp hp with hp | hp
    · exact s'.mem p hp
    · have f := s'.frm (p.1, rawOf H p.1) (List.mem_append_left _ (List.mem_map.mpr ⟨p, hp, rfl⟩))
      obtain ⟨h1, h2⟩ := s.mem p (List.mem_append_right _ hp)
      obtain ⟨u, hu⟩ := h2.there
      exact ⟨f.1, h2.mono e (f.2.trans (rawOf_eq hu).symm)⟩
  · have nd := s'.nd
    rw [List.map_append, em] at nd
    rw [List.map_append, List.append_assoc]
    exact nd
/-- the call's core: vs stand for ds -/
theorem call_core {S : SD} {ds : List Dt} {vs : List V} {E : XK} (X : Addr → List (Str × Dt) → Mem → Prop) (s : St Z.K W H M F) (dv : DVs Z.K W vs ds) (h : ∃ Mc Mr, M.Perm (Mc ++ Mr) ∧ S ds Mc (fun d Mc' => Q d (Mc' ++ Mr)) fun C fs Mc' => X C fs (Mc' ++ Mr))
    (hx : ∀ (C : Addr) (fs : List (Str × Dt)) (M' : Mem) (d : Addr) (W' H' : Hp) (gs : List (Str × V)), X C fs M' → Ex W W' → St Z.K W' H' M' F → H' d = some (.xd gs) → DVm Z.K W' gs fs → E (.ref C) (some d) H')
    {R : VK} (k : ∀ d M' v W' H', Q d M' → Ex W W' → St Z.K W' H' M' F → DV Z.K W' v d → R v H') : toSp Z.K S (vs ++ []) H R E := by
  obtain ⟨Mc, Mr, p, q⟩ := h
  have s2 := s.perm p.symm
  obtain ⟨Fr, _, s3, back⟩ := s2.split
  refine ⟨Fr ++ F, W, Mc, ds, _, _, s3, by rw [List.append_nil]; exact dv, q, fun d M' v W' H' q e s' d' => k d _ v W' H' q e (back W' H' M' e s') d', fun C fs M' d W' H' gs q e s' hd hm => hx C fs _ d W' H' gs q e (back W' H' M' e s') hd hm⟩
/-- a call of a def that raises nothing -/
theorem ev_call {S : SD} (h : ArD Z tr Γ M fun ds M1 => ∃ Mc Mr, M1.Perm (Mc ++ Mr) ∧ S ds Mc (fun d Mc' => Q d (Mc' ++ Mr)) noX) : EvD Z (tCall (toSp Z.K S) [] E0 tr) Γ M Q := fun F W H σ g s R k =>
  h F W H σ g s _ fun ds M1 vs W1 H1 q e1 s1 d1 => call_core noX s1 d1 q (fun C fs M' d W' H' gs z => False.elim z) fun d M' v W' H' q e s' d' => k d M' v W' H' q (e1.trans e) s' d'
/-- a call of a def that may raise: its error leaves this def too -/
theorem ev_callX {S : SD} (h : ArD Z tr Γ M fun ds M1 => ∃ Mc Mr, M1.Perm (Mc ++ Mr) ∧ S ds Mc (fun d Mc' => Q d (Mc' ++ Mr)) fun C fs Mc' => Z.X C fs (Mc' ++ Mr)) : EvD Z (tCall (toSp Z.K S) [] Z.E tr) Γ M Q := fun F W H σ g s R k =>
  h F W H σ g s _ fun ds M1 vs W1 H1 q e1 s1 d1 => call_core Z.X s1 d1 q (fun C fs M' d W' H' gs z e s' hd hm => g.x C fs M' d W' H' gs z (e1.trans e) s' hd hm) fun d M' v W' H' q e s' d' => k d M' v W' H' q (e1.trans e) s' d'
/-- a def that touches nothing and gives f of its arguments -/
def pureS (pre : List Dt → Prop) (f : List Dt → Dt) : SD := fun ds M Q _ => M = [] ∧ pre ds ∧ Q (f ds) []
theorem ev_pure {pre : List Dt → Prop} {f : List Dt → Dt} (h : ArD Z tr Γ M fun ds M1 => pre ds ∧ Q (f ds) M1) : EvD Z (tCall (toSp Z.K (pureS pre f)) [] E0 tr) Γ M Q :=
  ev_call fun F W H σ g s R k => h F W H σ g s R fun ds M1 vs W1 H1 ⟨q1, q2⟩ e1 s1 d1 => k ds M1 vs W1 H1 ⟨[], M1, .refl _, rfl, q1, q2⟩ e1 s1 d1
/-! ### a def -/
def startG (N : List Str) (ds : List Dt) : Gam := ds.map some ++ List.replicate (N.length - ds.length) none
theorem start_ok {K : PySem.W.Frag} {W : Hp} {N : List Str} {vs : List V} {ds : List Dt} (d : DVs K W vs ds) : GOk K W (L2.start N vs) (startG N ds) := by
  refine ⟨by simp [L2.start, startG, d.len], fun i e h => ?_⟩
  unfold startG at h
  by_cases hi : i < ds.length
  · rw [List.getElem?_append_left (by rw [List.length_map]; exact hi), List.getElem?_map] at h
    obtain ⟨e', h1, h2⟩ := Option.map_eq_some_iff.mp h
    cases h2
    obtain ⟨v, a, b⟩ := d.get h1
    refine ⟨v, ?_, b⟩
    unfold L2.start
    rw [List.getElem?_append_left (by rw [List.length_map, d.len]; exact hi), List.getElem?_map, a]
    rfl
  · rw [List.getElem?_append_right (by rw [List.length_map]; omega), List.getElem?_replicate] at h
    split at h <;> cases h
theorem fn_ok {P : Program} {w : World} {K : PySem.W.Frag} {mg : Str → Option Value} {base : Heap} {x qual : Str} {params : Arguments} {body : List Stmt} {scope : Scope} {f : Addr} {fd : FuncData} {N ps : List Str} {k : Nat} {S : SD} {t : XK → TS}
    (Fd : FunD K x qual params body scope [] [] f fd) (Sc : FnScope N ps scope) (hlen : ∀ ds M Q X, S ds M Q X → ds.length = ps.length)
    (hder : ∀ (cdv : Value) (A : Around) (outer : List Env) (s : Shared) (H : Hp) (E : XK), Room k (A.deeper (envOfC qual scope s.heap.objs.size f cdv)) → PSs (cxOf (L2.CX P w) P w K mg base N qual scope f cdv A outer s H E) body (t E))
    (hrd : ∀ (E : XK) (ds : List Dt) (M : Mem) (QD : Dt → Mem → Prop) (XD : Addr → List (Str × Dt) → Mem → Prop), S ds M QD XD → RnD ⟨K, E, XD⟩ (t E) (startG N ds) M { nx := fun _ M' => QD .non M', rt := QD }) : FnOk P w K mg base (L2.CX P w) (k + 1) f fd ps (toSp K S) := by
  refine Fd.ok Sc (fun vs H Q E h => ?_) fun cdv A outer s H vs Q E hr h => ⟨t E, hder cdv A outer s H E hr, ?_⟩
  · obtain ⟨F, W, M, ds, QD, XD, s, dv, q, _⟩ := h
    rw [dv.len]
    exact hlen ds M QD XD q
  · obtain ⟨F, W, M, ds, QD, XD, st, dv, q, k1, k2⟩ := h
    exact hrd E ds M QD XD q F W H _ _ ⟨start_ok dv, k2⟩ st ⟨fun Γ' M' σ' W' H' q e g s => k1 _ _ _ _ _ q e s .non, fun d M' v W' H' q e s d' => k1 _ _ _ _ _ q e s d', fun _ _ _ _ _ z => False.elim z, fun _ _ _ _ _ z => False.elim z⟩
/-- what a caller wants of a def of the module -/
structure FnB (P : Program) (w : World) (K : PySem.W.Frag) (mg : Str → Option Value) (base : Heap) (k : Nat) (x : Str) (S : SD) : Prop where
  ex : ∃ (f : Addr) (fd : FuncData) (ps : List Str), FnOk P w K mg base (L2.CX P w) k f fd ps (toSp K S) ∧ mg x = some (.ref f) ∧ PySem.W.keepIn K (.ref f) = true ∧ Binds K fd ps []
theorem pe_fn {X : Cx} {k j : Nat} {x : Str} {S : SD} {p pos : Pos} {e : Expr} {es : List Expr} {t : TA} (c : FnB X.prog X.w X.K X.mg X.base k x S) (hr : Room j X.A) (hk : k ≤ j) (hg : Gl X x) (ha : PA X (e :: es) t)
    (hdb : (x == ("__debug__" : Str)) = false := by decide) (he : starEach (e :: es) X.env = (false, eval e X.env) :: starEach es X.env := by rfl) (hpl : (backTo pos (starEach es X.env)).any (·.1) = false := by rfl) :
    PE X (.Call (.Name x p) (e :: es) [] pos) (tCall (toSp X.K S) [] E0 t) := by
  obtain ⟨f, fd, ps, F1, hm, kp, b⟩ := c.ex
  exact pe_call F1 (hr.mono hk) hg hm kp b .nil passL ha hdb he hpl
/-- .. that may raise: E takes what it raises -/
theorem pe_fnX {X : Cx} {k j : Nat} {x : Str} {S : SD} {E : XK} {p pos : Pos} {e : Expr} {es : List Expr} {t : TA} (c : FnB X.prog X.w X.K X.mg X.base k x S) (hr : Room j X.A) (hk : k ≤ j) (tk : Takes X (fun cls d _ H => E cls d H)) (hg : Gl X x) (ha : PA X (e :: es) t)
    (hdb : (x == ("__debug__" : Str)) = false := by decide) (he : starEach (e :: es) X.env = (false, eval e X.env) :: starEach es X.env := by rfl) (hpl : (backTo pos (starEach es X.env)).any (·.1) = false := by rfl) :
    PE X (.Call (.Name x p) (e :: es) [] pos) (tCall (toSp X.K S) [] E t) := by
  obtain ⟨f, fd, ps, F1, hm, kp, b⟩ := c.ex
  exact pe_call F1 (hr.mono hk) hg hm kp b .nil (passes_call tk fun _ _ _ _ h => h) ha hdb he hpl
end
end Lw
end

section
set_option Elab.async false
set_option linter.all false
set_option maxRecDepth 100000
set_option maxHeartbeats 4000000
namespace Lw
open PySem PySem.Spec PyProof.Rows L2 Evl

/-! ### for x in e, whatever e is: a list, a tuple, a text, a dict that stands -/
def iAny (K : PySem.W.Frag) (tl : TE) : TI := fun σ H R => tl σ H fun x H1 => (∃ a, x = .ref a ∧ (((∃ xs, SqL K H1 a xs) ∧ R (Itl K a) H1) ∨ ((∃ xs, SqT K H1 a xs) ∧ R (Itt K a) H1) ∨
  (∃ o kvs, H1 a = some (.frz o (.dK kvs)) ∧ R (Itk a o kvs) H1) ∨ (∃ o kvs, H1 a = some (.frz o (.dT kvs)) ∧ R (Itkt a o kvs) H1))) ∨ ∃ z, x = .str z ∧ R (Its z) H1
theorem pi_any {X : Cx} {tg l : Expr} {tl : TE} (hl : PE X l tl) : PI X tg l (iAny X.K tl) := by
  refine ⟨fun pins s σ H R I h => thn (hl.run pins s σ H _ I h) fun v s1 hv => ?_⟩
  obtain ⟨x, H1, I1, r1, q1⟩ := hv
  rcases q1 with ⟨a, rfl, ⟨⟨xs, hq⟩, q⟩ | ⟨⟨xs, hq⟩, q⟩ | ⟨o, kvs, hd, q⟩ | ⟨o, kvs, hd, q⟩⟩ | ⟨z, rfl, q⟩
  · cases r1
    obtain ⟨its, rv, pl, hz⟩ := I1.list hq
    exact wpAny_pyIter_list pl.isList (pi_one (tk := s1.toks) I1 _ (turn_list a _) ⟨_, Heap.get?_push_size _ rfl, rfl, rfl⟩ q)
  · cases r1
    obtain ⟨its, rv, pt, hz⟩ := I1.tuple hq
    exact wpAny_pyIter_tuple (show s1.heap.IsTuple a its.toArray from pt) (pi_one (tk := s1.toks) I1 _ (turn_tuple a _) ⟨_, Heap.get?_push_size _ rfl, rfl, rfl⟩ q)
  · cases r1
    obtain ⟨hs, hgd, hx, es, ep, vs, hdt, hsz, kv, hm⟩ := I1.frzK hd
    exact iter_keys hs hgd hx hdt (pi_one (tk := s1.toks) I1 _ (turn_keys _ hdt) ⟨_, Heap.get?_push_size _ rfl, rfl, by rw [hsz] <;> rfl⟩ q)
  · cases r1
    obtain ⟨hs, hgd, hx, es, ep, hdt, hsz, ent⟩ := I1.frzT hd
    exact iter_keys hs hgd hx hdt (pi_one (tk := s1.toks) I1 _ (turn_keysT _ hdt) ⟨_, Heap.get?_push_size _ rfl, rfl, by rw [hsz] <;> rfl⟩ q)
  · obtain ⟨t, rfl⟩ := r1
    cases ha : z.cps.all (· < 128) with
    | false => exact wpAny_pyIter_wide ha (pi_one (tk := s1.toks) I1 _ (turn_str _ z t "str_iterator" (.inr rfl)) ⟨_, Heap.get?_push_size _ rfl, rfl, rfl⟩ q)
    | true => exact wpAny_pyIter_ascii ha (pi_one (tk := s1.toks) I1 _ (turn_str _ z t "str_ascii_iterator" (.inl rfl)) ⟨_, Heap.get?_push_size _ rfl, rfl, rfl⟩ q)
section
variable {Z : Cq} {Γ : Gam} {M : Mem} {Q : List Dt → Mem → Prop} {tl : TE} {ta : TA} {W : Hp} {K : PySem.W.Frag}
/-- a key as a tree -/
def kD : Key → Dt
  | .inl i => .int i
  | .inr x => .str x
theorem dv_key (k : Key) : DV K W (kV k) (kD k) := by
  cases k with
  | inl i => exact .int i
  | inr x => exact .str x
theorem sqL_one {H : Hp} {a : Addr} {xs ys : List V} (h1 : SqL K H a xs) (h2 : SqL K H a ys) : SqL K H a xs ∧ SqL K H a ys := ⟨h1, h2⟩
theorem wk_list {a : Addr} {xs : List V} {ds : List Dt} (h : SqL Z.K W a xs) (d : DVs Z.K W xs ds) : WalkD Z (Itl Z.K a) W ds := fun W' H' M F e s => by
  have h2 : SqL Z.K H' a xs := ex_l s.ex (ex_l e h)
  refine ⟨fun i y hy => ?_, ⟨xs, h2, by rw [d.len]; exact Nat.le_refl _⟩⟩
  obtain ⟨v, hv, dv⟩ := d.get hy
  refine ⟨⟨xs, v, h2, hv⟩, fun x H2 yl => ?_⟩
  obtain ⟨rfl, q⟩ := yl
  have ex : x = v := Option.some.inj ((q xs h2).symm.trans hv)
  subst ex
  exact ⟨W', Ex.refl W', s, dv.mono e⟩
theorem wk_tup {a : Addr} {xs : List V} {ds : List Dt} (h : SqT Z.K W a xs) (d : DVs Z.K W xs ds) : WalkD Z (Itt Z.K a) W ds := fun W' H' M F e s => by
  have h2 : SqT Z.K H' a xs := ex_t s.ex (ex_t e h)
  refine ⟨fun i y hy => ?_, ⟨xs, h2, by rw [d.len]; exact Nat.le_refl _⟩⟩
  obtain ⟨v, hv, dv⟩ := d.get hy
  refine ⟨⟨xs, v, h2, hv⟩, fun x H2 yl => ?_⟩
  obtain ⟨rfl, q⟩ := yl
  have ex : x = v := Option.some.inj ((q xs h2).symm.trans hv)
  subst ex
  exact ⟨W', Ex.refl W', s, dv.mono e⟩
/-- the signs of a text -/
def signs (x : Str) : List Dt := x.cps.toList.map fun c => .str ⟨#[c]⟩
theorem wk_str (x : Str) : WalkD Z (Its x) W (signs x) := fun W' H' M F e s => by
  have hl : (signs x).length = x.cps.size := by simp [signs]
  refine ⟨fun i y hy => ?_, by show x.cps.size ≤ (signs x).length; omega⟩
  have hi : i < x.cps.size := by
    have := (List.getElem?_eq_some_iff.mp hy).1
    omega
  refine ⟨hi, fun v H2 yl => ?_⟩
  obtain ⟨rfl, c, hc, rfl⟩ := yl
  refine ⟨W', Ex.refl W', s, ?_⟩
  unfold signs at hy
  rw [List.getElem?_map, Array.getElem?_toList, hc] at hy
  cases hy
  exact .str _
def seqOf : Dt → Option (List Dt)
  | .lst ds => some ds
  | .sq ds => some ds
  | .tup ds => some ds
  | .tq ds => some ds
  | .str x => some (signs x)
  | .dK kvs => some (kvs.map fun p => kD p.1)
  | .dT kvs => some (kvs.map fun p => .tup (p.1.map kD))
  | _ => none
theorem dvs_keys : ∀ k : List Key, DVs K W (k.map kV) (k.map kD)
  | [] => .nil
  | k :: r => .cons (dv_key k) (dvs_keys r)
theorem it_any (h : EvD Z tl Γ M fun d M1 => ∃ ds, seqOf d = some ds ∧ Q ds M1) : ItD Z (iAny Z.K tl) Γ M Q := fun F W H σ g s R k =>
  h F W H σ g s _ fun d M1 v W1 H1 hq0 e1 s1 dv => by
    obtain ⟨ds, hd, q⟩ := hq0
    cases dv with
    | sq hs l r =>
      cases hd
      exact .inl ⟨_, rfl, .inl ⟨⟨_, ex_l s1.ex hs⟩, k _ _ _ _ _ q e1 s1 (wk_list hs ⟨l, r⟩)⟩⟩
    | lst hs l r =>
      cases hd
      exact .inl ⟨_, rfl, .inl ⟨⟨_, sq_of (s1.ex _ _ hs)⟩, k _ _ _ _ _ q e1 s1 (wk_list (sq_of hs) ⟨l, r⟩)⟩⟩
    | tq hs l r =>
      cases hd
      exact .inl ⟨_, rfl, .inr (.inl ⟨⟨_, ex_t s1.ex hs⟩, k _ _ _ _ _ q e1 s1 (wk_tup hs ⟨l, r⟩)⟩)⟩
    | tup hs l r =>
      cases hd
      exact .inl ⟨_, rfl, .inr (.inl ⟨⟨_, st_of (s1.ex _ _ hs)⟩, k _ _ _ _ _ q e1 s1 (wk_tup (st_of hs) ⟨l, r⟩)⟩)⟩
    | str x =>
      cases hd
      exact .inr ⟨_, rfl, k _ _ _ _ _ q e1 s1 (wk_str x)⟩
    | @dK a o gs fs hs l r =>
      cases hd
      refine .inl ⟨_, rfl, .inr (.inr (.inl ⟨_, _, s1.ex _ _ hs, k _ _ _ _ _ q e1 s1 fun W' H' M F e s => ?_⟩))⟩
      have hl : gs.length = fs.length := by
        have := congrArg List.length l
        simpa using this
      have h2 : H' a = some (.frz o (.dK gs)) := s.ex _ _ (e _ _ hs)
      refine ⟨fun i y hy => ?_, ⟨h2, by rw [List.length_map, hl]; exact Nat.le_refl _⟩⟩
      have hi : i < gs.length := by
        have := (List.getElem?_eq_some_iff.mp hy).1
        rw [List.length_map] at this
        omega
      refine ⟨⟨h2, hi⟩, fun x H2 yl => ?_⟩
      obtain ⟨rfl, kk, vv, hk, rfl⟩ := yl
      refine ⟨W', Ex.refl W', s, ?_⟩
      have e3 : (gs.map (·.1))[i]? = (fs.map (·.1))[i]? := by rw [l]
      rw [List.getElem?_map, List.getElem?_map, hk] at e3
      rw [List.getElem?_map] at hy
      cases hf : fs[i]? with
      | none =>
        rw [hf] at hy
        cases hy
      | some p =>
        rw [hf] at hy e3
        cases hy
        have e4 : kk = p.1 := Option.some.inj e3
        rw [e4]
        exact dv_key _
    | @dT a o gs fs hs l r =>
      cases hd
      refine .inl ⟨_, rfl, .inr (.inr (.inr ⟨_, _, s1.ex _ _ hs, k _ _ _ _ _ q e1 s1 fun W' H' M F e s => ?_⟩))⟩
      have hl : gs.length = fs.length := by
        have := congrArg List.length l
        simpa using this
      have h2 : H' a = some (.frz o (.dT gs)) := s.ex _ _ (e _ _ hs)
      refine ⟨fun i y hy => ?_, ⟨h2, by rw [List.length_map, hl]; exact Nat.le_refl _⟩⟩
      have hi : i < gs.length := by
        have := (List.getElem?_eq_some_iff.mp hy).1
        rw [List.length_map] at this
        omega
      refine ⟨⟨h2, hi⟩, fun x H2 yl => ?_⟩
      obtain ⟨rfl, kk, vv, q2, hk, rfl, hq⟩ := yl
      obtain ⟨W2, e5, s5, hW⟩ := s.tup hq
      refine ⟨W2, e5, s5, ?_⟩
      have e3 : (gs.map (·.1))[i]? = (fs.map (·.1))[i]? := by rw [l]
      rw [List.getElem?_map, List.getElem?_map, hk] at e3
      rw [List.getElem?_map] at hy
      cases hf : fs[i]? with
      | none =>
        rw [hf] at hy
        cases hy
      | some p =>
        rw [hf] at hy e3
        cases hy
        have e4 : kk = p.1 := Option.some.inj e3
        rw [e4] at hW
        exact .tup hW (dvs_keys (K := Z.K) (W := W2) _).len (dvs_keys _).at_
    | non => cases hd
    | bl b => cases hd
    | int i => cases hd
    | ref a => cases hd
    | ty n => cases hd
    | ins a b c => cases hd
theorem it_rng1 (h : ArD Z ta Γ M fun ds M1 => ∃ n : Int, ds = [.int n] ∧ -(2 ^ 62) ≤ n ∧ n < 2 ^ 62 ∧ Q ((List.range n.toNat).map fun (i : Nat) => Dt.int (i : Int)) M1) : ItD Z (iRng1 ta) Γ M Q := fun F W H σ g s R k =>
  h F W H σ g s _ fun ds M1 vs W1 H1 ⟨n, hd, h1, h2, q⟩ e1 s1 dv => by
    subst hd
    obtain ⟨v, us, rfl, d1, d2⟩ := dv.cons_inv
    obtain rfl := d2.nil_inv
    cases d1
    refine ⟨n, rfl, h1, h2, k _ _ _ _ _ q e1 s1 fun W' H' M F e s => ⟨fun i y hy => ?_, by show n.toNat ≤ _; rw [List.length_map, List.length_range]; exact Nat.le_refl _⟩⟩
    have hi : i < n.toNat := by
      have := (List.getElem?_eq_some_iff.mp hy).1
      simpa using this
    refine ⟨hi, fun x H2 yl => ?_⟩
    obtain ⟨rfl, rfl⟩ := yl
    rw [List.getElem?_map, List.getElem?_range hi] at hy
    cases hy
    refine ⟨W', Ex.refl W', s, ?_⟩
    rw [Int.zero_add]
    exact .int _
end
end Lw
end

section
set_option Elab.async false
set_option linter.all false
set_option maxRecDepth 100000
set_option maxHeartbeats 4000000
namespace Lw
open PySem PySem.Spec PyProof.Rows L2 Evl
section
variable {X : Cx}
/-! ### operators, whatever their operands are -/
def rAddS : R2 := fun x y H Q => ∃ i j, x = .str i ∧ y = .str j ∧ i.length + j.length ≤ sizeLine ∧ Q (.str (i ++ j)) H
def rAddA (K : PySem.W.Frag) : R2 := fun x y H Q => rI0 (fun i j => .int (i + j)) x y H Q ∨ rAddS x y H Q ∨ rCat x y H Q ∨ rCatA K x y H Q
theorem op_addA : OpR X (binaryOp .Add) (rAddA X.K) := op_add.or (OpR.or (r := rAddS) op_add_str (op_cat.or op_catA))
def rSubA : R2 := rI0 fun i j => .int (i - j)
theorem op_subA : OpR X (binaryOp .Sub) rSubA := op_sub
def rMulA : R2 := rI CMul fun i j => .int (i * j)
theorem op_mulA : OpR X (binaryOp .Mult) rMulA := op_mul
def rModA : R2 := rI (fun _ j => 0 < j) fun i j => .int (i % j)
theorem op_modA : OpR X (binaryOp .Mod) rModA := op_mod
def rDivA : R2 := rI CDivW fun i j => .int (i / j)
theorem op_divA : OpR X (binaryOp .FloorDiv) rDivA := op_fdivW
def rPowA : R2 := rI CPow fun i j => .int (i ^ j.toNat)
theorem op_powA : OpR X (binaryOp .Pow) rPowA := op_pow
def rLtA : R2 := rI0 fun i j => .bl (decide (i < j))
def rLeA : R2 := rI0 fun i j => .bl (decide (i ≤ j))
def rGtA : R2 := rI0 fun i j => .bl (decide (j < i))
def rGeA : R2 := rI0 fun i j => .bl (decide (j ≤ i))
theorem op_ltA : OpR X (compareOp .Lt) rLtA := op_lt
theorem op_leA : OpR X (compareOp .LtE) rLeA := op_le
theorem op_gtA : OpR X (compareOp .Gt) rGtA := op_gt
theorem op_geA : OpR X (compareOp .GtE) rGeA := op_ge
def rEqA (K : PySem.W.Frag) : R2 := fun x y H Q => rEq x y H Q ∨ rEqD K x y H Q
def rNeA (K : PySem.W.Frag) : R2 := fun x y H Q => rNe x y H Q ∨ rNeD K x y H Q
theorem op_eqA (hu : X.A.units + 64 < cLine) : OpR X (compareOp .Eq) (rEqA X.K) := op_eq.or (op_eqD hu)
theorem op_neA (hu : X.A.units + 64 < cLine) : OpR X (compareOp .NotEq) (rNeA X.K) := op_ne.or (op_neD hu)
/-- k in d -/
def rInDct (neg : Bool) : R2 := fun x y H Q => ∃ a o, y = .ref a ∧ DGet H a x o ∧ Q (.bl (if neg then !o.isSome else o.isSome)) H
theorem op_inDct (hu : X.A.units + 1 < cLine) : OpR X (compareOp .In) (rInDct false) := fun pins s σ H x y v u Q I rx ry h => by
  obtain ⟨a, o, rfl, g, q⟩ := h
  obtain rfl : u = Value.ref a := ry
  exact d_in hu I g rx fun s3 I3 => ⟨.bl o.isSome, H, I3, rfl, q⟩
theorem op_notInDct (hu : X.A.units + 1 < cLine) : OpR X (compareOp .NotIn) (rInDct true) := fun pins s σ H x y v u Q I rx ry h => by
  obtain ⟨a, o, rfl, g, q⟩ := h
  obtain rfl : u = Value.ref a := ry
  exact d_notIn hu I g rx fun s3 I3 => ⟨.bl (!o.isSome), H, I3, rfl, q⟩
def rInSg (neg : Bool) : R2 := fun x y H Q => ∃ (c : Nat) (z : Str), x = .str ⟨#[c]⟩ ∧ y = .str z ∧ Q (.bl (if neg then !decide (c ∈ z.cps.toList) else decide (c ∈ z.cps.toList))) H
theorem op_inSg : OpR X (compareOp .In) (rInSg false) := op_in_sign
theorem op_notInSg : OpR X (compareOp .NotIn) (rInSg true) := op_notIn_sign
def rInA (K : PySem.W.Frag) : R2 := fun x y H Q => rInSg false x y H Q ∨ rInDct false x y H Q ∨ rInD K x y H Q ∨ rIn K false x y H Q
def rNotInA (K : PySem.W.Frag) : R2 := fun x y H Q => rInSg true x y H Q ∨ rInDct true x y H Q ∨ rNotInD K x y H Q ∨ rIn K true x y H Q
theorem op_inA (hu : X.A.units + 65 < cLine) : OpR X (compareOp .In) (rInA X.K) := op_inSg.or ((op_inDct (by omega)).or ((op_inD hu).or op_in_seq))
theorem op_notInA (hu : X.A.units + 65 < cLine) : OpR X (compareOp .NotIn) (rNotInA X.K) := op_notInSg.or ((op_notInDct (by omega)).or ((op_notInD hu).or op_notIn_seq))
/-- d[k] -/
def rIxG : R2 := fun x y H Q => ∃ a v, x = .ref a ∧ DGet H a y (some v) ∧ Q v H
theorem ix_dct (hu : X.A.units + 1 < cLine) : IxR X rIxG := fun value slice pins s σ H x y v u Q I rx ry h hs => by
  obtain ⟨a, w, rfl, g, q⟩ := h
  obtain rfl : v = Value.ref a := rx
  exact tail_any (dict_typeIs I g) slot_dict_getitem.lookup (d_getItem hu I g ry fun w' s3 I3 rw' => ⟨w, H, I3, rw', q⟩) hs
def rIxA (K : PySem.W.Frag) (w : World) : R2 := fun x y H Q => rIx K x y H Q ∨ rIxD K w x y H Q ∨ rIxG x y H Q
theorem ix_A (hu : X.A.units + 1 < cLine) : IxR X (rIxA X.K X.w) := ix_seq.or (ix_kdict.or (ix_dct hu))
/-- slices -/
def rSlAll (K : PySem.W.Frag) : V → Option Int → Option Int → Hp → VK → Prop := fun x lo hi H Q => rSlL K x lo hi H Q ∨ rSlA K x lo hi H Q ∨ rSlS x lo hi H Q
theorem sl_all : SlR X (rSlAll X.K) := sl_list.or (sl_tupA.or sl_str)
/-! ### built-ins -/
def rLenA (K : PySem.W.Frag) : List V → Hp → VK → Prop := fun xs H Q => ∃ x n, xs = [x] ∧ LenV K x H n ∧ Q (.int n) H
theorem call_lenA : CallR X (.builtin "len") (rLenA X.K) := call_len
def rStrA : List V → Hp → VK → Prop := fun xs H Q => (∃ i, xs = [.int i] ∧ i.natAbs.log2 < 1920 ∧ Q (.str (toString i)) H) ∨ ∃ a, xs = [.str a] ∧ Q (.str a) H
theorem call_strA : CallR X (.type "str") rStrA := call_str_int.or SkE.call_str_str
def rIntA : List V → Hp → VK → Prop := fun xs H Q => ((∃ i, xs = [.int i] ∧ Q (.int i) H) ∨ ∃ k, xs = [.bl k] ∧ Q (.int (if k then 1 else 0)) H) ∨ ∃ a n, xs = [.str a] ∧ PySem.intText? a = some n ∧ a.length ≤ 640 ∧ Q (.int n) H
theorem call_intA : CallR X (.type "int") rIntA := call_int1.or call_int_str
def rListA (K : PySem.W.Frag) : List V → Hp → VK → Prop := fun xs H Q => ∃ p ys, xs = [.ref p] ∧ (SqL K H p ys ∨ SqT K H p ys) ∧ ∀ l, H l = none → Q (.ref l) (upd H l (.lst ys))
theorem call_listA : CallR X (.type "list") (rListA X.K) := call_list_of
def rTupleA (K : PySem.W.Frag) : List V → Hp → VK → Prop := fun xs H Q => ∃ p ys, xs = [.ref p] ∧ ((SqL K H p ys ∧ ∀ l, H l = none → Q (.ref l) (upd H l (.tup ys))) ∨ (SqT K H p ys ∧ Q (.ref p) H))
theorem call_tupleA : CallR X (.type "tuple") (rTupleA X.K) := call_tuple_of
def rJoinA (K : PySem.W.Frag) : V → List V → Hp → VK → Prop := fun x xs H Q => ∃ a p, ∃ ys : List Str, x = .str a ∧ xs = [.ref p] ∧ (SqL K H p (ys.map V.str) ∨ SqT K H p (ys.map V.str)) ∧ (ys.map (·.length)).sum + ys.length * a.length ≤ 16777216 ∧ Q (.str (Txt.join a ys)) H
def rSplitA : V → List V → Hp → VK → Prop := fun x xs H Q => ∃ a b, x = .str a ∧ xs = [.str b] ∧ (b.length == 0) = false ∧ a.length + 2 ≤ sizeLine ∧ rNewStrs (Txt.split a b) H Q
end

/-! ### over trees -/
mutual
def Dt.py : Dt → PyData
  | .non => .none
  | .bl b => .bool b
  | .int i => .int i
  | .str x => .str x
  | .lst ds => .list (Dt.pys ds)
  | .sq ds => .list (Dt.pys ds)
  | .tup ds => .tuple (Dt.pys ds)
  | .tq ds => .tuple (Dt.pys ds)
  | _ => .none
def Dt.pys : List Dt → List PyData
  | [] => []
  | d :: r => d.py :: Dt.pys r
end
mutual
/-- numbers, texts, truth values, None, lists and tuples of these -/
def Dt.isPy : Dt → Bool
  | .non => true
  | .bl _ => true
  | .int _ => true
  | .str _ => true
  | .lst ds => Dt.arePy ds
  | .sq ds => Dt.arePy ds
  | .tup ds => Dt.arePy ds
  | .tq ds => Dt.arePy ds
  | _ => false
def Dt.arePy : List Dt → Bool
  | [] => true
  | d :: r => d.isPy && Dt.arePy r
end
theorem arePy_get : ∀ {ds : List Dt} {i : Nat} {d : Dt}, Dt.arePy ds = true → ds[i]? = some d → d.isPy = true
  | [], i, d, _, h => by simp at h
  | e :: r, 0, d, h, g => by
    have h2 : (e.isPy && Dt.arePy r) = true := by
      have := h
      rwa [Dt.arePy] at this
    have e1 : e = d := by simpa using g
    rw [← e1]
    exact (Bool.and_eq_true_iff.mp h2).1
  | e :: r, i + 1, d, h, g => by
    have h2 : (e.isPy && Dt.arePy r) = true := by
      have := h
      rwa [Dt.arePy] at this
    exact arePy_get (i := i) (Bool.and_eq_true_iff.mp h2).2 (by simpa using g)
section
variable {K : PySem.W.Frag} {W : Hp} {v : V} {d : Dt}
theorem dpAll_of : ∀ {xs : List V} {ds : List Dt}, xs.length = ds.length → (∀ (i : Nat) (v : V) (d : Dt), xs[i]? = some v → ds[i]? = some d → Dp K W v d.py) → DpAll K W xs (Dt.pys ds)
  | [], [], _, _ => by
    rw [Dt.pys]
    exact .nil
  | [], _ :: _, l, _ => by simp at l
  | _ :: _, [], l, _ => by simp at l
  | x :: xs, d :: ds, l, h => by
    rw [Dt.pys]
    exact .cons (h 0 x d rfl rfl) (dpAll_of (by simpa using l) fun i v e h1 h2 => h (i + 1) v e (by simpa using h1) (by simpa using h2))
theorem DV.dp (h : DV K W v d) : d.isPy = true → Dp K W v d.py := by
  induction h with
  | non => intro _; rw [Dt.py]; exact .non
  | bl b => intro _; rw [Dt.py]; exact .bl b
  | int i => intro _; rw [Dt.py]; exact .int i
  | str x => intro _; rw [Dt.py]; exact .str x
  | ref a => intro h; rw [Dt.isPy] at h <;> first | cases h | nofun
  | ty n => intro h; rw [Dt.isPy] at h <;> first | cases h | nofun
  | sq h l r ih =>
    intro z
    rw [Dt.isPy] at z
    rw [Dt.py]
    exact .lst h (dpAll_of l fun i v d h1 h2 => ih i v d h1 h2 (arePy_get z h2))
  | lst h l r ih =>
    intro z
    rw [Dt.isPy] at z
    rw [Dt.py]
    exact .lst (sq_of h) (dpAll_of l fun i v d h1 h2 => ih i v d h1 h2 (arePy_get z h2))
  | tq h l r ih =>
    intro z
    rw [Dt.isPy] at z
    rw [Dt.py]
    exact .tup h (dpAll_of l fun i v d h1 h2 => ih i v d h1 h2 (arePy_get z h2))
  | tup h l r ih =>
    intro z
    rw [Dt.isPy] at z
    rw [Dt.py]
    exact .tup (st_of h) (dpAll_of l fun i v d h1 h2 => ih i v d h1 h2 (arePy_get z h2))
  | ins h l r ih => intro h; rw [Dt.isPy] at h <;> first | cases h | nofun
  | dK h l r ih => intro h; rw [Dt.isPy] at h <;> first | cases h | nofun
  | dT h l r ih => intro h; rw [Dt.isPy] at h <;> first | cases h | nofun
end
section
variable {Z : Cq} {M : Mem} {Q : Dt → Mem → Prop} {x y d : Dt} {i j : Int} {a b : Str} {ds es : List Dt}
/-! ints -/
theorem op_I0 {g : Int → Int → V} {gd : Int → Int → Dt} (hg : ∀ W i j, DV Z.K W (g i j) (gd i j)) (q : Q (gd i j) M) : OpD Z (rI0 g) (.int i) (.int j) M Q := fun F W H vx vy s d1 d2 R k => by
  cases d1
  cases d2
  exact ⟨i, j, rfl, rfl, k _ _ _ _ _ q (Ex.refl W) s (hg W i j)⟩
theorem op_I {C : Int → Int → Prop} {g : Int → Int → V} {gd : Int → Int → Dt} (hg : ∀ W i j, DV Z.K W (g i j) (gd i j)) (c : C i j) (q : Q (gd i j) M) : OpD Z (rI C g) (.int i) (.int j) M Q := fun F W H vx vy s d1 d2 R k => by
  cases d1
  cases d2
  exact ⟨i, j, rfl, rfl, c, k _ _ _ _ _ q (Ex.refl W) s (hg W i j)⟩
theorem op_orL {r r' : R2} (h : OpD Z r x y M Q) : OpD Z (fun x y H Q => r x y H Q ∨ r' x y H Q) x y M Q := fun F W H vx vy s d1 d2 R k => .inl (h F W H vx vy s d1 d2 R k)
theorem op_orR {r r' : R2} (h : OpD Z r' x y M Q) : OpD Z (fun x y H Q => r x y H Q ∨ r' x y H Q) x y M Q := fun F W H vx vy s d1 d2 R k => .inr (h F W H vx vy s d1 d2 R k)
theorem od_addI (q : Q (.int (i + j)) M) : OpD Z (rAddA Z.K) (.int i) (.int j) M Q := op_orL (op_I0 (fun _ _ _ => .int _) q)
theorem od_addS (h : a.length + b.length ≤ sizeLine) (q : Q (.str (a ++ b)) M) : OpD Z (rAddA Z.K) (.str a) (.str b) M Q := op_orR (op_orL fun F W H vx vy s d1 d2 R k => by
  cases d1
  cases d2
  exact ⟨a, b, rfl, rfl, h, k _ _ _ _ _ q (Ex.refl W) s (.str _)⟩)
theorem od_addL (h : ds.length + es.length ≤ sizeLine) (q : Q (.lst (ds ++ es)) M) : OpD Z (rAddA Z.K) (.lst ds) (.lst es) M Q := op_orR (op_orR (op_orL fun F W H vx vy s d1 d2 R k => by
  cases d1 with
  | lst h1 l1 r1 =>
    cases d2 with
    | lst h2 l2 r2 =>
      refine ⟨_, _, _, _, rfl, rfl, s.ex _ _ h1, s.ex _ _ h2, by rw [l1, l2]; exact h, fun p hp => ?_⟩
      obtain ⟨e2, s2⟩ := s.new hp
      have dd : DVs Z.K W _ (ds ++ es) := DVs.append ⟨l1, r1⟩ ⟨l2, r2⟩
      exact k _ _ _ _ _ q e2 s2 (.lst upd_same dd.len (dd.mono e2).at_)))
theorem od_addT (h : ds.length + es.length ≤ sizeLine) (q : Q (.tup (ds ++ es)) M) : OpD Z (rAddA Z.K) (.tup ds) (.tup es) M Q := op_orR (op_orR (op_orR fun F W H vx vy s d1 d2 R k => by
  have d10 := d1
  have d20 := d2
  cases d1 with
  | @tup a1 xs _ h1 l1 r1 =>
    cases d2 with
    | @tup a2 ys _ h2 l2 r2 =>
      refine ⟨a1, a2, xs, ys, rfl, rfl, st_of (s.ex _ _ h1), st_of (s.ex _ _ h2), by rw [l1, l2]; exact h, fun e => ?_, fun _ e => ?_, fun _ _ p hp => ?_⟩
      · have e0 : ds = [] := List.eq_nil_of_length_eq_zero (by rw [← l1, e]; rfl)
        refine k _ _ _ _ _ q (Ex.refl W) s ?_
        rw [e0]
        exact d20
      · have e0 : es = [] := List.eq_nil_of_length_eq_zero (by rw [← l2, e]; rfl)
        refine k _ _ _ _ _ q (Ex.refl W) s ?_
        rw [e0, List.append_nil]
        exact d10
      · obtain ⟨e2, s2⟩ := s.new hp
        have dd : DVs Z.K W _ (ds ++ es) := DVs.append ⟨l1, r1⟩ ⟨l2, r2⟩
        exact k _ _ _ _ _ q e2 s2 (.tup upd_same dd.len (dd.mono e2).at_)))
theorem od_sub (q : Q (.int (i - j)) M) : OpD Z rSubA (.int i) (.int j) M Q := op_I0 (fun _ _ _ => .int _) q
theorem od_mul (c : CMul i j) (q : Q (.int (i * j)) M) : OpD Z rMulA (.int i) (.int j) M Q := op_I (fun _ _ _ => .int _) c q
theorem od_mod (c : 0 < j) (q : Q (.int (i % j)) M) : OpD Z rModA (.int i) (.int j) M Q := op_I (C := fun _ j => 0 < j) (fun _ _ _ => .int _) c q
theorem od_div (c : CDivW i j) (q : Q (.int (i / j)) M) : OpD Z rDivA (.int i) (.int j) M Q := op_I (fun _ _ _ => .int _) c q
theorem od_pow (c : CPow i j) (q : Q (.int (i ^ j.toNat)) M) : OpD Z rPowA (.int i) (.int j) M Q := op_I (fun _ _ _ => .int _) c q
theorem od_lt (q : Q (.bl (decide (i < j))) M) : OpD Z rLtA (.int i) (.int j) M Q := op_I0 (fun _ _ _ => .bl _) q
theorem od_le (q : Q (.bl (decide (i ≤ j))) M) : OpD Z rLeA (.int i) (.int j) M Q := op_I0 (fun _ _ _ => .bl _) q
theorem od_gt (q : Q (.bl (decide (j < i))) M) : OpD Z rGtA (.int i) (.int j) M Q := op_I0 (fun _ _ _ => .bl _) q
theorem od_ge (q : Q (.bl (decide (j ≤ i))) M) : OpD Z rGeA (.int i) (.int j) M Q := op_I0 (fun _ _ _ => .bl _) q
theorem od_ipI {f : Int → Int → Int} (q : Q (.int (f i j)) M) : OpD Z (ipI f) (.int i) (.int j) M Q := fun F W H vx vy s d1 d2 R k => by
  cases d1
  cases d2
  exact ⟨i, j, rfl, rfl, k _ _ _ _ _ q (Ex.refl W) s (.int _)⟩
/-! == of data -/
theorem od_eq (h1 : x.isPy = true) (h2 : y.isPy = true) (s1 : SeqAt.shaped x.py = true) (s2 : SeqAt.shaped y.py = true) (q : Q (.bl (PyData.eqv x.py y.py)) M) : OpD Z (rEqA Z.K) x y M Q := op_orR fun F W H vx vy s d1 d2 R k =>
  ⟨_, _, (d1.mono s.ex).dp h1, (d2.mono s.ex).dp h2, s1, s2, k _ _ _ _ _ q (Ex.refl W) s (.bl _)⟩
theorem od_ne (h1 : x.isPy = true) (h2 : y.isPy = true) (s1 : SeqAt.shaped x.py = true) (s2 : SeqAt.shaped y.py = true) (q : Q (.bl (!PyData.eqv x.py y.py)) M) : OpD Z (rNeA Z.K) x y M Q := op_orR fun F W H vx vy s d1 d2 R k =>
  ⟨_, _, (d1.mono s.ex).dp h1, (d2.mono s.ex).dp h2, s1, s2, k _ _ _ _ _ q (Ex.refl W) s (.bl _)⟩
/-- of two numbers, two texts -/
theorem od_eqI (q : Q (.bl (decide (i = j))) M) : OpD Z (rEqA Z.K) (.int i) (.int j) M Q := op_orL fun F W H vx vy s d1 d2 R k => by
  cases d1
  cases d2
  refine ⟨rfl, k _ _ _ _ _ q (Ex.refl W) s ?_⟩
  rw [show decide (V.int i = V.int j) = decide (i = j) from decide_eq_decide.mpr ⟨fun e => V.int.inj e, fun e => by rw [e]⟩]
  exact .bl _
theorem od_eqS (q : Q (.bl (decide (a = b))) M) : OpD Z (rEqA Z.K) (.str a) (.str b) M Q := op_orL fun F W H vx vy s d1 d2 R k => by
  cases d1
  cases d2
  refine ⟨rfl, k _ _ _ _ _ q (Ex.refl W) s ?_⟩
  rw [show decide (V.str a = V.str b) = decide (a = b) from decide_eq_decide.mpr ⟨fun e => V.str.inj e, fun e => by rw [e]⟩]
  exact .bl _
theorem od_neI (q : Q (.bl (!decide (i = j))) M) : OpD Z (rNeA Z.K) (.int i) (.int j) M Q := op_orL fun F W H vx vy s d1 d2 R k => by
  cases d1
  cases d2
  refine ⟨rfl, k _ _ _ _ _ q (Ex.refl W) s ?_⟩
  rw [show decide (V.int i = V.int j) = decide (i = j) from decide_eq_decide.mpr ⟨fun e => V.int.inj e, fun e => by rw [e]⟩]
  exact .bl _
theorem od_neS (q : Q (.bl (!decide (a = b))) M) : OpD Z (rNeA Z.K) (.str a) (.str b) M Q := op_orL fun F W H vx vy s d1 d2 R k => by
  cases d1
  cases d2
  refine ⟨rfl, k _ _ _ _ _ q (Ex.refl W) s ?_⟩
  rw [show decide (V.str a = V.str b) = decide (a = b) from decide_eq_decide.mpr ⟨fun e => V.str.inj e, fun e => by rw [e]⟩]
  exact .bl _
/-! in -/
theorem od_inSg {c : Nat} (q : Q (.bl (decide (c ∈ b.cps.toList))) M) : OpD Z (rInA Z.K) (.str ⟨#[c]⟩) (.str b) M Q := op_orL fun F W H vx vy s d1 d2 R k => by
  cases d1
  cases d2
  exact ⟨c, b, rfl, rfl, k _ _ _ _ _ q (Ex.refl W) s (.bl _)⟩
theorem od_notInSg {c : Nat} (q : Q (.bl (!decide (c ∈ b.cps.toList))) M) : OpD Z (rNotInA Z.K) (.str ⟨#[c]⟩) (.str b) M Q := op_orL fun F W H vx vy s d1 d2 R k => by
  cases d1
  cases d2
  exact ⟨c, b, rfl, rfl, k _ _ _ _ _ q (Ex.refl W) s (.bl _)⟩
theorem od_inL (h1 : x.isPy = true) (h2 : Dt.arePy ds = true) (s1 : SeqAt.shaped x.py = true) (s2 : SeqAt.shaped (.list (Dt.pys ds)) = true) (q : Q (.bl ((Dt.pys ds).any fun z => PyData.eqv z x.py)) M) : OpD Z (rInA Z.K) x (.lst ds) M Q := op_orR (op_orR (op_orL fun F W H vx vy s d1 d2 R k => by
  have e := (d2.mono s.ex).dp (by rw [Dt.isPy]; exact h2)
  rw [Dt.py] at e
  exact ⟨_, _, (d1.mono s.ex).dp h1, e, s1, s2, k _ _ _ _ _ q (Ex.refl W) s (.bl _)⟩))
theorem od_notInL (h1 : x.isPy = true) (h2 : Dt.arePy ds = true) (s1 : SeqAt.shaped x.py = true) (s2 : SeqAt.shaped (.list (Dt.pys ds)) = true) (q : Q (.bl (!(Dt.pys ds).any fun z => PyData.eqv z x.py)) M) : OpD Z (rNotInA Z.K) x (.lst ds) M Q := op_orR (op_orR (op_orL fun F W H vx vy s d1 d2 R k => by
  have e := (d2.mono s.ex).dp (by rw [Dt.isPy]; exact h2)
  rw [Dt.py] at e
  exact ⟨_, _, (d1.mono s.ex).dp h1, e, s1, s2, k _ _ _ _ _ q (Ex.refl W) s (.bl _)⟩))
/-! subscripts -/
theorem ixN_len {α β : Type} {xs : List α} {ds : List β} (h : xs.length = ds.length) (i : Int) {d : β} (e : atI ds i = some d) : ∃ (j : Nat) (v : α), xs[j]? = some v ∧ ds[j]? = some d ∧ atI xs i = some v := by
  unfold atI at e ⊢
  rw [h]
  obtain ⟨j, e1, e2⟩ := Option.bind_eq_some_iff.mp e
  have hj : j < xs.length := by
    rw [h]
    exact (List.getElem?_eq_some_iff.mp e2).1
  exact ⟨j, xs[j], List.getElem?_eq_getElem hj, e2, by rw [e1]; exact List.getElem?_eq_getElem hj⟩
theorem od_ixL {w : World} (e : atI ds i = some d) (q : Q d M) : OpD Z (rIxA Z.K w) (.lst ds) (.int i) M Q := op_orL fun F W H vx vy s d1 d2 R k => by
  cases d2
  cases d1 with
  | lst h l r =>
    obtain ⟨j, v, e1, e2, e3⟩ := ixN_len l i e
    exact .inl ⟨_, _, i, v, rfl, rfl, sq_of (s.ex _ _ h), e3, k _ _ _ _ _ q (Ex.refl W) s (r j v d e1 e2)⟩
theorem od_ixQ {w : World} (e : atI ds i = some d) (q : Q d M) : OpD Z (rIxA Z.K w) (.sq ds) (.int i) M Q := op_orL fun F W H vx vy s d1 d2 R k => by
  cases d2
  cases d1 with
  | sq h l r =>
    obtain ⟨j, v, e1, e2, e3⟩ := ixN_len l i e
    exact .inl ⟨_, _, i, v, rfl, rfl, ex_l s.ex h, e3, k _ _ _ _ _ q (Ex.refl W) s (r j v d e1 e2)⟩
theorem od_ixT {w : World} (e : atI ds i = some d) (q : Q d M) : OpD Z (rIxA Z.K w) (.tup ds) (.int i) M Q := op_orL fun F W H vx vy s d1 d2 R k => by
  cases d2
  cases d1 with
  | tup h l r =>
    obtain ⟨j, v, e1, e2, e3⟩ := ixN_len l i e
    exact .inr (.inl ⟨_, _, i, v, rfl, rfl, st_of (s.ex _ _ h), e3, k _ _ _ _ _ q (Ex.refl W) s (r j v d e1 e2)⟩)
theorem od_ixS {w : World} {c : Nat} (hl : a.length ≤ sizeLine) (e : atI a.cps.toList i = some c) (q : Q (.str ⟨#[c]⟩) M) : OpD Z (rIxA Z.K w) (.str a) (.int i) M Q := op_orL fun F W H vx vy s d1 d2 R k => by
  cases d2
  cases d1
  exact .inr (.inr ⟨a, i, c, rfl, rfl, hl, e, k _ _ _ _ _ q (Ex.refl W) s (.str _)⟩)
/-- a list in the memory -/
theorem od_ixM {w : World} {n : Nat} {p : Addr} (hm : M[n]? = some (p, .lst ds)) (e : atI ds i = some d) (q : Q d M) : OpD Z (rIxA Z.K w) (.ref p) (.int i) M Q := op_orL fun F W H vx vy s d1 d2 R k => by
  cases d2
  cases d1
  obtain ⟨xs, hx, dx⟩ := (s.mem _ (List.mem_of_getElem? hm)).2
  obtain ⟨j, v, e1, e2, e3⟩ := ixN_len dx.len i e
  exact .inl ⟨_, _, i, v, rfl, rfl, sq_of hx, e3, k _ _ _ _ _ q (Ex.refl W) s (dx.at_ j v d e1 e2)⟩
/-- a dict of the module's own -/
theorem od_ixD {w : World} {p : Addr} (hd : ∀ W, ∃ v, KDct Z.K w p a v ∧ DV Z.K W v d) (q : Q d M) : OpD Z (rIxA Z.K w) (.ref p) (.str a) M Q := op_orR (op_orL fun F W H vx vy s d1 d2 R k => by
  cases d2
  cases d1
  obtain ⟨v, hk, dv⟩ := hd W
  exact ⟨_, _, v, rfl, rfl, hk, k _ _ _ _ _ q (Ex.refl W) s dv⟩)
/-! built-ins -/
theorem cd_lenS (h : a.length ≤ sizeLine) (q : Q (.int a.length) M) : ClD Z (rLenA Z.K) [.str a] M Q := fun F W H vs s dv R k => by
  obtain ⟨v, us, rfl, d1, d2⟩ := dv.cons_inv
  obtain rfl := d2.nil_inv
  cases d1
  exact ⟨_, _, rfl, ⟨h, rfl⟩, k _ _ _ _ _ q (Ex.refl W) s (.int _)⟩
theorem cd_lenL (q : Q (.int (ds.length : Nat)) M) : ClD Z (rLenA Z.K) [.lst ds] M Q := fun F W H vs s dv R k => by
  obtain ⟨v, us, rfl, d1, d2⟩ := dv.cons_inv
  obtain rfl := d2.nil_inv
  cases d1 with
  | lst h l r => exact ⟨_, _, rfl, .inl ⟨_, sq_of (s.ex _ _ h), l.symm⟩, k _ _ _ _ _ q (Ex.refl W) s (.int _)⟩
theorem cd_lenQ (q : Q (.int (ds.length : Nat)) M) : ClD Z (rLenA Z.K) [.sq ds] M Q := fun F W H vs s dv R k => by
  obtain ⟨v, us, rfl, d1, d2⟩ := dv.cons_inv
  obtain rfl := d2.nil_inv
  cases d1 with
  | sq h l r => exact ⟨_, _, rfl, .inl ⟨_, ex_l s.ex h, l.symm⟩, k _ _ _ _ _ q (Ex.refl W) s (.int _)⟩
theorem cd_lenT (q : Q (.int (ds.length : Nat)) M) : ClD Z (rLenA Z.K) [.tup ds] M Q := fun F W H vs s dv R k => by
  obtain ⟨v, us, rfl, d1, d2⟩ := dv.cons_inv
  obtain rfl := d2.nil_inv
  cases d1 with
  | tup h l r => exact ⟨_, _, rfl, .inr ⟨_, st_of (s.ex _ _ h), l.symm⟩, k _ _ _ _ _ q (Ex.refl W) s (.int _)⟩
theorem cd_lenM {n : Nat} {p : Addr} (hm : M[n]? = some (p, .lst ds)) (q : Q (.int (ds.length : Nat)) M) : ClD Z (rLenA Z.K) [.ref p] M Q := fun F W H vs s dv R k => by
  obtain ⟨v, us, rfl, d1, d2⟩ := dv.cons_inv
  obtain rfl := d2.nil_inv
  cases d1
  obtain ⟨xs, hx, dx⟩ := (s.mem _ (List.mem_of_getElem? hm)).2
  exact ⟨_, _, rfl, .inl ⟨_, sq_of hx, dx.len.symm⟩, k _ _ _ _ _ q (Ex.refl W) s (.int _)⟩
theorem cd_strI (h : i.natAbs.log2 < 1920) (q : Q (.str (toString i)) M) : ClD Z rStrA [.int i] M Q := fun F W H vs s dv R k => by
  obtain ⟨v, us, rfl, d1, d2⟩ := dv.cons_inv
  obtain rfl := d2.nil_inv
  cases d1
  exact .inl ⟨_, rfl, h, k _ _ _ _ _ q (Ex.refl W) s (.str _)⟩
theorem cd_strS (q : Q (.str a) M) : ClD Z rStrA [.str a] M Q := fun F W H vs s dv R k => by
  obtain ⟨v, us, rfl, d1, d2⟩ := dv.cons_inv
  obtain rfl := d2.nil_inv
  cases d1
  exact .inr ⟨_, rfl, k _ _ _ _ _ q (Ex.refl W) s (.str _)⟩
theorem cd_intI (q : Q (.int i) M) : ClD Z rIntA [.int i] M Q := fun F W H vs s dv R k => by
  obtain ⟨v, us, rfl, d1, d2⟩ := dv.cons_inv
  obtain rfl := d2.nil_inv
  cases d1
  exact .inl (.inl ⟨_, rfl, k _ _ _ _ _ q (Ex.refl W) s (.int _)⟩)
theorem cd_intS (h : PySem.intText? a = some i) (hl : a.length ≤ 640) (q : Q (.int i) M) : ClD Z rIntA [.str a] M Q := fun F W H vs s dv R k => by
  obtain ⟨v, us, rfl, d1, d2⟩ := dv.cons_inv
  obtain rfl := d2.nil_inv
  cases d1
  exact .inr ⟨_, _, rfl, h, hl, k _ _ _ _ _ q (Ex.refl W) s (.int _)⟩
theorem cd_tupL (q : Q (.tup ds) M) : ClD Z (rTupleA Z.K) [.lst ds] M Q := fun F W H vs s dv R k => by
  obtain ⟨v, us, rfl, d1, d2⟩ := dv.cons_inv
  obtain rfl := d2.nil_inv
  cases d1 with
  | lst h l r =>
    refine ⟨_, _, rfl, .inl ⟨sq_of (s.ex _ _ h), fun p hp => ?_⟩⟩
    obtain ⟨e2, s2⟩ := s.new hp
    exact k _ _ _ _ _ q e2 s2 (.tup upd_same l (DVs.mono e2 ⟨l, r⟩).at_)
theorem cd_tupM {n : Nat} {p : Addr} (hm : M[n]? = some (p, .lst ds)) (q : Q (.tup ds) M) : ClD Z (rTupleA Z.K) [.ref p] M Q := fun F W H vs s dv R k => by
  obtain ⟨v, us, rfl, d1, d2⟩ := dv.cons_inv
  obtain rfl := d2.nil_inv
  cases d1
  obtain ⟨xs, hx, dx⟩ := (s.mem _ (List.mem_of_getElem? hm)).2
  refine ⟨_, _, rfl, .inl ⟨sq_of hx, fun p hp => ?_⟩⟩
  obtain ⟨e2, s2⟩ := s.new hp
  exact k _ _ _ _ _ q e2 s2 (.tup upd_same dx.len (dx.mono e2).at_)
theorem cd_tupT (q : Q (.tup ds) M) : ClD Z (rTupleA Z.K) [.tup ds] M Q := fun F W H vs s dv R k => by
  obtain ⟨v, us, rfl, d1, d2⟩ := dv.cons_inv
  obtain rfl := d2.nil_inv
  have d10 := d1
  cases d1 with
  | tup h l r => exact ⟨_, _, rfl, .inr ⟨st_of (s.ex _ _ h), k _ _ _ _ _ q (Ex.refl W) s d10⟩⟩
end
end Lw
end

section
set_option Elab.async false
set_option linter.all false
set_option maxRecDepth 100000
set_option maxHeartbeats 4000000
namespace Lw
open PySem PySem.Spec PyProof.Rows L2 Evl

/-! ### what a derivation takes from its surroundings -/
section
variable {P : Program} {w : World} {K : PySem.W.Frag} {mg : Str → Option Value} {base : Heap} {N : List Str} {qual : Str} {scope : Scope} {f : Addr} {cdv : Value} {A : Around} {outer : List Env} {s : Shared} {H : Hp} {E : XK} {k : Nat}
theorem tk_of : Takes (cxOf (L2.CX P w) P w K mg base N qual scope f cdv A outer s H E) (fun cls d _ H => E cls d H) := takes_of rfl rfl rfl rfl
theorem po_of : PassesOwn (model P w) (cxOf (L2.CX P w) P w K mg base N qual scope f cdv A outer s H E).A (cxOf (L2.CX P w) P w K mg base N qual scope f cdv A outer s H E).env (cxOf (L2.CX P w) P w K mg base N qual scope f cdv A outer s H E).xe :=
  passes_of (X := cxOf (L2.CX P w) P w K mg base N qual scope f cdv A outer s H E) rfl
theorem hu1_of (hr : Room k A) : A.units + 1 < cLine := by have := hr.un; omega
theorem hu64_of (hr : Room k A) : A.units + 64 < cLine := by have := hr.un; omega
theorem hu65_of (hr : Room k A) : A.units + 65 < cLine := by have := hr.un; omega

/-! ### defs that are promised where no repr is under way -/
structure FnOkG (P : Program) (w : World) (K : PySem.W.Frag) (mg : Str → Option Value) (base : Heap) (k : Nat) (f : Addr) (fd : FuncData) (ps : List Str) (sp : Sp) : Prop where
  len : ∀ vs H Q E, sp vs H Q E → vs.length = ps.length
  run : ∀ (A : Around) (os : List Env) (s : Shared) (H : Hp) (args : Args) (us : List Value) (vs : List V) (Q : VK) (E : XK), Room k A → A.guards = some [] → Env0 P w K mg base A os s H → BindsTo s fd args (ps.zip us) → Vals vs us → sp vs H Q E →
    codeAny (model P w) A (.call (.ref f) args) (CR (L2.CX P w) os P w H s Q E) s
theorem fn_ofG {x qual : Str} {params : Arguments} {body : List Stmt} {scope : Scope} {f : Addr} {fd : FuncData} {N ps : List Str} {sp : Sp} (Fd : FunD K x qual params body scope [] [] f fd) (S : FnScope N ps scope)
    (hl0 : ∀ vs H Q E, sp vs H Q E → vs.length = ps.length)
    (hb0 : ∀ (cdv : Value) (A : Around) (os : List Env) (s : Shared) (H : Hp) (vs : List V) (Q : VK) (E : XK), Room k (A.deeper (envOfC qual scope s.heap.objs.size f cdv)) → A.guards = some [] → sp vs H Q E →
      ∃ t, PSs (cxOf (L2.CX P w) P w K mg base N qual scope f cdv A os s H E) body t ∧ t { nx := fun _ H' => Q .non H', rt := Q } (L2.start N vs) H) : FnOkG P w K mg base (k + 1) f fd ps sp := by
  obtain ⟨oc, od, dV, kV, dc, pm, an, cdv, ct, osl, rfl, lk, hcd, _, _⟩ := Fd.ex
  refine ⟨hl0, fun A os s H args us vs Q E room hgd env0 bnd rel spec => ?_⟩
  have len0 := hl0 _ _ _ _ spec
  have inK : K.In s.heap := env0.mod.kin.keeps fun b o e => (env0.bs b o e).1
  have nolim : s.heap.NoLimit := env0.mod.nolimit.keeps fun b o e => (env0.bs b o e).1
  have kinds : ∀ y ∈ ps.zip us, scope.names.lookup y.1 = some .local ∨ (scope.names.lookup y.1 = some .cell ∧ ((cellsFrom (s.heap.objs.size + 1) scope.names []).lookup y.1).isSome = true) := fun ⟨n, v⟩ hy => by
    rcases S.par n (List.of_mem_zip hy).1 with z | z
    · exact .inl z
    · exact .inr ⟨z, PySem.W.cellsFrom_some _ _ _ (.inl z)⟩
  refine codeAny_call_function room.depth (inK _ _ lk) rfl S.co S.gen rfl (PySem.W.codeRec_of inK hcd) (bnd _ _ _ _ ?_)
  refine wpAny_newFunctionEnv_cells S.kind kinds fun env henv s1 x1 => ?_
  subst henv
  refine ⟨nolim.keeps x1.toInCall.keep, codeAny_func ?_⟩
  obtain ⟨t, ht, tq⟩ := hb0 cdv A os s H vs Q E (room.deeper _) hgd spec
  have I : Inv (cxOf (L2.CX P w) P w K mg base N qual scope f cdv A os s H E) [] (L2.start N vs) H s1 := inv_start S room.hd env0 len0 rel x1
  refine wpAny_mono (ht.run [] s1 (L2.start N vs) H _ I tq) (fun fl s' hs => ?_) fun e s' hs => hs
  have close : ∀ {σ' : L2.St} {H' : Hp} {v : V} {u : Value}, Inv (cxOf (L2.CX P w) P w K mg base N qual scope f cdv A os s H E) [] σ' H' s' → RelV v u → Q v H' → CE os P w H s Q u s' :=
    fun {σ' H' v u} J rv q => ⟨v, H', J.os, J.bare, J.base, J.hok, rv, q⟩
  cases fl with
  | ret u => exact let ⟨_, _, _, J, rv, q⟩ := hs; close J rv q
  | next => exact let ⟨_, _, J, q⟩ := hs; close (v := V.non) (u := Value.none) J rfl q
  | brk => exact let ⟨_, _, _, q⟩ := hs; False.elim q
  | cont => exact let ⟨_, _, _, q⟩ := hs; False.elim q
/-- a def of data, promised where no repr is under way -/
theorem fn_okG {x qual : Str} {params : Arguments} {body : List Stmt} {scope : Scope} {f : Addr} {fd : FuncData} {N ps : List Str} {S : SD} {t : XK → TS}
    (Fd : FunD K x qual params body scope [] [] f fd) (Sc : FnScope N ps scope) (hlen : ∀ ds M Q X, S ds M Q X → ds.length = ps.length)
    (hder : ∀ (cdv : Value) (A : Around) (outer : List Env) (s : Shared) (H : Hp) (E : XK), Room k (A.deeper (envOfC qual scope s.heap.objs.size f cdv)) → (A.deeper (envOfC qual scope s.heap.objs.size f cdv)).guards = some [] → PSs (cxOf (L2.CX P w) P w K mg base N qual scope f cdv A outer s H E) body (t E))
    (hrd : ∀ (E : XK) (ds : List Dt) (M : Mem) (QD : Dt → Mem → Prop) (XD : Addr → List (Str × Dt) → Mem → Prop), S ds M QD XD → RnD ⟨K, E, XD⟩ (t E) (startG N ds) M { nx := fun _ M' => QD .non M', rt := QD }) : FnOkG P w K mg base (k + 1) f fd ps (toSp K S) := by
  refine fn_ofG Fd Sc (fun vs H Q E h => ?_) fun cdv A outer s H vs Q E hr hgd h => ⟨t E, hder cdv A outer s H E hr hgd, ?_⟩
  · obtain ⟨F, W, M, ds, QD, XD, s, dv, q, _⟩ := h
    rw [dv.len]
    exact hlen ds M QD XD q
  · obtain ⟨F, W, M, ds, QD, XD, st, dv, q, k1, k2⟩ := h
    exact hrd E ds M QD XD q F W H _ _ ⟨start_ok dv, k2⟩ st ⟨fun Γ' M' σ' W' H' q e g s => k1 _ _ _ _ _ q e s .non, fun d M' v W' H' q e s d' => k1 _ _ _ _ _ q e s d', fun _ _ _ _ _ z => False.elim z, fun _ _ _ _ _ z => False.elim z⟩
structure FnG (P : Program) (w : World) (K : PySem.W.Frag) (mg : Str → Option Value) (base : Heap) (k : Nat) (x : Str) (S : SD) : Prop where
  ex : ∃ (f : Addr) (fd : FuncData) (ps : List Str), FnOkG P w K mg base k f fd ps (toSp K S) ∧ mg x = some (.ref f) ∧ PySem.W.keepIn K (.ref f) = true ∧ Binds K fd ps []
end
section
variable {X : Cx} {k j : Nat} {x m : Str} {S : SD} {p pos apos : Pos} {e o : Expr} {es : List Expr} {t : TA} {ta : TE} {C : Addr}
theorem pe_fnG (c : FnG X.prog X.w X.K X.mg X.base k x S) (hr : Room j X.A) (hk : k ≤ j) (hgd : X.A.guards = some []) (hg : Gl X x) (ha : PA X (e :: es) t)
    (hdb : (x == ("__debug__" : Str)) = false := by decide) (he : starEach (e :: es) X.env = (false, eval e X.env) :: starEach es X.env := by rfl) (hpl : (backTo pos (starEach es X.env)).any (·.1) = false := by rfl) :
    PE X (.Call (.Name x p) (e :: es) [] pos) (tCall (toSp X.K S) [] E0 t) := by
  obtain ⟨f, fd, ps, F1, hm, kp, b⟩ := c.ex
  refine ⟨fun pins s σ H Q I h => wpAny_Call_Name_kw (ld_glob I hg hm (PySem.W.callWith_K (h₀ := X.base) I.ok.mod.kin kp (thn (ha.run pos pins s σ H _ I h) fun us s1 hs1 => ?_) he hpl) hdb)⟩
  obtain ⟨vs, H1, I1, r, q⟩ := hs1
  have l1 : us.length = ps.length := by
    rw [← r.length, ← F1.len _ _ _ _ q, List.append_nil]
  have bd := b s1 us I1.kIn (by rw [List.append_nil]; exact l1)
  rw [List.append_nil] at bd q
  refine ⟨I1.kIn, wpAny_call (codeAny_mono (F1.run X.A X.stack s1 H1 ⟨us, []⟩ us vs Q E0 (hr.mono hk) hgd I1.env0 bd r q) fun res s' hq => ?_)⟩
  cases res with
  | error er => exact (passL (X := X) pins σ H1 s1 er s' I1 hq)
  | ok fl =>
    cases fl with
    | ret u => exact I1.after hq
    | next => exact False.elim hq
    | brk => exact False.elim hq
    | cont => exact False.elim hq
/-! ### classes -/
structure MkB (P : Program) (w : World) (K : PySem.W.Frag) (mg : Str → Option Value) (base : Heap) (k : Nat) (x : Str) (S : SD) : Prop where
  ex : ∃ (f : Addr) (fd : FuncData) (ps : List Str), Mk K (He.ga K x) f ∧ FnOk P w K mg base (L2.CX P w) k f fd ps (toSp K S) ∧ mg x = some (.ref (He.ga K x)) ∧ Binds K fd ps []
theorem pe_mkD (c : MkB X.prog X.w X.K X.mg X.base k x S) (hr : Room j X.A) (hk : k + 1 ≤ j) (hg : Gl X x) (ha : PA X (e :: es) t)
    (hdb : (x == ("__debug__" : Str)) = false := by decide) (he : starEach (e :: es) X.env = (false, eval e X.env) :: starEach es X.env := by rfl) (hpl : (backTo pos (starEach es X.env)).any (·.1) = false := by rfl) :
    PE X (.Call (.Name x p) (e :: es) [] pos) (tMake (He.ga X.K x) (toSp X.K S) [] E0 t) := by
  obtain ⟨f, fd, ps, M1, F1, hm, b⟩ := c.ex
  exact pe_make M1 F1 (hr.mono hk) hg hm b .nil passL ha hdb he hpl
structure MtB (P : Program) (w : World) (K : PySem.W.Frag) (mg : Str → Option Value) (base : Heap) (k : Nat) (C m : Str) (S : SD) : Prop where
  ex : ∃ (f : Addr) (fd : FuncData) (ps : List Str), Cls K (He.ga K C) ∧ Meth K (He.ga K C) m f ∧ FnOk P w K mg base (L2.CX P w) k f fd ps (toSp K S) ∧ Binds K fd ps []
theorem pe_mthD {C : Str} {pl : Sem Bool} (c : MtB X.prog X.w X.K X.mg X.base k C m S) (hr : Room j X.A) (hk : k ≤ j) (he : PE X o ta) (ha : PA X (e :: es) t)
    (h1 : starEach (e :: es) X.env = (false, eval e X.env) :: starEach es X.env := by rfl) (h2 : (backTo pos (starEach es X.env)).any (·.1) = false := by rfl)
    (h3 : eval (.Call (.Attribute o m apos) (e :: es) [] pos) X.env = (do let ov ← eval o X.env; standAt apos.atName; let (f, first) ← holding [ov] (getMethod ov m pl); callWith pos f first (backTo pos (starEach (e :: es) X.env)) (backToKw pos (keywordEach [] X.env))) := by rfl) :
    PE X (.Call (.Attribute o m apos) (e :: es) [] pos) (tMeth (He.ga X.K C) m (toSp X.K S) [] E0 ta t) := by
  obtain ⟨f, fd, ps, hc, hm, F1, b⟩ := c.ex
  exact pe_meth (pl := pl) he hc hm F1 (hr.mono hk) b .nil passL ha h1 h2 h3
theorem pe_mthD0 {C : Str} {pl : Sem Bool} (c : MtB X.prog X.w X.K X.mg X.base k C m S) (hr : Room j X.A) (hk : k ≤ j) (he : PE X o ta)
    (h3 : eval (.Call (.Attribute o m apos) [] [] pos) X.env = (do let ov ← eval o X.env; standAt apos.atName; let (f, first) ← holding [ov] (getMethod ov m pl); callWith pos f first (backTo pos (starEach [] X.env)) (backToKw pos (keywordEach [] X.env))) := by rfl) :
    PE X (.Call (.Attribute o m apos) [] [] pos) (tMeth (He.ga X.K C) m (toSp X.K S) [] E0 ta tNil) := by
  obtain ⟨f, fd, ps, hc, hm, F1, b⟩ := c.ex
  exact pe_meth0 (pl := pl) he hc hm F1 (hr.mono hk) b .nil passL h3
end
end Lw
end

section
set_option Elab.async false
set_option linter.all false
set_option maxRecDepth 100000
set_option maxHeartbeats 4000000
namespace Lw
open PySem PySem.Spec PyProof.Rows L2 Evl

/-! ### dicts that are known from here on -/
/-- H2 is H1, but the dicts at these places are known to the object -/
inductive Frzd : Hp → Hp → List Addr → Prop
  | nil {H : Hp} : Frzd H H []
  | k {H H2 : Hp} {a : Addr} {r : List Addr} {kvs : List (Key × V)} (o : Obj) (e : H a = some (.dK kvs)) (t : Frzd (upd H a (.frz o (.dK kvs))) H2 r) : Frzd H H2 (a :: r)
  | t {H H2 : Hp} {a : Addr} {r : List Addr} {kvs : List (List Key × V)} (o : Obj) (e : H a = some (.dT kvs)) (t : Frzd (upd H a (.frz o (.dT kvs))) H2 r) : Frzd H H2 (a :: r)
def IsDct (u : HO) : Prop := (∃ kvs, u = .dK kvs) ∨ ∃ kvs, u = .dT kvs
section
variable {X : Cx} {pins : List (Addr × Obj)} {σ : L2.St} {H : Hp} {s : Shared} {a : Addr}
theorem Inv.frz1 {u : HO} (I : Inv X pins σ H s) (e : H a = some u) (hu : IsDct u) : ∃ o, Inv X pins σ (upd H a (.frz o u)) s := by
  have ok := I.hok a u e
  have ho : ∃ o, s.heap.get? a = some o := by
    rcases hu with ⟨kvs, rfl⟩ | ⟨kvs, rfl⟩
    · obtain ⟨_, _, _, _, o, _, _, h, _⟩ := ok
      exact ⟨o, h⟩
    · obtain ⟨_, _, _, _, o, _, _, h, _⟩ := ok
      exact ⟨o, h⟩
  obtain ⟨o, ho⟩ := ho
  have nt : ∀ b xs, H b = some (.tup xs) → b ≠ a := fun b xs q z => by
    rw [z, e] at q
    rcases hu with ⟨_, z⟩ | ⟨_, z⟩ <;> (rw [z] at q; cases q)
  have no : ∀ b x, H b = some (.own x) → b ≠ a := fun b x q z => by
    rw [z, e] at q
    rcases hu with ⟨_, z⟩ | ⟨_, z⟩ <;> (rw [z] at q; cases q)
  have nf : ∀ b o' u', H b = some (.frz o' u') → b ≠ a := fun b o' u' q z => by
    rw [z, e] at q
    rcases hu with ⟨_, z⟩ | ⟨_, z⟩ <;> (rw [z] at q; cases q)
  have nb : ∀ b ps, H b = some (.tbl ps) → b ≠ a := fun b ps q z => by
    rw [z, e] at q
    rcases hu with ⟨_, z⟩ | ⟨_, z⟩ <;> (rw [z] at q; cases q)
  refine ⟨o, ?_⟩
  have st := I.step (H' := upd H a (.frz o u)) (h' := s.heap) (g' := s.gens) (t' := s.toks) (d' := s.drawn) (ch := []) (fun _ z => nomatch z) (fun b o _ _ _ q _ => q) (fun b o _ _ _ q _ => ⟨o.slots, q⟩)
    (fun b o _ _ q => by rw [upd_ne (fun z => by rw [z, e] at q; cases q)]; exact q) (fun b o _ q => ⟨o, q⟩)
    (fun b xs q => by rw [upd_ne (nt b xs q)]; exact q) (fun b o' u' q => by rw [upd_ne (nf b o' u' q)]; exact q) (fun b ps q => ⟨#[], by rw [upd_ne (nb b ps q), q]; simp⟩) (fun m q => q) (fun b v hb => ?_) I.bare
  · exact st
  · have stay : ∀ v, ObjOk X.prog X.w H s.heap b v → ObjOk X.prog X.w (upd H a (.frz o u)) s.heap b v := fun v q => q.stay (fun c w _ r => r) (fun c r => by rw [upd_ne (no c b r)]; exact r) fun c xs r => by rw [upd_ne (nt c xs r)]; exact r
    by_cases hba : b = a
    · subst hba
      rw [upd_same] at hb
      cases hb
      exact ⟨ho, stay u ok⟩
    · rw [upd_ne hba] at hb
      exact stay v (I.hok b v hb)
theorem Inv.frzs (as : List Addr) : ∀ {H : Hp}, Inv X pins σ H s → as.Nodup → (∀ a ∈ as, ∃ u, H a = some u ∧ IsDct u) → ∃ H2, Frzd H H2 as ∧ Inv X pins σ H2 s := by
  induction as with
  | nil => exact fun I _ _ => ⟨_, .nil, I⟩
  | cons a r ih =>
    intro H I nd h
    obtain ⟨u, e, hu⟩ := h a List.mem_cons_self
    obtain ⟨o, I2⟩ := Inv.frz1 I e hu
    obtain ⟨n1, n2⟩ := List.nodup_cons.mp nd
    obtain ⟨H2, f, I3⟩ := ih I2 n2 fun b hb => by
      obtain ⟨v, e2, hv⟩ := h b (List.mem_cons_of_mem _ hb)
      have hne : b ≠ a := fun z => n1 (by rw [← z]; exact hb)
      exact ⟨v, by rw [upd_ne hne]; exact e2, hv⟩
    rcases hu with ⟨kvs, rfl⟩ | ⟨kvs, rfl⟩
    · exact ⟨H2, .k o e f, I3⟩
    · exact ⟨H2, .t o e f, I3⟩
/-- some dicts are known from here on -/
def tFrz (t : TE) : TE := fun σ H Q => t σ H fun v H1 => ∃ as : List Addr, as.Nodup ∧ (∀ a ∈ as, ∃ u, H1 a = some u ∧ IsDct u) ∧ ∀ H2, Frzd H1 H2 as → Q v H2
theorem pe_frz {e : Expr} {t : TE} (h : PE X e t) : PE X e (tFrz t) := ⟨fun pins s σ H Q I q => thn (h.run pins s σ H _ I q) fun u s1 ⟨v, H1, I1, r, as, nd, ha, k⟩ => by
  obtain ⟨H2, f, I2⟩ := Inv.frzs as I1 nd ha
  exact ⟨v, H2, I2, r, k H2 f⟩⟩
/-! ### setdefault of a dict of tuples -/
theorem d_setdT {kvs : List (List Key × V)} {k : List Key} {b : Addr} {d : V} {r : Value} {A : Around} {E : Value → Shared → Prop} {Q : Value → Shared → Prop} (hu : A.units + 1 < cLine) (I : Inv X pins σ H s) (e : H a = some (.dT kvs)) (eb : H b = some (.tup (k.map kV))) (rd : RelV d r) (hl : kvs.length < sizeLine)
    (h1 : ∀ v, valV kvs k = some v → ∀ (w' : Value) (s' : Shared), Inv X pins σ H s' → RelV v w' → Q w' s') (h2 : valV kvs k = none → ∀ (w' : Value) (s' : Shared), Inv X pins σ (upd H a (.dT (putK kvs k d))) s' → RelV d w' → Q w' s') :
    wpAny (model X.prog X.w) A (call (.builtin "dict.setdefault") [.ref a, .ref b, r]) Q E s := by
  obtain ⟨z, hd, xs, rel, dd⟩ := dt_of I.hok e
  have hz : xs.length ≤ sizeLine := by
    rw [← Paired.length rel]
    exact z
  refine call_setdefault_heap (hsz := hz) (tupleKind_room_in1 hu) (key_of I.hok eb) hd dd (fun q hq => ?_) fun hn h' dd' hs => ?_
  · have qv := rel.val k
    rw [hq] at qv
    cases q0 : valV kvs k with
    | none =>
      rw [q0] at qv
      exact (show False from qv).elim
    | some v0 =>
      rw [q0] at qv
      exact h1 v0 q0 _ _ (I.tok _) qv
  · have qv := rel.val k
    rw [hn] at qv
    cases q0 : valV kvs k with
    | some v0 =>
      rw [q0] at qv
      exact (show False from qv).elim
    | none =>
      have hl2 : (putK kvs k d).length ≤ sizeLine := by
        have := length_putK kvs k d
        omega
      obtain ⟨q, es, ep, hq, g2, g3, g4, _, g5⟩ := dd'
      refine h2 q0 _ _ (d_write I (by rw [e]; exact True.intro) hs ⟨q, hq⟩ ⟨hl2, hd, _, (rel.put k eb rd).keeps fun c ys ec => ?_, q, es, ep, hq, g2, g3, g4, g5⟩) rd
      rw [upd_ne (ne_of ec e (fun z => nomatch z))]
      exact ec
def tDSetdT (td ty tx : TE) : TE := fun σ H Q => td σ H fun x H1 => ∃ a, x = .ref a ∧ IsD H1 a ∧ ty σ H1 fun y H2 => tx σ H2 fun z H3 => ∃ (kvs : List (List Key × V)) (k : List Key) (b : Addr), H3 a = some (.dT kvs) ∧ y = .ref b ∧ H3 b = some (.tup (k.map kV)) ∧ kvs.length < sizeLine ∧
  (∀ v, valV kvs k = some v → Q v H3) ∧ (valV kvs k = none → Q z (upd H3 a (.dT (putK kvs k z))))
theorem pe_dsetdT {o e f : Expr} {td ty tx : TE} {apos cpos : Pos} (hu : X.A.units + 1 < cLine) (ho : PE X o td) (he : PE X e ty) (hf : PE X f tx) (m : M2 X o "setdefault" apos e f cpos) : PE X (.Call (.Attribute o "setdefault" apos) [e, f] [] cpos) (tDSetdT td ty tx) := by
  refine ⟨fun pins s σ H Q I h => wpAny_Call_method m.base m.few m.line PySem.F.plainAttrs_dict PySem.F.slot_dict_setdefault PySem.F.type_dict_setdefault (thn (ho.run pins s σ H _ I h) fun u s1 hx => ?_)⟩
  obtain ⟨x, H1, I1, rx, a, ex, d, q1⟩ := hx
  subst ex
  obtain rfl : u = Value.ref a := rx
  obtain ⟨t1, t2, _⟩ := isD_at I1 d
  refine ⟨t1, t2, ?_⟩
  rw [m.trees]
  refine Calls.callWith_builtin rfl (Calls.evalArgs_plain (Calls.spliced_cons (thn (he.run pins s1 σ H1 _ I1 q1) fun iv s2 hy => ?_)))
  obtain ⟨y, H2, I2, ry, q2⟩ := hy
  refine Calls.spliced_cons (thn (hf.run pins s2 σ H2 _ I2 q2) fun fv s3 hz => Calls.spliced_nil ?_)
  obtain ⟨z, H3, I3, rz, kvs, k, b, ea, ey, eb, hl, q3, q4⟩ := hz
  subst ey
  obtain rfl : iv = Value.ref b := ry
  exact d_setdT hu I3 ea eb rz hl (fun v hv w' s4 I4 rw' => ⟨v, _, I4, rw', q3 v hv⟩) fun hn w' s4 I4 rw' => ⟨z, _, I4, rw', q4 hn⟩
/-! ### repr -/
def rReprA (K : PySem.W.Frag) : List V → Hp → VK → Prop := fun xs H Q => ∃ x d, xs = [x] ∧ Dp K H x d ∧ d.showable = true ∧ d.hasDict = false ∧ d.depth ≤ 50 ∧ d.shown.length ≤ sizeLine ∧ d ≠ .none ∧ (∀ b, d ≠ .bool b) ∧ Q (.str d.shown) H
theorem call_reprA (hg : X.A.guards = some []) (hu : X.A.units + 65 < cLine) : CallR X (.builtin "repr") (rReprA X.K) := by
  intro pins s σ H xs us Q I r h
  obtain ⟨x, d, rfl, hd, h1, h2, h3, h4, n1, n2, q⟩ := h
  obtain ⟨u, rfl, ru⟩ := vals1 r
  obtain ⟨as, rd⟩ := Dp.reads I d x u hd ru
  cases hd with
  | non => exact absurd rfl n1
  | bl b => exact absurd rfl (n2 b)
  | int i =>
    obtain ⟨t, rfl⟩ := ru
    exact PySem.P.repr_of_int (of_decide_eq_true h1) ⟨.str _, H, I.tok _, ⟨_, rfl⟩, q⟩
  | str y =>
    obtain ⟨t, rfl⟩ := ru
    exact PySem.P.repr_of_str ⟨.str _, H, I.tok _, ⟨_, rfl⟩, q⟩ h4
  | lst h a =>
    cases ru
    exact repr_of_reads' rd h1 (PyData.noDict_hsm h2) hg (by omega) (fun _ _ e => e) (fun h' u tk kp => ⟨.str _, H, I.kept kp, ⟨_, rfl⟩, q⟩) h4
  | tup h a =>
    cases ru
    exact repr_of_reads' rd h1 (PyData.noDict_hsm h2) hg (by omega) (fun _ _ e => e) (fun h' u tk kp => ⟨.str _, H, I.kept kp, ⟨_, rfl⟩, q⟩) h4
/-! ### sorted -/
def rSortedA (K : PySem.W.Frag) : List V → Hp → VK → Prop := fun xs H Q => ∃ (a : Addr) (bs : List (V × Dt)), xs = [.ref a] ∧ SqL K H a (bs.map (·.1)) ∧ (∀ b ∈ bs, Dp K H b.1 b.2.py ∧ b.2.py.depth ≤ 50) ∧ PySem.W.AllAlike (bs.map fun b => b.2.py) ∧ PySem.W.Sortable (bs.map fun b => b.2.py) ∧
  bs.length ≤ sizeLine ∧ ∀ p, H p = none → Q (.ref p) (upd H p (.lst ((bs.mergeSort (PySem.W.dataLe false fun b => b.2.py)).map (·.1))))
/-! ### o[i] = v, whatever o is -/
def rSetA : TSet := fun o i v H Q => rSetL o i v H Q ∨ rSetD o i v H Q
theorem set_A (hu : X.A.units + 1 < cLine) : PSet X rSetA := fun pins s σ H o i v ov iv u Q I ro ri rv h => by
  rcases h with h | h
  · exact set_list pins s σ H o i v ov iv u Q I ro ri rv h
  · exact set_dict hu pins s σ H o i v ov iv u Q I ro ri rv h
theorem vals_each : ∀ {bs : List (V × Dt)} {us : List Value}, Vals (bs.map (·.1)) us → PySem.W.EachIs (fun (u : Value) (b : V × Dt) => RelV b.1 u) us bs
  | [], [], _ => .nil
  | [], _ :: _, r => by cases r
  | b :: bs, us, r => by
    cases r with
    | cons h t => exact .cons h (vals_each t)
theorem each_vals : ∀ {bs : List (V × Dt)} {us : List Value}, PySem.W.EachIs (fun (u : Value) (b : V × Dt) => RelV b.1 u) us bs → Vals (bs.map (·.1)) us
  | _, _, .nil => .nil
  | _, _, .cons h t => .cons h (each_vals t)
theorem each_and {α β : Type} {R R' : α → β → Prop} : ∀ {as : List α} {bs : List β}, PySem.W.EachIs R as bs → (∀ a b, b ∈ bs → R a b → R' a b) → PySem.W.EachIs R' as bs
  | _, _, .nil, _ => .nil
  | _, _, .cons h t, k => .cons (k _ _ List.mem_cons_self h) (each_and t fun a b hb => k a b (List.mem_cons_of_mem _ hb))
theorem call_sortedA (hu : X.A.units + 65 < cLine) : CallR X (.builtin "sorted") (rSortedA X.K) := by
  intro pins s σ H xs us Q I r h
  obtain ⟨a, bs, rfl, hs, hd, al, so, hl, q⟩ := h
  obtain ⟨u, rfl, ru⟩ := vals1 r
  obtain rfl : u = Value.ref a := ru
  obtain ⟨its, rv, pl, hz⟩ := I.list hs
  refine PySem.W.sorted_data (R := fun u (b : V × Dt) => RelV b.1 u) (enc := fun b : V × Dt => b.2.py) pl.isList (vals_each rv) (each_and (vals_each rv) fun u b hb ru => Dp.reads I _ _ u (hd b hb).1 ru) al so hl (fun b hb => ?_) fun out ho eo => ?_
  · have := (hd b hb).2
    show _ + 2 + b.2.py.depth < _
    omega
  · obtain ⟨e, he⟩ := sortedAll_at s.heap its out.toArray
    refine ⟨.ref (s.heap.objs.size + 1), _, I.laid (a := s.heap.objs.size + 1) (t' := s.toks) (fun _ _ => sortedAll_old) (Nat.le_succ _) (o := .lst ((bs.mergeSort (PySem.W.dataLe false fun b => b.2.py)).map (·.1))) ⟨?_, out, e, each_vals eo, he⟩, rfl, q _ (I.hok.fresh (Nat.le_succ _))⟩
    rw [List.length_map, List.length_mergeSort]
    exact hl
end
end Lw
end

section
set_option Elab.async false
set_option linter.all false
set_option maxRecDepth 100000
set_option maxHeartbeats 4000000
namespace Lw
open PySem PySem.Spec PyProof.Rows L2 Evl

/-! ### zip of two things, each by what its own iterator does -/
section
variable {prog : Program} {w : World} {A : Around} {E : Value → Shared → Prop} {s : Shared}
/-- the iterator at i over l: at st it hands out x and is at st' -/
structure Gives (prog : Program) (w : World) (i l : Addr) (st st' : Heap → Prop) (x : Value) : Prop where
  step : ∀ {A : Around} {E : Value → Shared → Prop} {s : Shared} {Q : Value → Shared → Prop}, st s.heap → (∀ h', st' h' → Heap.SameBut i s.heap h' → Q x { s with heap := h' }) → wpAny (model prog w) A (Builtin.SmallTypes.nextOf (.ref i)) Q E s
  k0 : ∀ {g g' : Heap} {c : Addr}, st g → Heap.ExtBut c g g' → i ≠ c → l ≠ c → st g'
  k1 : ∀ {g g' : Heap} {c : Addr}, st' g → Heap.ExtBut c g g' → i ≠ c → st' g'
/-- .. at st it has ended -/
structure Stops (prog : Program) (w : World) (i l : Addr) (st : Heap → Prop) : Prop where
  step : ∀ {A : Around} {E : Value → Shared → Prop} {s : Shared} {Q : Value → Shared → Prop}, A.handled = none → st s.heap → (∀ h' e, Heap.ExtBut i s.heap h' → (∃ o, h'.get? e = some o ∧ o.cls = .type "StopIteration") → E (.ref e) { s with heap := h' }) →
    wpAny (model prog w) A (Builtin.SmallTypes.nextOf (.ref i)) Q E s
  k0 : ∀ {g g' : Heap} {c : Addr}, st g → Heap.ExtBut c g g' → i ≠ c → l ≠ c → st g'
theorem gives_list {i l : Addr} {n : Nat} {xs : Array Value} {x : Value} (hx : xs[n]? = some x) : Gives prog w i l (fun g => g.IsListIter i l n ∧ g.IsList l xs) (fun g => g.IsListIter i l (n + 1)) x :=
  ⟨fun h k => wpAny_nextOf_list_item h.1 h.2 hx k, fun h e a b => ⟨h.1.extBut e a, h.2.extBut e b⟩, fun h e a => h.extBut e a⟩
theorem gives_tup {i l : Addr} {n : Nat} {xs : Array Value} {x : Value} (hx : xs[n]? = some x) : Gives prog w i l (fun g => g.IsTupleIter i l n ∧ g.IsTuple l xs) (fun g => g.IsTupleIter i l (n + 1)) x :=
  ⟨fun h k => RZ.nextOf_tuple_item h.1 h.2 hx k, fun h e a b => ⟨h.1.extBut e a, h.2.extBut e b⟩, fun h e a => h.extBut e a⟩
theorem stops_list {i l : Addr} {n : Nat} {xs : Array Value} (hx : xs[n]? = none) : Stops prog w i l (fun g => g.IsListIter i l n ∧ g.IsList l xs) :=
  ⟨fun hh h k => wpAny_nextOf_list_end hh h.1 h.2 hx k, fun h e a b => ⟨h.1.extBut e a, h.2.extBut e b⟩⟩
theorem stops_tup {i l : Addr} {n : Nat} {xs : Array Value} (hx : xs[n]? = none) : Stops prog w i l (fun g => g.IsTupleIter i l n ∧ g.IsTuple l xs) :=
  ⟨fun hh h k => RZ.nextOf_tuple_end hh h.1 h.2 hx k, fun h e a b => ⟨h.1.extBut e a, h.2.extBut e b⟩⟩
variable {z TI TO i1 i2 l1 l2 : Addr} {u1 u2 v1 v2 : Heap → Prop} {x y a b : Value}
theorem zipG_item {Q : Value → Shared → Prop} (ap : ZipApart z TI TO i1 i2 l1 l2) (zi : IsZip s.heap z TI TO .none) (pI : IsPair s.heap TI (.ref i1) (.ref i2)) (pO : IsPair s.heap TO a b)
    (g1 : Gives prog w i1 l1 u1 v1 x) (g2 : Gives prog w i2 l2 u2 v2 y) (s1 : u1 s.heap) (s2 : u2 s.heap)
    (k : ∀ h', IsZip h' z TI TO (rawInt s.heap.objs.size) → IsPair h' TO x y → (∃ g, v1 g ∧ ∀ o, g.get? i1 = some o → h'.get? i1 = some o) → (∃ g, v2 g ∧ ∀ o, g.get? i2 = some o → h'.get? i2 = some o) → IsPair h' s.heap.objs.size x y → h'.objs.size = s.heap.objs.size + 1 →
      (∀ c o, c ≠ z → c ≠ TO → c ≠ i1 → c ≠ i2 → s.heap.get? c = some o → h'.get? c = some o) → Q (.ref s.heap.objs.size) { s with heap := h' }) :
    wpAny (model prog w) A (Builtin.«zip.__next__» ⟨[.ref z], []⟩) (fun fin s' => ∃ v, fin = .done (.ret v) ∧ Q v s') E s := by
  change wpAny _ _ (field (.ref z) 2 >>= _) _ _ _
  refine wpAny_bind (wpAny_field zi rfl (x := .bool false) rfl ?_)
  change wpAny _ _ (field (.ref z) 3 >>= _) _ _ _
  refine wpAny_bind (wpAny_field zi rfl (x := .ref TI) rfl (wpAny_bind (wpAny_seqItems pI rfl ?_)))
  change wpAny _ _ (Builtin.SmallTypes.ownedTupleIsFree (.ref z) >>= _) _ _ _
  unfold Builtin.SmallTypes.ownedTupleIsFree
  refine wpAny_bind (wpAny_bind (wpAny_field zi rfl (x := .none) rfl (wpAny_pure ?_)))
  simp only [if_true]
  refine wpAny_bind (wpAny_rule (wpAny_bind (wpAny_field zi rfl (x := .ref TO) rfl (wpAny_bind (wpAny_setField_rec zi (by simp) fun ha za sa => ?_)))))
  replace za : IsZip ha z TI TO .ellipsis := za
  simp only [List.forIn_cons, List.forIn_nil, List.zipIdx_cons, List.zipIdx_nil]
  refine wpAny_bind (wpAny_bind (wpAny_bind (wpAny_onRaise ?_)))
  change wpAny _ _ (Builtin.SmallTypes.nextOf (.ref i1) >>= _) _ _ _
  refine wpAny_bind (g1.step (g1.k0 s1 sa.extBut ap.i1z ap.l1z) fun hb vb sb => wpAny_pure ?_)
  have pOb : IsPair hb TO a b := sb.extBut _ _ ap.TOi1 (sa.extBut _ _ ap.TOz pO)
  refine wpAny_bind (wpAny_seqItems pOb rfl (wpAny_bind (wpAny_updateSeq_pair pOb fun hc pOc sc => ?_)))
  replace pOc : IsPair hc TO x b := pOc
  refine wpAny_bind (wpAny_letGo (wpAny_pure (wpAny_bind (wpAny_bind (wpAny_onRaise ?_)))))
  change wpAny _ _ (Builtin.SmallTypes.nextOf (.ref i2) >>= _) _ _ _
  refine wpAny_bind (g2.step (g2.k0 (g2.k0 (g2.k0 s2 sa.extBut ap.i2z ap.l2z) sb.extBut ap.i12.symm ap.l2i1) sc.extBut ap.TOi2.symm ap.l2TO) fun hd vd sd => wpAny_pure ?_)
  have pOd : IsPair hd TO x b := sd.extBut _ _ ap.TOi2 pOc
  refine wpAny_bind (wpAny_seqItems pOd rfl (wpAny_bind (wpAny_updateSeq_pair pOd fun he pOe se => ?_)))
  replace pOe : IsPair he TO x y := pOe
  refine wpAny_bind (wpAny_letGo (wpAny_pure (wpAny_pure (wpAny_bind (wpAny_seqItems pOe rfl (wpAny_bind (wpAny_newTuple ?_)))))))
  have size : he.objs.size = s.heap.objs.size := by rw [se.1, sd.1, sc.1, sb.1, sa.1]
  have ze : IsZip he z TI TO .ellipsis := se.extBut _ _ ap.TOz.symm (sd.extBut _ _ ap.i2z.symm (sc.extBut _ _ ap.TOz.symm (sb.extBut _ _ ap.i1z.symm za)))
  have ke : ∀ c o, c ≠ z → c ≠ TO → c ≠ i1 → c ≠ i2 → s.heap.get? c = some o → he.get? c = some o := fun c o q1 q2 q3 q4 e =>
    se.extBut _ _ q2 (sd.extBut _ _ q4 (sc.extBut _ _ q2 (sb.extBut _ _ q3 (sa.extBut _ _ q1 e))))
  have ve : v1 he := g1.k1 (g1.k1 (g1.k1 vb sc.extBut ap.TOi1.symm) sd.extBut ap.i12) se.extBut ap.TOi1.symm
  have we : v2 he := g2.k1 vd se.extBut ap.TOi2.symm
  have zlt : z < he.objs.size := Heap.lt_size ze
  change wpAny _ _ (Builtin.SmallTypes.ownedTupleHandOut (.ref z) (.ref he.objs.size) >>= _) _ _ _
  unfold Builtin.SmallTypes.ownedTupleHandOut
  have zf : IsZip (he.push { cls := .type "tuple", data := .seq #[x, y] }) z TI TO .ellipsis := Heap.get?_push_of_some _ ze
  refine wpAny_bind (wpAny_bind (wpAny_setField_rec zf (by simp) fun hg zg sg => ?_))
  replace zg : IsZip hg z TI TO (rawInt he.objs.size) := zg
  refine wpAny_setField_rec zg (by simp) fun hh zh sh => ?_
  replace zh : IsZip hh z TI TO (rawInt he.objs.size) := zh
  have up : ∀ c o, c ≠ z → he.get? c = some o → hh.get? c = some o := fun c o q1 e => sh.extBut _ _ q1 (sg.extBut _ _ q1 (Heap.get?_push_of_some _ e))
  have pT : IsPair hh he.objs.size x y := sh.extBut _ _ (Nat.ne_of_gt zlt) (sg.extBut _ _ (Nat.ne_of_gt zlt) (Heap.get?_push_size _ rfl))
  have sz : hh.objs.size = he.objs.size + 1 := by rw [sh.1, sg.1, Heap.size_push]
  rw [size] at zh pT sz
  refine wpAny_pure ⟨_, rfl, ?_⟩
  change Q (.ref he.objs.size) _
  rw [size]
  exact k hh zh (up _ _ ap.TOz pOe) ⟨he, ve, fun o e => up _ o ap.i1z e⟩ ⟨he, we, fun o e => up _ o ap.i2z e⟩ pT sz fun c o q1 q2 q3 q4 e => up c o q1 (ke c o q1 q2 q3 q4 e)
theorem zipG_end {Q : Fin → Shared → Prop} (hh : A.handled = none) (ap : ZipApart z TI TO i1 i2 l1 l2) (zi : IsZip s.heap z TI TO .none) (pI : IsPair s.heap TI (.ref i1) (.ref i2)) (pO : IsPair s.heap TO a b)
    (s1 : u1 s.heap) (s2 : u2 s.heap) (h : Stops prog w i1 l1 u1 ∨ ((∃ x v1, Gives prog w i1 l1 u1 v1 x) ∧ Stops prog w i2 l2 u2))
    (k : ∀ h' e, (∀ c o, c ≠ z → c ≠ TO → c ≠ i1 → c ≠ i2 → s.heap.get? c = some o → h'.get? c = some o) → (∃ o, h'.get? e = some o ∧ o.cls = .type "StopIteration") → E (.ref e) { s with heap := h' }) :
    wpAny (model prog w) A (Builtin.«zip.__next__» ⟨[.ref z], []⟩) Q E s := by
  change wpAny _ _ (field (.ref z) 2 >>= _) _ _ _
  refine wpAny_bind (wpAny_field zi rfl (x := .bool false) rfl ?_)
  change wpAny _ _ (field (.ref z) 3 >>= _) _ _ _
  refine wpAny_bind (wpAny_field zi rfl (x := .ref TI) rfl (wpAny_bind (wpAny_seqItems pI rfl ?_)))
  change wpAny _ _ (Builtin.SmallTypes.ownedTupleIsFree (.ref z) >>= _) _ _ _
  unfold Builtin.SmallTypes.ownedTupleIsFree
  refine wpAny_bind (wpAny_bind (wpAny_field zi rfl (x := .none) rfl (wpAny_pure ?_)))
  simp only [if_true]
  refine wpAny_bind (wpAny_rule (wpAny_bind (wpAny_field zi rfl (x := .ref TO) rfl (wpAny_bind (wpAny_setField_rec zi (by simp) fun ha za sa => ?_)))))
  replace za : IsZip ha z TI TO .ellipsis := za
  simp only [List.forIn_cons, List.forIn_nil, List.zipIdx_cons, List.zipIdx_nil]
  refine wpAny_bind (wpAny_bind (wpAny_bind (wpAny_onRaise ?_)))
  change wpAny _ _ (Builtin.SmallTypes.nextOf (.ref i1) >>= _) _ _ _
  rcases h with t1 | ⟨⟨x, v1, g1⟩, t2⟩
  · refine wpAny_bind (t1.step hh (t1.k0 s1 sa.extBut ap.i1z ap.l1z) fun hb e sb he => ?_)
    obtain ⟨oe, ho, hc⟩ := he
    have zb : IsZip hb z TI TO .ellipsis := sb _ _ ap.i1z.symm za
    have ez : e ≠ z := fun q => by subst q; rw [zb] at ho; cases ho; simp at hc
    refine wpAny_setField_rec zb (by simp) fun hd _ sd => k hd e (fun c o q1 _ q3 _ q => sd.extBut _ _ q1 (sb _ _ q3 (sa.extBut _ _ q1 q))) ⟨oe, sd.extBut _ _ ez ho, hc⟩
  · refine wpAny_bind (g1.step (g1.k0 s1 sa.extBut ap.i1z ap.l1z) fun hb vb sb => wpAny_pure ?_)
    have pOb : IsPair hb TO a b := sb.extBut _ _ ap.TOi1 (sa.extBut _ _ ap.TOz pO)
    refine wpAny_bind (wpAny_seqItems pOb rfl (wpAny_bind (wpAny_updateSeq_pair pOb fun hc pOc sc => ?_)))
    refine wpAny_bind (wpAny_letGo (wpAny_pure (wpAny_bind (wpAny_bind (wpAny_onRaise ?_)))))
    change wpAny _ _ (Builtin.SmallTypes.nextOf (.ref i2) >>= _) _ _ _
    refine wpAny_bind (t2.step hh (t2.k0 (t2.k0 (t2.k0 s2 sa.extBut ap.i2z ap.l2z) sb.extBut ap.i12.symm ap.l2i1) sc.extBut ap.TOi2.symm ap.l2TO) fun hd e sd he => ?_)
    obtain ⟨oe, ho, hcl⟩ := he
    have zd : IsZip hd z TI TO .ellipsis := sd _ _ ap.i2z.symm (sc.extBut _ _ ap.TOz.symm (sb.extBut _ _ ap.i1z.symm za))
    have ez : e ≠ z := fun q => by subst q; rw [zd] at ho; cases ho; simp at hcl
    refine wpAny_setField_rec zd (by simp) fun hf _ sf => k hf e (fun c o q1 q2 q3 q4 q => sf.extBut _ _ q1 (sd _ _ q4 (sc.extBut _ _ q2 (sb.extBut _ _ q3 (sa.extBut _ _ q1 q))))) ⟨oe, sf.extBut _ _ ez ho, hcl⟩
theorem nextG_item {Q : Option Value → Shared → Prop} (ap : ZipApart z TI TO i1 i2 l1 l2) (zi : IsZip s.heap z TI TO .none) (pI : IsPair s.heap TI (.ref i1) (.ref i2)) (pO : IsPair s.heap TO a b)
    (g1 : Gives prog w i1 l1 u1 v1 x) (g2 : Gives prog w i2 l2 u2 v2 y) (s1 : u1 s.heap) (s2 : u2 s.heap)
    (k : ∀ h', IsZip h' z TI TO (rawInt s.heap.objs.size) → IsPair h' TO x y → (∃ g, v1 g ∧ ∀ o, g.get? i1 = some o → h'.get? i1 = some o) → (∃ g, v2 g ∧ ∀ o, g.get? i2 = some o → h'.get? i2 = some o) → IsPair h' s.heap.objs.size x y → h'.objs.size = s.heap.objs.size + 1 →
      (∀ c o, c ≠ z → c ≠ TO → c ≠ i1 → c ≠ i2 → s.heap.get? c = some o → h'.get? c = some o) → Q (some (.ref s.heap.objs.size)) { s with heap := h' }) :
    wpAny (model prog w) A (pyNext (.ref z)) Q E s := by
  have ty : s.TypeIs (.ref z) "zip" := ⟨_, zi, rfl⟩
  unfold pyNext
  refine wpAny_bind (wpAny_attempt (wpAny_callSpecial?_slot (name := Str.ofString "__next__") ty F.slot_zip_next (wpAny_call_entry F.slot_zip_next ty F.entry_zip_next ?_ (F.args_zip_next_1 _))))
  exact zipG_item ap zi pI pO g1 g2 s1 s2 fun h' a1 a2 a3 a4 a5 a6 a7 => wpAny_pure (k h' a1 a2 a3 a4 a5 a6 a7)
theorem nextG_end {Q : Option Value → Shared → Prop} (hh : A.handled = none) (ap : ZipApart z TI TO i1 i2 l1 l2) (zi : IsZip s.heap z TI TO .none) (pI : IsPair s.heap TI (.ref i1) (.ref i2)) (pO : IsPair s.heap TO a b)
    (s1 : u1 s.heap) (s2 : u2 s.heap) (h : Stops prog w i1 l1 u1 ∨ ((∃ x v1, Gives prog w i1 l1 u1 v1 x) ∧ Stops prog w i2 l2 u2))
    (k : ∀ h', (∀ c o, c ≠ z → c ≠ TO → c ≠ i1 → c ≠ i2 → s.heap.get? c = some o → h'.get? c = some o) → Q none { s with heap := h' }) : wpAny (model prog w) A (pyNext (.ref z)) Q E s := by
  have ty : s.TypeIs (.ref z) "zip" := ⟨_, zi, rfl⟩
  unfold pyNext
  refine wpAny_bind (wpAny_attempt (wpAny_callSpecial?_slot (name := Str.ofString "__next__") ty F.slot_zip_next (wpAny_call_entry F.slot_zip_next ty F.entry_zip_next ?_ (F.args_zip_next_1 _))))
  refine zipG_end hh ap zi pI pO s1 s2 h fun h' e hk he => ?_
  obtain ⟨o, ho, hc⟩ := he
  exact wpAny_bind (wpAny_isInstance (T := "StopIteration") (b := true) ⟨o, ho, hc⟩ isSubtype_stop (wpAny_pure (k _ hk)))
end
end Lw
end

section
set_option Elab.async false
set_option linter.all false
set_option maxRecDepth 100000
set_option maxHeartbeats 4000000
namespace Lw
open PySem PySem.Spec PyProof.Rows L2 Evl

/-- zip of a tuple and a list, as they stand at each turn -/
def ItzM (K : PySem.W.Frag) (a b : Addr) : It :=
  ⟨fun i H => ∃ (xs ys : List V) (x y : V), SqT K H a xs ∧ SqL K H b ys ∧ xs[i]? = some x ∧ ys[i]? = some y,
    fun i H v H' => ∃ T x y, v = .ref T ∧ H T = none ∧ H' = upd H T (.tup [x, y]) ∧ (∀ xs, SqT K H a xs → xs[i]? = some x) ∧ ∀ ys, SqL K H b ys → ys[i]? = some y,
    fun i H => ∃ xs ys : List V, SqT K H a xs ∧ SqL K H b ys ∧ (xs.length ≤ i ∨ ys.length ≤ i)⟩
theorem mem5 {z TI TO i1 i2 c : Addr} (h : c ∈ [z, TI, TO, i1, i2]) : c = z ∨ c = TI ∨ c = TO ∨ c = i1 ∨ c = i2 := by simpa using h
theorem turn_zipM {P : Program} {w : World} {K : PySem.W.Frag} {elts : List Expr} {kk : Nat} {tpos : Pos} {a b z TI TO i1 i2 : Addr} (ap : ZipApart z TI TO i1 i2 a b) :
    Turn P w K (.Tuple elts kk tpos) (ItzM K a b) [z, TI, TO, i1, i2] z (fun i g => IsZip g z TI TO .none ∧ IsPair g TI (.ref i1) (.ref i2) ∧ (∃ x y, IsPair g TO x y) ∧ g.IsTupleIter i1 a i ∧ g.IsListIter i2 b i) where
  mem := List.mem_cons_self
  obj := fun i g st c hc => by
    obtain ⟨zi, pI, ⟨x, y, pO⟩, ⟨o1, e1, _, d1⟩, ⟨o2, e2, _, d2⟩⟩ := st
    rcases mem5 hc with q | q | q | q | q <;> rw [q]
    · exact ⟨_, zi, fun v q => nomatch q⟩
    · exact ⟨_, pI, fun v q => nomatch q⟩
    · exact ⟨_, pO, fun v q => nomatch q⟩
    · exact ⟨o1, e1, fun v q => by rw [d1] at q; cases q⟩
    · exact ⟨o2, e2, fun v q => by rw [d2] at q; cases q⟩
  keep := fun i g g' st k => by
    obtain ⟨zi, pI, ⟨x, y, pO⟩, t1, t2⟩ := st
    exact ⟨k z (by simp) _ zi, k TI (by simp) _ pI, ⟨x, y, k TO (by simp) _ pO⟩, t1.at fun o q => k i1 (by simp) o q, t2.at fun o q => k i2 (by simp) o q⟩
  item := by
    intro X hP hw hK hc i pins s σ H E I hf st hg
    subst hP hw hK
    obtain ⟨zi, pI, ⟨x0, y0, pO⟩, t1, t2⟩ := st
    obtain ⟨xs, ys, x, y, qx, qy, hx, hy⟩ := hg
    obtain ⟨its, rv, p, _⟩ := I.tuple qx
    obtain ⟨js, rw', p2, _⟩ := I.list qy
    obtain ⟨u, hu, ru⟩ := rv.get hx
    obtain ⟨u2, hu2, ru2⟩ := rw'.get hy
    have zlt : z < s.heap.objs.size := Heap.lt_size zi
    refine nextG_item ap zi pI pO (gives_tup (xs := its.toArray) (n := i) (x := u) (by simpa using hu)) (gives_list (xs := js.toArray) (n := i) (x := u2) (by simpa using hu2)) ⟨t1, p⟩ ⟨t2, p2.isList⟩ fun h' z' pO' g1 g2 pT size kept => ?_
    obtain ⟨ga, t1', k1⟩ := g1
    obtain ⟨gb, t2', k2⟩ := g2
    refine ⟨_, rfl, wpAny_letOwnedTupleGo_zip (s := { s with heap := h' }) z' fun h'' z'' sb => ?_⟩
    have pT2 : h''.get? s.heap.objs.size = some { cls := .type "tuple", data := .seq #[u, u2] } := (sb.2 _ (Nat.ne_of_gt zlt)).trans pT
    have new : ObjOk X.prog X.w (upd H s.heap.objs.size (.tup [x, y])) h'' s.heap.objs.size (.tup [x, y]) := ⟨by show 2 ≤ sizeLine; decide, [u, u2], .cons ru (.cons ru2 .nil), ⟨_, pT2, rfl, _, rfl⟩⟩
    have I1 : Inv X pins σ (upd H s.heap.objs.size (.tup [x, y])) { s with heap := h'' } := I.turnedNew (t' := s.toks) (ch := [z, TI, TO, i1, i2]) (fun c o hb q => by
      have n1 : c ≠ z := fun e => hb (by simp [e])
      exact (sb.2 c n1).trans (kept c o n1 (fun e => hb (by simp [e])) (fun e => hb (by simp [e])) (fun e => hb (by simp [e])) q)) hf (Nat.le_refl _) new
    refine ⟨.ref s.heap.objs.size, _, I1, rfl, ⟨_, x, y, rfl, I.hok.fresh (Nat.le_refl _), rfl, fun l hl => by rw [I.tuple_inj hl qx]; exact hx, fun l hl => by rw [I.list_inj hl qy]; exact hy⟩, ⟨z'', ?_, ⟨u, u2, ?_⟩, ?_, ?_⟩, fun c hcm => ?_⟩
    · exact (sb.2 _ ap.TIz).trans (kept _ _ ap.TIz ap.TITO ap.TIi1 ap.TIi2 pI)
    · exact (sb.2 _ ap.TOz).trans pO'
    · exact t1'.at fun o q => (sb.2 _ ap.i1z).trans (k1 o q)
    · exact t2'.at fun o q => (sb.2 _ ap.i2z).trans (k2 o q)
    · have hlt : c < s.heap.objs.size := by
        rcases mem5 hcm with q | q | q | q | q <;> rw [q]
        · exact zlt
        · exact Heap.lt_size pI
        · exact Heap.lt_size pO
        · obtain ⟨_, e1, _⟩ := t1
          exact Heap.lt_size e1
        · obtain ⟨_, e1, _⟩ := t2
          exact Heap.lt_size e1
      rw [upd_ne (Nat.ne_of_lt hlt)]
      exact (hf c hcm).1
  done := by
    intro X hP hw hK hc i pins s σ H E I hf st hg
    subst hP hw hK
    obtain ⟨zi, pI, ⟨x0, y0, pO⟩, t1, t2⟩ := st
    obtain ⟨xs, ys, qx, qy, hend⟩ := hg
    obtain ⟨its, rv, p, _⟩ := I.tuple qx
    obtain ⟨js, rw', p2, _⟩ := I.list qy
    have n1 := rv.length
    have n2 := rw'.length
    have he : Stops X.prog X.w i1 a (fun g => g.IsTupleIter i1 a i ∧ g.IsTuple a its.toArray) ∨ ((∃ x v1, Gives X.prog X.w i1 a (fun g => g.IsTupleIter i1 a i ∧ g.IsTuple a its.toArray) v1 x) ∧ Stops X.prog X.w i2 b (fun g => g.IsListIter i2 b i ∧ g.IsList b js.toArray)) := by
      by_cases hi : i < its.length
      · exact .inr ⟨⟨its[i], _, gives_tup (by simpa using List.getElem?_eq_getElem hi)⟩, stops_list (by simp; omega)⟩
      · exact .inl (stops_tup (by simp; omega))
    exact nextG_end (I.ok.hd hc) ap zi pI pO ⟨t1, p⟩ ⟨t2, p2.isList⟩ he fun h' hk => ⟨rfl, I.turnedL (t' := s.toks) (ch := [z, TI, TO, i1, i2]) (fun c o hb q =>
      hk c o (fun e => hb (by simp [e])) (fun e => hb (by simp [e])) (fun e => hb (by simp [e])) (fun e => hb (by simp [e])) q) hf⟩
  self := fun A i s Q E st h => wpAny_pyIter_zip st.1 h
abbrev zmH1 (h : Heap) (l1 : Addr) : Heap := h.push { cls := .type "tuple_iterator", data := .fields #[.ref l1, .int 0 0] }
abbrev zmH2 (h : Heap) (l1 l2 : Addr) : Heap := (zmH1 h l1).push { cls := .type "list_iterator", data := .fields #[.ref l2, .int 0 0] }
abbrev zmH3 (h : Heap) (l1 l2 : Addr) : Heap := (zmH2 h l1 l2).push { cls := .type "tuple", data := .seq #[.ref h.objs.size, .ref (zmH1 h l1).objs.size] }
abbrev zmH4 (h : Heap) (l1 l2 : Addr) : Heap := (zmH3 h l1 l2).push { cls := .type "tuple", data := .seq #[.none, .none] }
abbrev zmH5 (h : Heap) (l1 l2 : Addr) : Heap := (zmH4 h l1 l2).push { cls := .type "zip", data := .fields #[.none, .bool false, .bool false, .ref (zmH2 h l1 l2).objs.size, .ref (zmH3 h l1 l2).objs.size] }
theorem meets_zipM (l1 l2 : Addr) (xs ys : Array Value) :
    Meets (Builtin.«zip.__new__» ⟨[.type "zip", .ref l1, .ref l2], []⟩) (fun _ R s => s.heap.IsTuple l1 xs ∧ s.heap.IsList l2 ys ∧ R (.ok (.ret (.ref (zmH4 s.heap l1 l2).objs.size))) { s with heap := zmH5 s.heap l1 l2 }) :=
  .of_wp fun prog w A R s h => by
    obtain ⟨hp, gg, dd, tk, oo⟩ := s
    obtain ⟨h1, h2, h⟩ := h
    have isub := sub_zip
    have b1 : Heap.IsTuple (Shared.heap ⟨hp, gg, dd, tk, oo⟩) l1 xs := h1
    have b2 : Heap.IsList (Shared.heap ⟨hp.push { cls := .type "tuple_iterator", data := .fields #[.ref l1, .int 0 0] }, gg, dd, tk, oo⟩) l2 ys := Heap.IsList.push h2 _
    wp_walk using wpAny_pyIter_tuple b1, wpAny_pyIter_list b2
    exact ⟨_, rfl, h⟩
theorem call_zipM {prog : Program} {w : World} {A : Around} {E : Value → Shared → Prop} {s : Shared} {l1 l2 : Addr} {xs ys : Array Value} {Q : Value → Shared → Prop} (h1 : s.heap.IsTuple l1 xs) (h2 : s.heap.IsList l2 ys)
    (h : ∀ h', IsZip h' (s.heap.objs.size + 4) (s.heap.objs.size + 2) (s.heap.objs.size + 3) .none → IsPair h' (s.heap.objs.size + 2) (.ref s.heap.objs.size) (.ref (s.heap.objs.size + 1)) →
      IsPair h' (s.heap.objs.size + 3) .none .none → h'.IsTupleIter s.heap.objs.size l1 0 → h'.IsListIter (s.heap.objs.size + 1) l2 0 → (∀ c o, s.heap.get? c = some o → h'.get? c = some o) → Q (.ref (s.heap.objs.size + 4)) { s with heap := h' }) :
    wpAny (model prog w) A (call (.type "zip") [.ref l1, .ref l2]) Q E s := by
  refine callType_new F.called_zip (by decide) (F.typeCall_zip_2 _ _) (F.newCall_zip_2 _ _) (fun obj => F.args_object_init_3 obj _ _) F.entry_zip_new (meets_zipM l1 l2 xs ys) ⟨h1, h2, ?_⟩
  have n1 : (zmH1 s.heap l1).objs.size = s.heap.objs.size + 1 := Heap.size_push ..
  have n2 : (zmH2 s.heap l1 l2).objs.size = s.heap.objs.size + 2 := by rw [Heap.size_push, n1]
  have n3 : (zmH3 s.heap l1 l2).objs.size = s.heap.objs.size + 3 := by rw [Heap.size_push, n2]
  have n4 : (zmH4 s.heap l1 l2).objs.size = s.heap.objs.size + 4 := by rw [Heap.size_push, n3]
  have e5 : (zmH5 s.heap l1 l2).get? (zmH4 s.heap l1 l2).objs.size = some _ := Heap.get?_push_size _ rfl
  have e4 : (zmH5 s.heap l1 l2).get? (zmH3 s.heap l1 l2).objs.size = some _ := Heap.get?_push_of_some _ (Heap.get?_push_size _ rfl)
  have e3 : (zmH5 s.heap l1 l2).get? (zmH2 s.heap l1 l2).objs.size = some _ := Heap.get?_push_of_some _ (Heap.get?_push_of_some _ (Heap.get?_push_size _ rfl))
  have e2 : (zmH5 s.heap l1 l2).get? (zmH1 s.heap l1).objs.size = some _ := Heap.get?_push_of_some _ (Heap.get?_push_of_some _ (Heap.get?_push_of_some _ (Heap.get?_push_size _ rfl)))
  have e1 : (zmH5 s.heap l1 l2).get? s.heap.objs.size = some _ := Heap.get?_push_of_some _ (Heap.get?_push_of_some _ (Heap.get?_push_of_some _ (Heap.get?_push_of_some _ (Heap.get?_push_size _ rfl))))
  change _ ∧ _
  rw [n2, n3, n4] at e5
  rw [n1, n2] at e3
  rw [n3] at e4
  rw [n1] at e2
  rw [n4]
  exact ⟨⟨_, e5, rfl⟩, h _ e5 e3 e4 ⟨_, e1, rfl, rfl⟩ ⟨_, e2, rfl, rfl⟩ fun c o x => Heap.get?_push_of_some _ (Heap.get?_push_of_some _ (Heap.get?_push_of_some _ (Heap.get?_push_of_some _ (Heap.get?_push_of_some _ x))))⟩
/-- zip(a tuple, a list) -/
def iZipX (K : PySem.W.Frag) (ta : TA) : TI := fun σ H R => ta σ H fun vs H1 => ∃ a b xs ys, vs = [.ref a, .ref b] ∧ SqT K H1 a xs ∧ SqL K H1 b ys ∧ R (ItzM K a b) H1
theorem pi_zipX {X : Cx} {e e2 : Expr} {ta : TA} {p pos tpos : Pos} {elts : List Expr} {kk : Nat} (hg : Gl X "zip") (hm : X.mg "zip" = none) (ha : PA X [e, e2] ta)
    (c1 : starEach [e, e2] X.env = (false, eval e X.env) :: starEach [e2] X.env := by rfl) (c2 : (backTo pos (starEach [e2] X.env)).any (·.1) = false := by rfl) :
    PI X (.Tuple elts kk tpos) (.Call (.Name "zip" p) [e, e2] [] pos) (iZipX X.K ta) := by
  refine ⟨fun pins s σ H R I h => Call_ (ld_blt I hg hm PyProof.Rows.boot_zip (PyProof.Rows.callWith_type1 (thn (ha.run pos pins s σ H _ I h) fun us s1 hx => ?_) c1 c2))⟩
  obtain ⟨vs, H1, I1, r1, a, b, xs, ys, ex, qx, qy, q⟩ := hx
  subst ex
  obtain ⟨u, v, rfl, ru, rv0⟩ := vals2 r1
  obtain rfl : u = Value.ref a := ru
  obtain rfl : v = Value.ref b := rv0
  have fresh5 : ∀ c, c ∈ [s1.heap.objs.size + 4, s1.heap.objs.size + 2, s1.heap.objs.size + 3, s1.heap.objs.size, s1.heap.objs.size + 1] → FpOk X pins H1 c := fun c hcm => by
    have hle : s1.heap.objs.size ≤ c := by rcases mem5 hcm with z | z | z | z | z <;> (rw [z]; omega)
    exact I1.fpOk hle (I1.hok.fresh hle)
  obtain ⟨its, rv, p1, _⟩ := I1.tuple qx
  obtain ⟨js, rw', p2, _⟩ := I1.list qy
  obtain ⟨o1, ho1, _⟩ := id p1
  refine call_zipM (show s1.heap.IsTuple a its.toArray from p1) p2.isList fun h' zi pI pO t1 t2 hk => wpAny_pyIter_zip zi ?_
  exact ⟨s1.heap.objs.size + 4, [s1.heap.objs.size + 4, s1.heap.objs.size + 2, s1.heap.objs.size + 3, s1.heap.objs.size, s1.heap.objs.size + 1], _, _, H1, rfl, I1.kept (t' := s1.toks) hk, turn_zipM (PySem.W.ktu_apart s1.heap.objs.size a b (Heap.lt_size ho1) p2.lt), ⟨zi, pI, ⟨_, _, pO⟩, t1, t2⟩, fresh5, q⟩
/-- over trees -/
theorem it_zipX {Z : Cq} {Γ : Gam} {M : Mem} {Q : List Dt → Mem → Prop} {ta : TA} (h : ArD Z ta Γ M fun ds M1 => ∃ xs ys, (ds = [.tup xs, .lst ys] ∨ ds = [.tq xs, .lst ys]) ∧ Q ((xs.zip ys).map fun p => Dt.tup [p.1, p.2]) M1) : ItD Z (iZipX Z.K ta) Γ M Q := fun F W H σ g s R k =>
  h F W H σ g s _ fun ds M1 vs W1 H1 ⟨xs, ys, hd, q⟩ e1 s1 dv => by
    have go : ∀ {a b : Addr} {us ws : List V}, SqT Z.K W1 a us → DVs Z.K W1 us xs → SqL Z.K W1 b ws → DVs Z.K W1 ws ys → WalkD Z (ItzM Z.K a b) W1 ((xs.zip ys).map fun p => Dt.tup [p.1, p.2]) := fun {a b us ws} h1 d1 h2 d2 W' H' M F e s => by
      have q1 : SqT Z.K H' a us := ex_t s.ex (ex_t e h1)
      have q2 : SqL Z.K H' b ws := ex_l s.ex (ex_l e h2)
      have l1 := d1.len
      have l2 := d2.len
      refine ⟨fun i d hi => ?_, ⟨us, ws, q1, q2, ?_⟩⟩
      · rw [List.getElem?_map] at hi
        obtain ⟨p, hp, rfl⟩ := Option.map_eq_some_iff.mp hi
        rw [List.getElem?_zip_eq_some] at hp
        obtain ⟨p1, p2⟩ := hp
        obtain ⟨u, hu, du⟩ := d1.get p1
        obtain ⟨v, hv, dv⟩ := d2.get p2
        refine ⟨⟨us, ws, u, v, q1, q2, hu, hv⟩, fun x H2 yl => ?_⟩
        obtain ⟨T, x1, y1, rfl, hT, rfl, f1, f2⟩ := yl
        have ex1 : x1 = u := Option.some.inj ((f1 us q1).symm.trans hu)
        have ey1 : y1 = v := Option.some.inj ((f2 ws q2).symm.trans hv)
        subst ex1 ey1
        obtain ⟨e2, s2⟩ := s.new (o := .tup [x1, y1]) hT
        have dd : DVs Z.K (upd W' T (.tup [x1, y1])) [x1, y1] [p.1, p.2] := .cons (du.mono (e.trans e2)) (.cons (dv.mono (e.trans e2)) .nil)
        exact ⟨_, e2, s2, .tup upd_same rfl dd.at_⟩
      · rw [List.length_map, List.length_zip]
        omega
    rcases hd with rfl | rfl
    · obtain ⟨v1, r1, rfl, a1, dv1⟩ := dv.cons_inv
      obtain ⟨v2, r2, rfl, a2, dv2⟩ := dv1.cons_inv
      obtain rfl := dv2.nil_inv
      cases a1 with
      | tup h1 l1 r1 =>
        cases a2 with
        | lst h2 l2 r2 => exact ⟨_, _, _, _, rfl, st_of (s1.ex _ _ h1), sq_of (s1.ex _ _ h2), k _ _ _ _ _ q e1 s1 (go (st_of h1) ⟨l1, r1⟩ (sq_of h2) ⟨l2, r2⟩)⟩
    · obtain ⟨v1, r1, rfl, a1, dv1⟩ := dv.cons_inv
      obtain ⟨v2, r2, rfl, a2, dv2⟩ := dv1.cons_inv
      obtain rfl := dv2.nil_inv
      cases a1 with
      | tq h1 l1 r1 =>
        cases a2 with
        | lst h2 l2 r2 => exact ⟨_, _, _, _, rfl, ex_t s1.ex h1, sq_of (s1.ex _ _ h2), k _ _ _ _ _ q e1 s1 (go h1 ⟨l1, r1⟩ (sq_of h2) ⟨l2, r2⟩)⟩
end Lw
end

section
set_option Elab.async false
set_option linter.all false
set_option maxRecDepth 100000
set_option maxHeartbeats 4000000
namespace Lw
open PySem PySem.Spec PyProof.Rows L2 Evl

/-! ### the memory, written -/
section
variable {K : PySem.W.Frag} {W W' H H' : Hp} {M M' M2 : Mem} {F : List (Addr × HO)} {σ : L2.St} {Γ : Gam} {v : V} {d : Dt} {a : Addr} {mo mo' : MO} {o : HO}
theorem St.front {Mr : Mem} (s : St K W H ((a, mo) :: Mr) F) (ok : MOk K W (upd H a o) a mo') : St K W (upd H a o) ((a, mo') :: Mr) F := by
  have hd := s.mem (a, mo) List.mem_cons_self
  have nd : (a :: (Mr.map (·.1) ++ F.map (·.1))).Nodup := s.nd
  obtain ⟨n1, n2⟩ := List.nodup_cons.mp nd
  have hM : ∀ q ∈ Mr, q.1 ≠ a := fun q hq e => n1 (List.mem_append_left _ (List.mem_map.mpr ⟨q, hq, e⟩))
  have hF : ∀ q ∈ F, q.1 ≠ a := fun q hq e => n1 (List.mem_append_right _ (List.mem_map.mpr ⟨q, hq, e⟩))
  refine ⟨fun b u hb => ?_, fun q hq => ?_, fun q hq => ⟨(s.frm q hq).1, by rw [upd_ne (hF q hq)]; exact (s.frm q hq).2⟩, s.ntu, s.nd⟩
  · rw [upd_ne (ne_of_none hb hd.1)]
    exact s.ex b u hb
  · rcases List.mem_cons.mp hq with e | hq
    · subst e
      exact ⟨hd.1, ok⟩
    · exact ⟨(s.mem q (List.mem_cons_of_mem _ hq)).1, (s.mem q (List.mem_cons_of_mem _ hq)).2.mono (Ex.refl W) (upd_ne (hM q hq))⟩
theorem at_split {α : Type} : ∀ {l : List α} {n : Nat} {x : α}, l[n]? = some x → ∃ l1 l2, l = l1 ++ x :: l2 ∧ l1.length = n
  | [], n, x, h => by simp at h
  | y :: l, 0, x, h => ⟨[], l, by simpa using h, rfl⟩
  | y :: l, n + 1, x, h => by
    obtain ⟨l1, l2, e, hl⟩ := at_split (l := l) (n := n) (by simpa using h)
    exact ⟨y :: l1, l2, by rw [e]; rfl, by simp [hl]⟩
theorem set_split {α : Type} {l1 l2 : List α} {x y : α} {n : Nat} (h : l1.length = n) : (l1 ++ x :: l2).set n y = l1 ++ y :: l2 := by
  subst h
  simp
theorem St.set_ {n : Nat} (s : St K W H M F) (h : M[n]? = some (a, mo)) (ok : MOk K W (upd H a o) a mo') : St K W (upd H a o) (M.set n (a, mo')) F := by
  obtain ⟨l1, l2, e, hl⟩ := at_split h
  subst e
  rw [set_split hl]
  exact ((s.perm List.perm_middle.symm).front ok).perm List.perm_middle
/-- a list or an instance of the memory is known from here on -/
inductive Known (a : Addr) : MO → Dt → Prop
  | lst (ds : List Dt) : Known a (.lst ds) (.lst ds)
  | ins (C : Addr) (fs : List (Str × Dt)) : Known a (.ins C fs) (.ins C fs)
theorem St.know (s : St K W H ((a, mo) :: M) F) (k : Known a mo d) : ∃ W2, Ex W W2 ∧ St K W2 H M F ∧ DV K W2 (.ref a) d := by
  have hd := s.mem (a, mo) List.mem_cons_self
  have nd : (a :: (M.map (·.1) ++ F.map (·.1))).Nodup := s.nd
  obtain ⟨n1, n2⟩ := List.nodup_cons.mp nd
  have hM : ∀ q ∈ M, q.1 ≠ a := fun q hq e => n1 (List.mem_append_left _ (List.mem_map.mpr ⟨q, hq, e⟩))
  have hF : ∀ q ∈ F, q.1 ≠ a := fun q hq e => n1 (List.mem_append_right _ (List.mem_map.mpr ⟨q, hq, e⟩))
  have go : ∀ u, H a = some u → Ex W (upd W a u) ∧ St K (upd W a u) H M F := fun u hu => by
    have e : Ex W (upd W a u) := Ex.new hd.1
    refine ⟨e, fun b x hb => ?_, fun q hq => ⟨by rw [upd_ne (hM q hq)]; exact (s.mem q (List.mem_cons_of_mem _ hq)).1, (s.mem q (List.mem_cons_of_mem _ hq)).2.mono e rfl⟩, fun q hq => ⟨by rw [upd_ne (hF q hq)]; exact (s.frm q hq).1, (s.frm q hq).2⟩, s.ntu, n2⟩
    by_cases z : b = a
    · subst z
      rw [upd_same] at hb
      rw [hu]
      exact hb
    · rw [upd_ne z] at hb
      exact s.ex b x hb
  cases k with
  | lst ds =>
    obtain ⟨xs, hx, dx⟩ := hd.2
    obtain ⟨e, s2⟩ := go _ hx
    exact ⟨_, e, s2, .lst upd_same dx.len (dx.mono e).at_⟩
  | ins C fs =>
    obtain ⟨dx, gs, hx, dm⟩ := hd.2
    obtain ⟨e, s2⟩ := go _ hx
    exact ⟨_, e, s2, .ins upd_same dm.keys (dm.mono e).at_⟩
/-- a new address that nothing here knows -/
theorem St.other (s : St K W H M F) {p : Addr} {o : HO} (h : H p = none) : St K W (upd H p o) M F := by
  obtain ⟨hW, hM, hF⟩ := s.free h
  refine ⟨fun b u hb => ?_, fun q hq => ⟨(s.mem q hq).1, (s.mem q hq).2.mono (Ex.refl W) (upd_ne (hM q hq))⟩, fun q hq => ⟨(s.frm q hq).1, ?_⟩, s.ntu, s.nd⟩
  · rw [upd_ne (ne_of_none (s.ex b u hb) h)]
    exact s.ex b u hb
  · rw [upd_ne (hF q hq)]
    exact (s.frm q hq).2
/-! fields -/
def putD (f : Str) (v : Dt) : List (Str × Dt) → List (Str × Dt)
  | [] => [(f, v)]
  | (g, x) :: r => if g = f then (g, v) :: r else (g, x) :: putD f v r
theorem DVm.nil {κ : Type} : DVm K W ([] : List (κ × V)) [] := ⟨rfl, fun i f g v d h => by simp at h⟩
theorem DVm.cons {κ : Type} {f : κ} {gs : List (κ × V)} {fs : List (κ × Dt)} (h : DV K W v d) (r : DVm K W gs fs) : DVm K W ((f, v) :: gs) ((f, d) :: fs) :=
  ⟨congrArg (f :: ·) r.keys, fun i f' g' u e h1 h2 => by
    cases i with
    | zero =>
      cases h1
      cases h2
      exact h
    | succ i => exact r.at_ i f' g' u e (by simpa using h1) (by simpa using h2)⟩
theorem DVm.cons_inv {κ : Type} {f : κ} {gs : List (κ × V)} {fs : List (κ × Dt)} (h : DVm K W gs ((f, d) :: fs)) : ∃ v r, gs = (f, v) :: r ∧ DV K W v d ∧ DVm K W r fs := by
  cases gs with
  | nil => exact absurd h.keys (by simp)
  | cons p r =>
    obtain ⟨g, v⟩ := p
    have hk := h.keys
    simp only [List.map_cons, List.cons.injEq] at hk
    obtain ⟨h1, h2⟩ := hk
    subst h1
    exact ⟨v, r, rfl, h.at_ 0 g g v d rfl rfl, h2, fun i f' g' u e a b => h.at_ (i + 1) f' g' u e (by simpa using a) (by simpa using b)⟩
theorem DVm.nil_inv {κ : Type} {gs : List (κ × V)} (h : DVm K W gs []) : gs = [] := by
  have := congrArg List.length h.keys
  simpa using this
theorem DVm.lookup {f : Str} {d : Dt} : ∀ {gs : List (Str × V)} {fs : List (Str × Dt)}, DVm K W gs fs → fs.lookup f = some d → ∃ v, gs.lookup f = some v ∧ DV K W v d
  | gs, [], _, e => by cases e
  | gs, (g, x) :: fs, h, e => by
    obtain ⟨v, r, rfl, h1, h2⟩ := h.cons_inv
    rw [List.lookup_cons] at e ⊢
    cases hb : (f == g) with
    | true =>
      rw [hb] at e
      cases e
      exact ⟨v, rfl, h1⟩
    | false =>
      rw [hb] at e
      exact DVm.lookup h2 e
theorem DVm.lookup_none {f : Str} : ∀ {gs : List (Str × V)} {fs : List (Str × Dt)}, DVm K W gs fs → fs.lookup f = none → gs.lookup f = none
  | gs, [], h, e => by
    rw [h.nil_inv]
    rfl
  | gs, (g, x) :: fs, h, e => by
    obtain ⟨v, r, rfl, h1, h2⟩ := h.cons_inv
    rw [List.lookup_cons] at e ⊢
    cases hb : (f == g) with
    | true =>
      rw [hb] at e
      cases e
    | false =>
      rw [hb] at e
      exact DVm.lookup_none h2 e
theorem DVm.put {f : Str} : ∀ {gs : List (Str × V)} {fs : List (Str × Dt)}, DVm K W gs fs → DV K W v d → DVm K W (putF f v gs) (putD f d fs)
  | gs, [], h, e => by
    rw [h.nil_inv]
    exact .cons e .nil
  | gs, (g, x) :: fs, h, e => by
    obtain ⟨u, r, rfl, h1, h2⟩ := h.cons_inv
    unfold putF putD
    by_cases q : g = f
    · rw [if_pos q, if_pos q]
      exact .cons e h2
    · rw [if_neg q, if_neg q]
      exact .cons h1 (h2.put e)
theorem DVm.len {κ : Type} {gs : List (κ × V)} {fs : List (κ × Dt)} (h : DVm K W gs fs) : gs.length = fs.length := by
  have := congrArg List.length h.keys
  simpa using this
end
section
variable {Z : Cq} {Γ : Gam} {M Mr : Mem} {Q : Dt → Mem → Prop} {QT : Bool → Mem → Prop} {QA : List Dt → Mem → Prop} {QG : Gam → Mem → Prop} {P : EndD} {ta tb te tv : TE} {tr : TA} {d x y : Dt} {f m : Str} {C : Addr} {S : SD} {tl th : TO}
theorem ev_fld (cl : Cls Z.K C) (na : NoAttr Z.K C f) (h : EvD Z ta Γ M fun x M1 => ∃ fs d, x = .ins C fs ∧ fs.lookup f = some d ∧ Q d M1) : EvD Z (tFld Z.K ta f) Γ M Q := fun F W H σ g s R k =>
  h F W H σ g s _ fun x M1 v W1 H1 ⟨fs, d, e, l, q⟩ e1 s1 d1 => by
    subst e
    cases d1 with
    | ins hw hl hr =>
      obtain ⟨u, lu, du⟩ := DVm.lookup (K := Z.K) (W := W1) ⟨hl, hr⟩ l
      exact ⟨_, _, _, _, _, rfl, s1.ex _ _ hw, cl, na, lu, k _ _ _ _ _ q e1 s1 du⟩
theorem ev_fldM (cl : Cls Z.K C) (na : NoAttr Z.K C f) (h : EvD Z ta Γ M fun x M1 => ∃ a fs d, x = .ref a ∧ (a, MO.ins C fs) ∈ M1 ∧ fs.lookup f = some d ∧ Q d M1) : EvD Z (tFld Z.K ta f) Γ M Q := fun F W H σ g s R k =>
  h F W H σ g s _ fun x M1 v W1 H1 ⟨a, fs, d, e, hm, l, q⟩ e1 s1 d1 => by
    subst e
    cases d1
    obtain ⟨dx, gs, hx, dm⟩ := (s1.mem _ hm).2
    obtain ⟨u, lu, du⟩ := dm.lookup l
    exact ⟨_, _, _, _, _, rfl, hx, cl, na, lu, k _ _ _ _ _ q e1 s1 du⟩
theorem rn_fld (cl : Cls Z.K C) (na : NoAttr Z.K C f) (h : EvD Z tv Γ M fun y M1 => EvD Z ta Γ M1 fun x M2 => ∃ a fs Mr, x = .ref a ∧ M2.Perm ((a, MO.ins C fs) :: Mr) ∧ fs.length < 1000 ∧ P.nx Γ ((a, .ins C (putD f y fs)) :: Mr)) : RnD Z (sFld Z.K ta tv f) Γ M P := fun F W H σ D g s k =>
  h F W H σ g s _ fun y M1 vy W1 H1 h1 e1 s1 d1 => h1 F W1 H1 σ (g.mono e1) s1 _ fun x M2 vx W2 H2 ⟨a, fs, Mr, e, pm, hl, q⟩ e2 s2 d2 => by
    subst e
    cases d2
    have s3 := s2.perm pm.symm
    obtain ⟨dx, gs, hx, dm⟩ := (s3.mem _ List.mem_cons_self).2
    refine ⟨_, C, dx, gs, rfl, hx, cl, na, by rw [dm.len]; exact hl, ?_⟩
    exact k.nx _ _ _ _ _ q (e1.trans e2) (g.mono (e1.trans e2)) (s3.front ⟨dx, putF f vy gs, upd_same, dm.put (d1.mono e2)⟩)
theorem rn_fldaug {i j : Int} (cl : Cls Z.K C) (na : NoAttr Z.K C f) (h : EvD Z ta Γ M fun x M1 => ∃ a fs Mr, x = .ref a ∧ M1.Perm ((a, MO.ins C fs) :: Mr) ∧ fs.length < 999 ∧ fs.lookup f = some (.int i) ∧ EvD Z tv Γ ((a, .ins C fs) :: Mr) fun y M2 => y = .int j ∧ M2 = (a, .ins C fs) :: Mr ∧ P.nx Γ ((a, .ins C (putD f (.int (i + j)) fs)) :: Mr)) :
    RnD Z (sFldAug Z.K ta tv rAdd f) Γ M P := fun F W H σ D g s k =>
  h F W H σ g s _ fun x M1 vx W1 H1 ⟨a, fs, Mr, e, pm, hl, lk, h2⟩ e1 s1 d1 => by
    subst e
    cases d1
    have s3 := s1.perm pm.symm
    obtain ⟨dx, gs, hx, dm⟩ := (s3.mem _ List.mem_cons_self).2
    obtain ⟨u, lu, du⟩ := dm.lookup lk
    cases du
    refine ⟨_, C, dx, gs, _, rfl, hx, cl, na, lu, h2 F W1 H1 σ (g.mono e1) s3 _ fun y M2 vy W2 H2 ⟨ey, em, q⟩ e2 s4 d4 => ?_⟩
    subst ey em
    cases d4
    obtain ⟨dx2, gs2, hx2, dm2⟩ := (s4.mem _ List.mem_cons_self).2
    refine ⟨i, j, rfl, rfl, dx2, gs2, hx2, by rw [dm2.len]; omega, ?_⟩
    exact k.nx _ _ _ _ _ q (e1.trans e2) (g.mono (e1.trans e2)) (s4.front ⟨dx2, _, upd_same, dm2.put (.int _)⟩)
/-- C(..) -/
theorem ev_make (h : ArD Z tr Γ M fun ds M1 => ∀ a, ∃ Mc Mr, (M1 ++ [(a, MO.ins C [])]).Perm (Mc ++ Mr) ∧ S (.ref a :: ds) Mc (fun d Mc' => d = .non ∧ Q (.ref a) (Mc' ++ Mr)) noX) : EvD Z (tMake C (toSp Z.K S) [] E0 tr) Γ M Q := fun F W H σ g s R k =>
  h F W H σ g s _ fun ds M1 vs W1 H1 q e1 s1 d1 x dx hx hdx ne => by
    have s2 : St Z.K W1 (upd H1 dx (.own x)) M1 F := s1.other hdx
    have hx2 : upd H1 dx (.own x) x = none := by rw [upd_ne (Ne.symm ne)]; exact hx
    have s3 := s2.newM (o := .ins C dx []) (mo := .ins C []) hx2 ⟨dx, [], upd_same, .nil⟩
    have dv : DVs Z.K W1 (.ref x :: vs) (.ref x :: ds) := .cons (.ref x) d1
    have := call_core (Z := Z) (Q := fun d M' => d = .non ∧ Q (.ref x) M') (E := E0) noX s3 dv (q x) (fun _ _ _ _ _ _ _ z => False.elim z) (R := fun v H2 => v = .non ∧ R (.ref x) H2) fun d M' v W' H' q e s' d' => by
      obtain ⟨ed, q⟩ := q
      subst ed
      cases d'
      exact ⟨rfl, k _ _ _ _ _ q (e1.trans e) s' (.ref x)⟩
    exact this
/-- C(..), known as soon as it is made -/
theorem ev_make1 {fs : List (Str × Dt)} (h : ArD Z tr Γ M fun ds M1 => (∀ a, S (.ref a :: ds) [(a, .ins C [])] (fun d Mc' => d = .non ∧ Mc' = [(a, .ins C fs)]) noX) ∧ Q (.ins C fs) M1) (mono : ∀ ds M (Q Q' : Dt → Mem → Prop) X, (∀ d M, Q d M → Q' d M) → S ds M Q X → S ds M Q' X) : EvD Z (tMake C (toSp Z.K S) [] E0 tr) Γ M Q := fun F W H σ g s R k => by
  refine ev_make (Q := fun d M' => ∃ a M1, d = .ref a ∧ M' = (a, .ins C fs) :: M1 ∧ Q (.ins C fs) M1) (fun F W H σ g s R k2 => h F W H σ g s R fun ds M1 vs W' H' q => k2 ds M1 vs W' H' fun a => ⟨[(a, .ins C [])], M1, List.perm_append_comm, mono _ _ _ _ _ (fun d M' z => ⟨z.1, a, M1, rfl, by rw [z.2]; rfl, q.2⟩) (q.1 a)⟩) F W H σ g s R fun d M' v W' H' z e s' dv => ?_
  obtain ⟨a, M1, ed, em, q⟩ := z
  subst ed em
  cases dv
  obtain ⟨W2, e2, s2, d2⟩ := s'.know (.ins C fs)
  exact k _ _ _ _ _ q (e.trans e2) s2 d2
/-- o.m(..) of a known instance -/
theorem ev_meth (h : EvD Z ta Γ M fun x M1 => ∃ fs, x = .ins C fs ∧ fs.lookup m = none ∧ ArD Z tr Γ M1 fun ds M2 => ∃ Mc Mr, M2.Perm (Mc ++ Mr) ∧ S (x :: ds) Mc (fun d Mc' => Q d (Mc' ++ Mr)) noX) : EvD Z (tMeth C m (toSp Z.K S) [] E0 ta tr) Γ M Q := fun F W H σ g s R k =>
  h F W H σ g s _ fun x M1 v W1 H1 ⟨fs, e, l, h2⟩ e1 s1 d1 => by
    subst e
    have d10 := d1
    cases d1 with
    | ins hw hl hr =>
      refine ⟨_, _, _, rfl, s1.ex _ _ hw, DVm.lookup_none (K := Z.K) (W := W1) ⟨hl, hr⟩ l, h2 F W1 H1 σ (g.mono e1) s1 _ fun ds M2 vs W2 H2 q e2 s2 d2 => ?_⟩
      exact call_core (Z := Z) noX s2 (.cons (d10.mono e2) d2) q (fun _ _ _ _ _ _ _ z => False.elim z) fun d M' v W' H' q e s' d' => k d M' v W' H' q ((e1.trans e2).trans e) s' d'
/-- .. of one of the memory -/
theorem ev_methM (h : EvD Z ta Γ M fun x M1 => ∃ a fs, x = .ref a ∧ (a, MO.ins C fs) ∈ M1 ∧ fs.lookup m = none ∧ ArD Z tr Γ M1 fun ds M2 => ∃ Mc Mr, M2.Perm (Mc ++ Mr) ∧ S (x :: ds) Mc (fun d Mc' => Q d (Mc' ++ Mr)) noX) : EvD Z (tMeth C m (toSp Z.K S) [] E0 ta tr) Γ M Q := fun F W H σ g s R k =>
  h F W H σ g s _ fun x M1 v W1 H1 ⟨a, fs, e, hm, l, h2⟩ e1 s1 d1 => by
    subst e
    have d10 := d1
    cases d1
    obtain ⟨dx, gs, hx, dm⟩ := (s1.mem _ hm).2
    refine ⟨_, _, _, rfl, hx, dm.lookup_none l, h2 F W1 H1 σ (g.mono e1) s1 _ fun ds M2 vs W2 H2 q e2 s2 d2 => ?_⟩
    exact call_core (Z := Z) noX s2 (.cons (d10.mono e2) d2) q (fun _ _ _ _ _ _ _ z => False.elim z) fun d M' v W' H' q e s' d' => k d M' v W' H' q ((e1.trans e2).trans e) s' d'
/-- a list of the memory is given away: it is known from here on -/
theorem ev_know (h : EvD Z te Γ M fun x M1 => ∃ a mo d Mr, x = .ref a ∧ M1.Perm ((a, mo) :: Mr) ∧ Known a mo d ∧ Q d Mr) : EvD Z te Γ M Q := fun F W H σ g s R k =>
  h F W H σ g s R fun x M1 v W1 H1 ⟨a, mo, d, Mr, e, pm, kn, q⟩ e1 s1 d1 => by
    subst e
    cases d1
    obtain ⟨W2, e2, s2, d2⟩ := (s1.perm pm.symm).know kn
    exact k _ _ _ _ _ q (e1.trans e2) s2 d2
/-- a slot that holds a list of the memory: the list is known from here on -/
theorem rn_know {ts : TS} {i : Nat} {a : Addr} {mo : MO} (hi : Γ[i]? = some (some (.ref a))) (pm : M.Perm ((a, mo) :: Mr)) (kn : Known a mo d) (h : RnD Z ts (Γ.set i (some d)) Mr P) : RnD Z ts Γ M P := fun F W H σ D g s k => by
  obtain ⟨W2, e2, s2, d2⟩ := (s.perm pm.symm).know kn
  refine h F W2 H σ D ⟨⟨by rw [List.length_set]; exact g.g.len, fun j e hj => ?_⟩, g.x.mono e2⟩ s2 (k.mono e2)
  by_cases q : i = j
  · subst q
    have hl : i < Γ.length := (List.getElem?_eq_some_iff.mp hi).1
    rw [List.getElem?_set_self hl] at hj
    cases hj
    obtain ⟨v, h1, h2⟩ := g.g.at_ i _ hi
    cases h2
    exact ⟨_, h1, d2⟩
  · rw [List.getElem?_set_ne q] at hj
    exact (g.g.mono e2).at_ j e hj
theorem rn_perm {ts : TS} {M' : Mem} (pm : M.Perm M') (h : RnD Z ts Γ M' P) : RnD Z ts Γ M P := fun F W H σ D g s k => h F W H σ D g (s.perm pm.symm) k
theorem ev_perm {M' : Mem} (pm : M.Perm M') (h : EvD Z te Γ M' Q) : EvD Z te Γ M Q := fun F W H σ g s R k => h F W H σ g (s.perm pm.symm) R k
/-! slices -/
def cutD {α : Type} (xs : List α) (lo hi : Option Int) : List α := (xs.drop (HT.sIx xs.length 0 lo)).take (HT.sIx xs.length xs.length hi - HT.sIx xs.length 0 lo)
theorem po_no {QO : Option Int → Mem → Prop} (q : QO none M) : PoD Z tNoPart Γ M QO := fun F W H σ g s R k => k none M W H q (Ex.refl W) s
theorem po_part {QO : Option Int → Mem → Prop} (h : EvD Z ta Γ M fun x M1 => ∃ i, x = .int i ∧ QO (some i) M1) : PoD Z (tPart ta) Γ M QO := fun F W H σ g s R k =>
  h F W H σ g s _ fun x M1 v W1 H1 ⟨i, e, q⟩ e1 s1 d1 => by
    subst e
    cases d1
    exact ⟨i, rfl, k _ _ _ _ q e1 s1⟩
theorem DVs.cut {K : PySem.W.Frag} {W : Hp} {vs : List V} {ds : List Dt} (h : DVs K W vs ds) (lo hi : Option Int) : DVs K W (cutV vs lo hi) (cutD ds lo hi) := by
  unfold cutV cutD
  rw [h.len]
  refine ⟨by rw [List.length_take, List.length_take, List.length_drop, List.length_drop, h.len], fun i v d h1 h2 => ?_⟩
  rw [List.getElem?_take] at h1 h2
  split at h1
  · rename_i hi
    rw [if_pos hi, List.getElem?_drop] at h2
    rw [List.getElem?_drop] at h1
    exact h.at_ _ v d h1 h2
  · cases h1
theorem cutD_all {α : Type} {xs : List α} {lo hi : Option Int} (h : HT.sIx xs.length 0 lo = 0 ∧ HT.sIx xs.length xs.length hi = xs.length) : cutD xs lo hi = xs := by
  unfold cutD
  rw [h.1, h.2]
  simp
theorem ev_sl (h : EvD Z te Γ M fun x M1 => PoD Z tl Γ M1 fun lo M2 => PoD Z th Γ M2 fun hi M3 => (∃ ds, (x = .lst ds ∧ Q (.lst (cutD ds lo hi)) M3) ∨ (x = .tup ds ∧ Q (.tup (cutD ds lo hi)) M3) ∨ (x = .tq ds ∧ HT.sIx ds.length 0 lo ≠ 0 ∧ Q (.tup (cutD ds lo hi)) M3)) ∨ ∃ z, x = .str z ∧ z.length ≤ sizeLine ∧ Q (.str (cutS z lo hi)) M3) :
    EvD Z (tSl (rSlAll Z.K) te tl th) Γ M Q := fun F W H σ g s R k =>
  h F W H σ g s _ fun x M1 v W1 H1 h1 e1 s1 d1 => h1 F W1 H1 σ (g.mono e1) s1 _ fun lo M2 W2 H2 h2 e2 s2 => h2 F W2 H2 σ (g.mono (e1.trans e2)) s2 _ fun hi M3 W3 H3 h3 e3 s3 => by
    have d3 := (d1.mono e2).mono e3
    have eA := (e1.trans e2).trans e3
    rcases h3 with ⟨ds, ⟨rfl, q⟩ | ⟨rfl, q⟩ | ⟨rfl, nz, q⟩⟩ | ⟨z, rfl, hz, q⟩
    · cases d3 with
      | lst hw l r =>
        refine .inl ⟨_, _, rfl, sq_of (s3.ex _ _ hw), fun p hp => ?_⟩
        obtain ⟨e4, s4⟩ := s3.new hp
        have dd := DVs.cut (K := Z.K) (W := W3) ⟨l, r⟩ lo hi
        exact k _ _ _ _ _ q (eA.trans e4) s4 (.lst upd_same dd.len (dd.mono e4).at_)
    · have d30 := d3
      cases d3 with
      | tup hw l r =>
        refine .inr (.inl ⟨_, _, rfl, st_of (s3.ex _ _ hw), fun hall => ?_, fun hn p hp => ?_⟩)
        · refine k _ _ _ _ _ q eA s3 ?_
          rw [cutD_all (by rw [← l]; exact hall)]
          exact d30
        · obtain ⟨e4, s4⟩ := s3.new hp
          have dd := DVs.cut (K := Z.K) (W := W3) ⟨l, r⟩ lo hi
          exact k _ _ _ _ _ q (eA.trans e4) s4 (.tup upd_same dd.len (dd.mono e4).at_)
    · cases d3 with
      | tq hw l r =>
        refine .inr (.inl ⟨_, _, rfl, ex_t s3.ex hw, fun hall => ?_, fun hn p hp => ?_⟩)
        · rw [l] at hall
          exact absurd hall.1 nz
        · obtain ⟨e4, s4⟩ := s3.new hp
          have dd := DVs.cut (K := Z.K) (W := W3) ⟨l, r⟩ lo hi
          exact k _ _ _ _ _ q (eA.trans e4) s4 (.tup upd_same dd.len (dd.mono e4).at_)
    · cases d3
      exact .inr (.inr ⟨z, rfl, hz, k _ _ _ _ _ q eA s3 (.str _)⟩)
/-! texts -/
theorem strs_of {K : PySem.W.Frag} {W : Hp} : ∀ {vs : List V} {ys : List Str}, DVs K W vs (ys.map Dt.str) → vs = ys.map V.str
  | vs, [], h => h.nil_inv
  | vs, y :: ys, h => by
    obtain ⟨v, r, rfl, h1, h2⟩ := DVs.cons_inv (d := .str y) (ds := ys.map Dt.str) h
    cases h1
    rw [strs_of h2]
    rfl
theorem dvs_strs {K : PySem.W.Frag} {W : Hp} : ∀ ys : List Str, DVs K W (ys.map V.str) (ys.map Dt.str)
  | [] => .nil
  | y :: ys => .cons (.str y) (dvs_strs ys)
theorem ev_join (h : EvD Z ta Γ M fun x M1 => ∃ a, x = .str a ∧ EvD Z tb Γ M1 fun y M2 => ∃ ys : List Str, y = .lst (ys.map Dt.str) ∧ (ys.map (·.length)).sum + ys.length * a.length ≤ 16777216 ∧ Q (.str (Txt.join a ys)) M2) : EvD Z (tM1 (rJoinA Z.K) ta tb) Γ M Q := fun F W H σ g s R k =>
  h F W H σ g s _ fun x M1 v W1 H1 ⟨a, e, h1⟩ e1 s1 d1 => by
    subst e
    cases d1
    refine ⟨⟨a, rfl⟩, h1 F W1 H1 σ (g.mono e1) s1 _ fun y M2 vy W2 H2 ⟨ys, e, hs, q⟩ e2 s2 d2 => ?_⟩
    subst e
    cases d2 with
    | @lst p xs _ hw l r =>
      have ex := strs_of (K := Z.K) (W := W2) ⟨l, r⟩
      subst ex
      exact ⟨a, p, ys, rfl, rfl, .inl (sq_of (s2.ex _ _ hw)), hs, k _ _ _ _ _ q (e1.trans e2) s2 (.str _)⟩
theorem ev_split (h : EvD Z ta Γ M fun x M1 => ∃ a, x = .str a ∧ EvD Z tb Γ M1 fun y M2 => ∃ b, y = .str b ∧ (b.length == 0) = false ∧ a.length + 2 ≤ sizeLine ∧ Q (.lst ((Txt.split a b).map Dt.str)) M2) : EvD Z (tM1 rSplitA ta tb) Γ M Q := fun F W H σ g s R k =>
  h F W H σ g s _ fun x M1 v W1 H1 ⟨a, e, h1⟩ e1 s1 d1 => by
    subst e
    cases d1
    refine ⟨⟨a, rfl⟩, h1 F W1 H1 σ (g.mono e1) s1 _ fun y M2 vy W2 H2 ⟨b, e, hb, hl, q⟩ e2 s2 d2 => ?_⟩
    subst e
    cases d2
    refine ⟨a, b, rfl, rfl, hb, hl, fun p hp => ?_⟩
    obtain ⟨e3, s3⟩ := s2.new hp
    have dd := dvs_strs (K := Z.K) (W := W2) (Txt.split a b)
    exact k _ _ _ _ _ q ((e1.trans e2).trans e3) s3 (.lst upd_same dd.len (dd.mono e3).at_)
/-! lists that are written -/
theorem ev_append {n : Nat} {a : Addr} {ds : List Dt} (h : EvD Z ta Γ M fun x M1 => x = .ref a ∧ M1[n]? = some (a, .lst ds) ∧ ArD Z tr Γ M1 fun es M2 => ∃ y ds', es = [y] ∧ M2[n]? = some (a, .lst ds') ∧ ds'.length < sizeLine ∧ Q .non (M2.set n (a, .lst (ds' ++ [y])))) : EvD Z (tBM Z.K "list" rAppend ta tr) Γ M Q := fun F W H σ g s R k =>
  h F W H σ g s _ fun x M1 v W1 H1 ⟨e, hm, h1⟩ e1 s1 d1 => by
    subst e
    cases d1
    obtain ⟨xs, hx, dx⟩ := (s1.mem _ (List.mem_of_getElem? hm)).2
    refine ⟨.inl ⟨rfl, xs, sq_of hx⟩, h1 F W1 H1 σ (g.mono e1) s1 _ fun es M2 vs W2 H2 ⟨y, ds', e, hm2, hl, q⟩ e2 s2 d2 => ?_⟩
    subst e
    obtain ⟨vy, r, rfl, dy, d3⟩ := d2.cons_inv
    obtain rfl := d3.nil_inv
    obtain ⟨ys, hy, dy2⟩ := (s2.mem _ (List.mem_of_getElem? hm2)).2
    refine ⟨a, ys, vy, rfl, rfl, hy, by rw [dy2.len]; exact hl, ?_⟩
    exact k _ _ _ _ _ q (e1.trans e2) (s2.set_ hm2 ⟨ys ++ [vy], upd_same, dy2.append (.cons dy .nil)⟩) .non
theorem ev_pop {n : Nat} {a : Addr} {ds : List Dt} (h : EvD Z ta Γ M fun x M1 => x = .ref a ∧ ∃ ds y, M1[n]? = some (a, .lst (ds ++ [y])) ∧ Q y (M1.set n (a, .lst ds))) : EvD Z (tBM0 Z.K "list" rPop ta) Γ M Q := fun F W H σ g s R k =>
  h F W H σ g s _ fun x M1 v W1 H1 ⟨e, ds, y, hm, q⟩ e1 s1 d1 => by
    subst e
    cases d1
    obtain ⟨xs, hx, dx⟩ := (s1.mem _ (List.mem_of_getElem? hm)).2
    have hlen : xs.length = ds.length + 1 := by rw [dx.len, List.length_append]; rfl
    have hlt : xs.length - 1 < xs.length := by omega
    have hy : xs[xs.length - 1]? = some xs[xs.length - 1] := List.getElem?_eq_getElem hlt
    refine ⟨.inl ⟨rfl, xs, sq_of hx⟩, a, xs, xs[xs.length - 1], rfl, rfl, hx, hy, ?_⟩
    refine k _ _ _ _ _ q e1 (s1.set_ hm ⟨xs.dropLast, upd_same, ⟨by rw [List.length_dropLast]; omega, fun i u e h1 h2 => ?_⟩⟩) (dx.at_ _ _ y hy ?_)
    · rw [List.getElem?_dropLast] at h1
      split at h1
      · refine dx.at_ i u e h1 ?_
        rw [List.getElem?_append_left (List.getElem?_eq_some_iff.mp h2).1]
        exact h2
      · cases h1
    · rw [List.getElem?_append_right (by omega)]
      simp [hlen]
/-- unpacking of a list -/
theorem gt_unl {n : Nat} {t : TGs} {ds : List Dt} (hn : ds.length = n) (h : GsD Z t ds Γ M QG) : GtD Z (gUnl Z.K n t) (.lst ds) Γ M QG := fun F W H σ v g s dv R k => by
  cases dv with
  | lst hs l r => exact ⟨_, _, rfl, sq_of (s.ex _ _ hs), l.trans hn, h F W H σ _ g s ⟨l, r⟩ R k⟩
theorem cd_lenQ' {ds : List Dt} (q : Q (.int (ds.length : Nat)) M) : ClD Z (rLenA Z.K) [.tq ds] M Q := fun F W H vs s dv R k => by
  obtain ⟨v, us, rfl, d1, d2⟩ := dv.cons_inv
  obtain rfl := d2.nil_inv
  cases d1 with
  | tq h l r => exact ⟨_, _, rfl, .inr ⟨_, ex_t s.ex h, l.symm⟩, k _ _ _ _ _ q (Ex.refl W) s (.int _)⟩
/-! built-ins of data -/
theorem cd_repr (h0 : x.isPy = true) (h1 : x.py.showable = true) (h2 : x.py.hasDict = false) (h3 : x.py.depth ≤ 50) (h4 : x.py.shown.length ≤ sizeLine) (n1 : x.py ≠ .none) (n2 : ∀ b, x.py ≠ .bool b) (q : Q (.str x.py.shown) M) : ClD Z (rReprA Z.K) [x] M Q := fun F W H vs s dv R k => by
  obtain ⟨v, us, rfl, d1, d2⟩ := dv.cons_inv
  obtain rfl := d2.nil_inv
  exact ⟨v, x.py, rfl, (d1.mono s.ex).dp h0, h1, h2, h3, h4, n1, n2, k _ _ _ _ _ q (Ex.refl W) s (.str _)⟩
/-- isinstance of instances -/
theorem cd_isi {C D : Addr} {fs : List (Str × Dt)} {b : Bool} (c : C8.InsC Z.K C) (e : PySem.W.kitOne Z.K (.ref C) (.ref D) = some b) (q : Q (.bl b) M) : ClD Z (rIsi Z.K) [.ins C fs, .ref D] M Q := fun F W H vs s dv R k => by
  obtain ⟨v, us, rfl, d1, d2⟩ := dv.cons_inv
  obtain ⟨v2, us2, rfl, d3, d4⟩ := d2.cons_inv
  obtain rfl := d4.nil_inv
  cases d3
  cases d1 with
  | ins hw l r => exact ⟨_, _, _, _, b, rfl, .own D, .base (.ins (s.ex _ _ hw) c.cl c.ha c.hn c.htk c.hm), e, k _ _ _ _ _ q (Ex.refl W) s (.bl b)⟩
theorem dp_of_mem {K : PySem.W.Frag} {W : Hp} : ∀ {vs : List V} {ds : List Dt}, DVs K W vs ds → Dt.arePy ds = true → ∃ bs : List (V × Dt), bs.map (·.1) = vs ∧ bs.map (·.2) = ds ∧ ∀ b ∈ bs, DV K W b.1 b.2 ∧ b.2.isPy = true
  | vs, [], h, _ => ⟨[], by rw [h.nil_inv]; rfl, rfl, fun b hb => by cases hb⟩
  | vs, d :: ds, h, p => by
    obtain ⟨v, r, rfl, h1, h2⟩ := h.cons_inv
    have p2 : (d.isPy && Dt.arePy ds) = true := by
      have := p
      rwa [Dt.arePy] at this
    obtain ⟨p3, p4⟩ := Bool.and_eq_true_iff.mp p2
    obtain ⟨bs, e1, e2, e3⟩ := dp_of_mem h2 p4
    refine ⟨(v, d) :: bs, by rw [List.map_cons, e1], by rw [List.map_cons, e2], fun b hb => ?_⟩
    rcases List.mem_cons.mp hb with rfl | hb
    · exact ⟨h1, p3⟩
    · exact e3 b hb
/-- sorted(a list of data) -/
def sortD (ds : List Dt) : List Dt := ds.mergeSort (PySem.W.dataLe false Dt.py)
theorem cd_sorted {ds : List Dt} (hp : Dt.arePy ds = true) (hd : ∀ d ∈ ds, d.py.depth ≤ 50) (al : PySem.W.AllAlike (ds.map Dt.py)) (so : PySem.W.Sortable (ds.map Dt.py)) (hl : ds.length ≤ sizeLine) (q : Q (.lst (sortD ds)) M) : ClD Z (rSortedA Z.K) [.lst ds] M Q := fun F W H vs s dv R k => by
  obtain ⟨v, us, rfl, d1, d2⟩ := dv.cons_inv
  obtain rfl := d2.nil_inv
  cases d1 with
  | @lst a xs _ hw l r =>
    obtain ⟨bs, e1, e2, e3⟩ := dp_of_mem (K := Z.K) (W := W) ⟨l, r⟩ hp
    have em : (bs.map fun b => b.2.py) = ds.map Dt.py := by rw [← e2, List.map_map]; rfl
    refine ⟨a, bs, rfl, by rw [e1]; exact sq_of (s.ex _ _ hw), fun b hb => ⟨((e3 b hb).1.mono s.ex).dp (e3 b hb).2, hd _ (by rw [← e2]; exact List.mem_map.mpr ⟨b, hb, rfl⟩)⟩, by rw [em]; exact al, by rw [em]; exact so, ?_, fun p hp => ?_⟩
    · have := congrArg List.length e2
      rw [List.length_map] at this
      rw [this]
      exact hl
    · obtain ⟨e4, s4⟩ := s.new hp
      have es : (bs.mergeSort (PySem.W.dataLe false fun b => b.2.py)).map (·.2) = sortD ds := by
        unfold sortD
        rw [← e2]
        exact List.map_mergeSort fun _ _ _ _ => rfl
      have hb : ∀ b ∈ bs.mergeSort (PySem.W.dataLe false fun b => b.2.py), DV Z.K W b.1 b.2 := fun b hb => (e3 b (List.mem_mergeSort.mp hb)).1
      have dd : DVs Z.K W ((bs.mergeSort (PySem.W.dataLe false fun b => b.2.py)).map (·.1)) (sortD ds) := by
        rw [← es]
        refine ⟨by rw [List.length_map, List.length_map], fun i v d h1 h2 => ?_⟩
        rw [List.getElem?_map] at h1 h2
        obtain ⟨b, hb1, rfl⟩ := Option.map_eq_some_iff.mp h1
        rw [hb1] at h2
        cases h2
        exact hb b (List.mem_of_getElem? hb1)
      exact k _ _ _ _ _ q e4 s4 (.lst upd_same dd.len (dd.mono e4).at_)
end
end Lw
end

section
set_option Elab.async false
set_option linter.all false
set_option maxRecDepth 100000
set_option maxHeartbeats 4000000
namespace Lw
open PySem PySem.Spec PyProof.Rows L2 Evl

/-! ### cases -/
section
variable {A B : Prop} {p : Prop} [Decidable p] {b : Bool}
theorem ifD (h1 : p → A) (h2 : ¬ p → B) : if decide p = true then A else B := by
  by_cases h : p
  · rw [decide_eq_true h]
    exact h1 h
  · rw [decide_eq_false h]
    exact h2 h
theorem ifND (h1 : ¬ p → A) (h2 : p → B) : if (!decide p) = true then A else B := by
  by_cases h : p
  · rw [decide_eq_true h]
    exact h2 h
  · rw [decide_eq_false h]
    exact h1 h
theorem ifB (h1 : b = true → A) (h2 : b = false → B) : if b = true then A else B := by
  cases b with
  | true => exact h1 rfl
  | false => exact h2 rfl
theorem ifNB (h1 : b = false → A) (h2 : b = true → B) : if (!b) = true then A else B := by
  cases b with
  | true => exact h2 rfl
  | false => exact h1 rfl
theorem ifT (h : A) : if true = true then A else B := h
theorem ifF (h : B) : if false = true then A else B := h
end
/-! ### a def that touches nothing, by a relation -/
def relS (R : List Dt → Dt → Prop) : SD := fun ds M Q _ => M = [] ∧ ∃ d, R ds d ∧ Q d []
section
variable {Z : Cq} {Γ : Gam} {M : Mem} {Q : Dt → Mem → Prop} {tr : TA} {ta te : TE} {R : List Dt → Dt → Prop} {P : EndD} {d : Dt}
theorem ev_rel (h : ArD Z tr Γ M fun ds M1 => ∃ d, R ds d ∧ Q d M1) : EvD Z (tCall (toSp Z.K (relS R)) [] E0 tr) Γ M Q :=
  ev_call fun F W H σ g s R' k => h F W H σ g s R' fun ds M1 vs W1 H1 q e1 s1 d1 => k ds M1 vs W1 H1 (let ⟨d, q1, q2⟩ := q; ⟨[], M1, .refl _, rfl, d, q1, q2⟩) e1 s1 d1
/-- a method that touches nothing, of a known instance -/
theorem ev_mrel {C : Addr} {m : Str} (h : EvD Z ta Γ M fun x M1 => ∃ fs, x = .ins C fs ∧ fs.lookup m = none ∧ ArD Z tr Γ M1 fun ds M2 => ∃ d, R (x :: ds) d ∧ Q d M2) : EvD Z (tMeth C m (toSp Z.K (relS R)) [] E0 ta tr) Γ M Q :=
  ev_meth fun F W H σ g s R' k => h F W H σ g s R' fun x M1 v W1 H1 q e1 s1 d1 => k x M1 v W1 H1 (let ⟨fs, a, b, q2⟩ := q; ⟨fs, a, b, fun F W H σ g s R' k => q2 F W H σ g s R' fun ds M2 vs W2 H2 q e2 s2 d2 => k ds M2 vs W2 H2 (let ⟨d, q1, q2⟩ := q; ⟨[], M2, .refl _, rfl, d, q1, q2⟩) e2 s2 d2⟩) e1 s1 d1
/-- .. made by C(..): an instance that is known as soon as it is made -/
def initS (C : Addr) (R : List Dt → List (Str × Dt) → Prop) : SD := fun ds M Q _ => ∃ a es fs, ds = .ref a :: es ∧ M = [(a, .ins C [])] ∧ R es fs ∧ Q .non [(a, .ins C fs)]
theorem ev_init {C : Addr} {R : List Dt → List (Str × Dt) → Prop} (h : ArD Z tr Γ M fun ds M1 => ∃ fs, R ds fs ∧ Q (.ins C fs) M1) : EvD Z (tMake C (toSp Z.K (initS C R)) [] E0 tr) Γ M Q := fun F W H σ g s R' k => by
  refine ev_make (Q := fun d M' => ∃ a M1 fs, d = .ref a ∧ M' = (a, .ins C fs) :: M1 ∧ Q (.ins C fs) M1) (fun F W H σ g s R' k2 => h F W H σ g s R' fun ds M1 vs W' H' q => k2 ds M1 vs W' H' fun a => ?_) F W H σ g s R' fun d M' v W' H' z e s' dv => ?_
  · obtain ⟨fs, q1, q2⟩ := q
    exact ⟨[(a, .ins C [])], M1, List.perm_append_comm, a, ds, fs, rfl, rfl, q1, rfl, a, M1, fs, rfl, rfl, q2⟩
  · obtain ⟨a, M1, fs, ed, em, q⟩ := z
    subst ed em
    cases dv
    obtain ⟨W2, e2, s2, d2⟩ := s'.know (.ins C fs)
    exact k _ _ _ _ _ q (e.trans e2) s2 d2
end
/-- a thing of the memory that nobody writes any more is forgotten -/
theorem St.forget {K : PySem.W.Frag} {W H : Hp} {M : Mem} {F : List (Addr × HO)} {a : Addr} {mo : MO} (s : St K W H ((a, mo) :: M) F) : ∃ W2, Ex W W2 ∧ St K W2 H M F := by
  have hd := s.mem (a, mo) List.mem_cons_self
  have nd : (a :: (M.map (·.1) ++ F.map (·.1))).Nodup := s.nd
  obtain ⟨n1, n2⟩ := List.nodup_cons.mp nd
  have hM : ∀ q ∈ M, q.1 ≠ a := fun q hq e => n1 (List.mem_append_left _ (List.mem_map.mpr ⟨q, hq, e⟩))
  have hF : ∀ q ∈ F, q.1 ≠ a := fun q hq e => n1 (List.mem_append_right _ (List.mem_map.mpr ⟨q, hq, e⟩))
  obtain ⟨u, hu⟩ := hd.2.there
  have e : Ex W (upd W a u) := Ex.new hd.1
  refine ⟨upd W a u, e, fun b x hb => ?_, fun q hq => ⟨by rw [upd_ne (hM q hq)]; exact (s.mem q (List.mem_cons_of_mem _ hq)).1, (s.mem q (List.mem_cons_of_mem _ hq)).2.mono e rfl⟩, fun q hq => ⟨by rw [upd_ne (hF q hq)]; exact (s.frm q hq).1, (s.frm q hq).2⟩, s.ntu, n2⟩
  by_cases z : b = a
  · subst z
    rw [upd_same] at hb
    rw [hu]
    exact hb
  · rw [upd_ne z] at hb
    exact s.ex b x hb
theorem ev_forget {Z : Cq} {Γ : Gam} {M : Mem} {Q : Dt → Mem → Prop} {te : TE} (h : EvD Z te Γ M fun x M1 => ∃ a mo Mr, M1.Perm ((a, mo) :: Mr) ∧ Q x Mr) : EvD Z te Γ M Q := fun F W H σ g s R k =>
  h F W H σ g s R fun x M1 v W1 H1 ⟨a, mo, Mr, pm, q⟩ e1 s1 d1 => by
    obtain ⟨W2, e2, s2⟩ := (s1.perm pm.symm).forget
    exact k _ _ _ _ _ q (e1.trans e2) s2 (d1.mono e2)
theorem rn_forget {Z : Cq} {Γ : Gam} {M Mr : Mem} {P : EndD} {ts : TS} {a : Addr} {mo : MO} (pm : M.Perm ((a, mo) :: Mr)) (h : RnD Z ts Γ Mr P) : RnD Z ts Γ M P := fun F W H σ D g s k => by
  obtain ⟨W2, e2, s2⟩ := (s.perm pm.symm).forget
  exact h F W2 H σ D (g.mono e2) s2 (k.mono e2)
/-! ### texts of numbers -/
def numT (n : Int) : Str := toString n
def numOk (n : Int) : Prop := -1 ≤ n ∧ n ≤ 99999
def cntOk (n : Int) : Prop := 0 ≤ n ∧ n ≤ 99999
instance (n : Int) : Decidable (numOk n) := by unfold numOk; exact inferInstance
def partT (ns : List Int) : Str := if ns = [] then "end" else Txt.join "," (ns.map numT)
def numsOk (ns : List Int) : Prop := (∀ n ∈ ns, numOk n) ∧ ns.length ≤ 100
def tupI (ns : List Int) : Dt := .tup (ns.map Dt.int)
theorem log_ok {n : Int} (h : numOk n) : n.natAbs.log2 < 1920 := by
  obtain ⟨h1, h2⟩ := h
  have : n.natAbs ≤ 99999 := by omega
  by_cases z : n.natAbs = 0
  · rw [z]
    decide
  · have := (Nat.log2_lt z (k := 1920)).mpr (Nat.lt_of_le_of_lt this (by
      have : (2:Nat) ^ 17 ≤ 2 ^ 1920 := Nat.pow_le_pow_right (by decide) (by decide)
      have : (99999:Nat) < 2 ^ 17 := by decide
      omega))
    exact this
/-- every number of these, by computing -/
theorem all_nums (p : Int → Bool) (h : ((List.range 100001).all fun k => p ((k : Int) - 1)) = true) {n : Int} (hn : numOk n) : p n = true := by
  obtain ⟨h1, h2⟩ := hn
  have := List.all_eq_true.mp h (n + 1).toNat (List.mem_range.mpr (by omega))
  rw [show ((n + 1).toNat : Int) - 1 = n by omega] at this
  exact this
end Lw
end

section
set_option Elab.async false
set_option linter.all false
set_option maxRecDepth 100000
set_option maxHeartbeats 4000000
namespace Lw
open PySem PySem.Spec PyProof.Rows L2 Evl

/-! ### dicts whose keys are tuples -/
section
variable {K : PySem.W.Frag} {W : Hp}
def valD {κ : Type} [DecidableEq κ] (fs : List (κ × Dt)) (k : κ) : Option Dt := (fs.find? fun q => decide (q.1 = k)).map (·.2)
theorem valD_cons {κ : Type} [DecidableEq κ] (p : κ × Dt) (r : List (κ × Dt)) (k : κ) : valD (p :: r) k = if p.1 = k then some p.2 else valD r k := by
  unfold valD
  rw [List.find?_cons]
  by_cases h : p.1 = k
  · rw [if_pos h, decide_eq_true h]
    rfl
  · rw [if_neg h, decide_eq_false h]
theorem DVm.val {κ : Type} [DecidableEq κ] {k : κ} : ∀ {gs : List (κ × V)} {fs : List (κ × Dt)}, DVm K W gs fs → (∀ d, valD fs k = some d → ∃ v, valV gs k = some v ∧ DV K W v d) ∧ (valD fs k = none → valV gs k = none)
  | gs, [], h => by
    rw [h.nil_inv]
    exact ⟨(fun d e => by cases e), (fun _ => rfl)⟩
  | gs, (g, x) :: fs, h => by
    obtain ⟨v, r, rfl, h1, h2⟩ := h.cons_inv
    obtain ⟨i1, i2⟩ := DVm.val (k := k) h2
    rw [valD_cons]
    by_cases q : g = k
    · rw [if_pos q, valV_pos (p := (g, v)) q]
      exact ⟨fun d e => by cases e; exact ⟨v, rfl, h1⟩, fun e => by cases e⟩
    · rw [if_neg q, valV_neg (p := (g, v)) q]
      exact ⟨i1, i2⟩
theorem DVm.app {κ : Type} {gs gs' : List (κ × V)} {fs fs' : List (κ × Dt)} (h : DVm K W gs fs) (h' : DVm K W gs' fs') : DVm K W (gs ++ gs') (fs ++ fs') := by
  induction fs generalizing gs with
  | nil =>
    rw [h.nil_inv]
    exact h'
  | cons p fs ih =>
    obtain ⟨g, x⟩ := p
    obtain ⟨v, r, rfl, h1, h2⟩ := h.cons_inv
    exact .cons h1 (ih h2)
theorem putK_new {κ : Type} [DecidableEq κ] {gs : List (κ × V)} {k : κ} {v : V} (h : valV gs k = none) : putK gs k v = gs ++ [(k, v)] := by
  unfold putK
  rw [valV_any, h]
  rfl
def keyD (k : List Key) : Dt := .tup (k.map kD)
theorem key_vals : ∀ {k : List Key} {xs : List V}, DVs K W xs (k.map kD) → xs = k.map kV
  | [], xs, h => h.nil_inv
  | a :: k, xs, h => by
    obtain ⟨v, r, rfl, h1, h2⟩ := DVs.cons_inv (d := kD a) (ds := k.map kD) h
    rw [key_vals h2]
    cases a with
    | inl i =>
      cases h1
      rfl
    | inr x =>
      cases h1
      rfl
theorem key_tup {v : V} {k : List Key} (h : DV K W v (keyD k)) : ∃ b, v = .ref b ∧ W b = some (.tup (k.map kV)) := by
  cases h with
  | tup hw l r =>
    refine ⟨_, rfl, ?_⟩
    rw [← key_vals (K := K) (W := W) ⟨l, r⟩]
    exact hw
theorem key_mono {k : List Key} {b : Addr} {W' : Hp} (h : W b = some (.tup (k.map kV))) (e : Ex W W') : W' b = some (.tup (k.map kV)) := e _ _ h
end
section
variable {Z : Cq} {Γ : Gam} {M Mr : Mem} {Q : Dt → Mem → Prop} {QG : Gam → Mem → Prop} {td ty tx : TE} {d : Dt} {k : List Key}
/-- a.setdefault(k, z), a of the memory -/
theorem ev_setdT (h : EvD Z td Γ M fun x M1 => ∃ a, x = .ref a ∧ (∃ kvs, (a, MO.dT kvs) ∈ M1) ∧ EvD Z ty Γ M1 fun y M2 => ∃ k, y = keyD k ∧ EvD Z tx Γ M2 fun z M3 => ∃ kvs Mr, M3.Perm ((a, MO.dT kvs) :: Mr) ∧ kvs.length < sizeLine ∧
      (∀ d, valD kvs k = some d → Q d ((a, .dT kvs) :: Mr)) ∧ (valD kvs k = none → Q z ((a, .dT (kvs ++ [(k, z)])) :: Mr))) : EvD Z (tDSetdT td ty tx) Γ M Q := fun F W H σ g s R kk =>
  h F W H σ g s _ fun x M1 v W1 H1 ⟨a, e, ⟨kvs0, hm⟩, h1⟩ e1 s1 d1 => by
    subst e
    cases d1
    obtain ⟨gs0, hx, _⟩ := (s1.mem _ hm).2
    refine ⟨a, rfl, .inr ⟨gs0, .inl hx⟩, h1 F W1 H1 σ (g.mono e1) s1 _ fun y M2 vy W2 H2 ⟨k, e, h2⟩ e2 s2 d2 => ?_⟩
    subst e
    obtain ⟨b, rfl, hb⟩ := key_tup d2
    refine h2 F W2 H2 σ (g.mono (e1.trans e2)) s2 _ fun z M3 vz W3 H3 ⟨kvs, Mr, pm, hl, q1, q2⟩ e3 s3 d3 => ?_
    have s4 := s3.perm pm.symm
    obtain ⟨gs, hg, dm⟩ := (s4.mem _ List.mem_cons_self).2
    obtain ⟨i1, i2⟩ := DVm.val (k := k) dm
    refine ⟨gs, k, b, hg, rfl, s3.ex _ _ (key_mono hb e3), by rw [dm.len]; exact hl, fun v hv => ?_, fun hn => ?_⟩
    · cases hd : valD kvs k with
      | none =>
        rw [i2 hd] at hv
        cases hv
      | some d =>
        obtain ⟨v', hv', dv⟩ := i1 d hd
        rw [hv] at hv'
        cases hv'
        exact kk _ _ _ _ _ (q1 d hd) ((e1.trans e2).trans e3) s4 dv
    · cases hd : valD kvs k with
      | some d =>
        obtain ⟨v', hv', dv⟩ := i1 d hd
        rw [hn] at hv'
        cases hv'
      | none =>
        rw [putK_new hn]
        exact kk _ _ _ _ _ (q2 hd) ((e1.trans e2).trans e3) (s4.front ⟨_, upd_same, dm.app (.cons d3 .nil)⟩) d3
/-- k in a, a of the memory -/
theorem od_inT {a : Addr} {kvs : List (List Key × Dt)} (hm : (a, MO.dT kvs) ∈ M) (q : Q (.bl (valD kvs k).isSome) M) : OpD Z (rInA Z.K) (keyD k) (.ref a) M Q := op_orR (op_orL fun F W H vx vy s d1 d2 R kk => by
  cases d2
  obtain ⟨b, rfl, hb⟩ := key_tup d1
  obtain ⟨gs, hg, dm⟩ := (s.mem _ hm).2
  obtain ⟨i1, i2⟩ := DVm.val (k := k) dm
  refine ⟨a, valV gs k, rfl, .inr ⟨gs, k, b, .inl hg, rfl, s.ex _ _ hb, rfl⟩, ?_⟩
  have e : (valV gs k).isSome = (valD kvs k).isSome := by
    cases hd : valD kvs k with
    | none =>
      rw [i2 hd]
      rfl
    | some d =>
      obtain ⟨v', hv', _⟩ := i1 d hd
      rw [hv']
      rfl
  refine kk _ _ _ _ _ q (Ex.refl W) s ?_
  show DV Z.K W (.bl (valV gs k).isSome) (.bl (valD kvs k).isSome)
  rw [e]
  exact .bl _)
/-- a[k] = d, k not there yet -/
theorem gt_setT {to ti : TE} (h : EvD Z to Γ M fun x M1 => ∃ a, x = .ref a ∧ EvD Z ti Γ M1 fun y M2 => ∃ k kvs Mr, y = keyD k ∧ M2.Perm ((a, MO.dT kvs) :: Mr) ∧ kvs.length < sizeLine ∧ valD kvs k = none ∧ QG Γ ((a, .dT (kvs ++ [(k, d)])) :: Mr)) : GtD Z (gSub to ti rSetA) d Γ M QG := fun F W H σ v g s dv R kk =>
  h F W H σ g s _ fun x M1 vx W1 H1 ⟨a, e, h1⟩ e1 s1 d1 => h1 F W1 H1 σ (g.mono e1) s1 _ fun y M2 vy W2 H2 ⟨k, kvs, Mr, e', pm, hl, hn, q⟩ e2 s2 d2 => by
    subst e e'
    cases d1
    obtain ⟨b, rfl, hb⟩ := key_tup d2
    have s4 := s2.perm pm.symm
    obtain ⟨gs, hg, dm⟩ := (s4.mem _ List.mem_cons_self).2
    obtain ⟨i1, i2⟩ := DVm.val (k := k) dm
    refine .inr ⟨a, _, rfl, .inr ⟨gs, k, b, hg, rfl, s2.ex _ _ hb, by rw [dm.len]; exact hl, rfl⟩, ?_⟩
    rw [putK_new (i2 hn)]
    exact kk _ _ _ _ _ q (e1.trans e2) (g.mono (e1.trans e2)) (s4.front ⟨_, upd_same, dm.app (.cons (dv.mono (e1.trans e2)) .nil)⟩)
/-- a[k], a known -/
theorem od_ixDT {w : World} {kvs : List (List Key × Dt)} (e : valD kvs k = some d) (q : Q d M) : OpD Z (rIxA Z.K w) (.dT kvs) (keyD k) M Q := op_orR (op_orR fun F W H vx vy s d1 d2 R kk => by
  obtain ⟨b, rfl, hb⟩ := key_tup d2
  cases d1 with
  | dT hw l r =>
    obtain ⟨i1, _⟩ := DVm.val (K := Z.K) (W := W) (k := k) ⟨l, r⟩
    obtain ⟨v, hv, dv⟩ := i1 d e
    exact ⟨_, v, rfl, .inr ⟨_, k, b, .inr ⟨_, s.ex _ _ hw⟩, rfl, s.ex _ _ hb, hv.symm⟩, kk _ _ _ _ _ q (Ex.refl W) s dv⟩)
/-- a.get(k, z), a known -/
theorem ev_dget2 (h : EvD Z td Γ M fun x M1 => ∃ kvs, x = .dT kvs ∧ EvD Z ty Γ M1 fun y M2 => ∃ k, y = keyD k ∧ EvD Z tx Γ M2 fun z M3 => Q ((valD kvs k).getD z) M3) : EvD Z (tDGet2 td ty tx) Γ M Q := fun F W H σ g s R kk =>
  h F W H σ g s _ fun x M1 v W1 H1 ⟨kvs, e, h1⟩ e1 s1 d1 => by
    subst e
    cases d1 with
    | dT hw l r =>
      refine ⟨_, rfl, .inr ⟨_, .inr ⟨_, s1.ex _ _ hw⟩⟩, h1 F W1 H1 σ (g.mono e1) s1 _ fun y M2 vy W2 H2 ⟨k, e, h2⟩ e2 s2 d2 => ?_⟩
      subst e
      obtain ⟨b, rfl, hb⟩ := key_tup d2
      refine h2 F W2 H2 σ (g.mono (e1.trans e2)) s2 _ fun z M3 vz W3 H3 q e3 s3 d3 => ?_
      obtain ⟨i1, i2⟩ := DVm.val (K := Z.K) (W := W1) (k := k) ⟨l, r⟩
      refine ⟨_, .inr ⟨_, k, b, .inr ⟨_, s3.ex _ _ (e3 _ _ (e2 _ _ hw))⟩, rfl, s3.ex _ _ (key_mono hb e3), rfl⟩, ?_⟩
      cases hd : valD kvs k with
      | none =>
        rw [hd] at q
        rw [i2 hd]
        exact kk _ _ _ _ _ q ((e1.trans e2).trans e3) s3 d3
      | some d =>
        rw [hd] at q
        obtain ⟨v, hv, dv⟩ := i1 d hd
        rw [hv]
        exact kk _ _ _ _ _ q ((e1.trans e2).trans e3) s3 ((dv.mono e2).mono e3)
theorem ev_dnewT (h : ∀ p, Q (.ref p) (M ++ [(p, .dT [])])) : EvD Z tDNewT Γ M Q := fun F W H σ g s R k p hp =>
  k _ _ _ _ _ (h p) (Ex.refl W) (s.newM hp ⟨[], upd_same, ⟨rfl, fun i f g v d h => by simp at h⟩⟩) (.ref p)
end
end Lw
end

section
set_option Elab.async false
set_option linter.all false
set_option maxRecDepth 100000
set_option maxHeartbeats 4000000
namespace Lw
open PySem PySem.Spec PyProof.Rows L2 Evl
section
variable {Z : Cq} {Γ : Gam} {M : Mem} {Q : Dt → Mem → Prop} {wi wi1 : TI} {g g1 : TG} {tt : TT} {te : TE} {vs vs1 : List Nat}
theorem flat_take {β : Type} {l : List (List β)} {i : Nat} {x : List β} (h : l[i]? = some x) : (l.take (i + 1)).flatten = (l.take i).flatten ++ x := by
  rw [List.take_succ, h, List.flatten_append]
  simp
theorem flat_le {β : Type} (l : List (List β)) (i : Nat) : (l.take i).flatten.length ≤ l.flatten.length := by
  conv => rhs; rw [← List.take_append_drop i l, List.flatten_append, List.length_append]
  omega
theorem take_at {α : Type} {l : List α} {j : Nat} {y : α} (h : l[j]? = some y) : l.take (j + 1) = l.take j ++ [y] := by
  rw [List.take_succ, h]
  rfl
/-- [e for x in xs if t for y in ys(x)], no memory -/
theorem ev_lc2 (L : List (List Dt)) (hg : GFix g vs) (hg1 : GFix g1 vs1) (h : ItD Z wi Γ M fun ds M1 => ds.length = L.length ∧ L.flatten.length ≤ sizeLine ∧
    (∀ (i : Nat) (d : Dt) (l : List Dt), ds[i]? = some d → L[i]? = some l → GtD Z.quiet g d (wipeG Γ vs) M1 fun Γ2 M2 => M2 = M1 ∧ TtD Z.quiet tt Γ2 M1 fun b M3 => M3 = M1 ∧ if b = true then ItD Z.quiet wi1 Γ2 M1 (fun es M4 => M4 = M1 ∧ es.length = l.length ∧
      ∀ (j : Nat) (e y : Dt), es[j]? = some e → l[j]? = some y → GtD Z.quiet g1 e (wipeG Γ2 vs1) M1 fun Γ3 M5 => M5 = M1 ∧ EvD Z.quiet te Γ3 M1 fun y' M6 => y' = y ∧ M6 = M1) else l = []) ∧ Q (.lst L.flatten) M1) : EvD Z (tLc2 wi g tt wi1 g1 tYes te vs vs1) Γ M Q := fun F W H σ gk s R k =>
  h F W H σ gk s _ fun ds M1 J W1 H1 ⟨hL, hz, hs, hq⟩ e1 s1 wk D hD => by
  refine ⟨fun i m H' => m = ds.length - i ∧ i ≤ ds.length ∧ ∃ W' accV, Ex W1 W' ∧ St Z.K W' H' M1 ((D, .lst accV) :: F) ∧ DVs Z.K W' accV ((L.take i).flatten), ⟨ds.length, rfl, Nat.zero_le _, W1, [], Ex.refl W1, s1.hide hD, .nil⟩, ?_⟩
  rintro i m H' ⟨rfl, hi, W', accV, e', s', da⟩
  obtain ⟨go, stop⟩ := wk W' H' M1 _ e' s'
  by_cases hlt : i < ds.length
  · have hdi : ds[i]? = some ds[i] := List.getElem?_eq_getElem hlt
    have hLi : L[i]? = some (L[i]'(by omega)) := List.getElem?_eq_getElem _
    generalize L[i]'(by omega) = l at hLi
    have ft := flat_take hLi
    have fl := flat_le L (i + 1)
    rw [ft, List.length_append] at fl
    obtain ⟨g1', g2⟩ := go i ds[i] hdi
    refine .inr ⟨g1', fun H2 => ∃ W2 accV, Ex W1 W2 ∧ St Z.K W2 H2 M1 ((D, .lst accV) :: F) ∧ DVs Z.K W2 accV ((L.take (i + 1)).flatten), fun H2 ⟨W2, a1, a, b, c⟩ => ⟨ds.length - (i + 1), by omega, rfl, hlt, W2, a1, a, b, c⟩, fun x H2 y => ?_⟩
    obtain ⟨W2, e2, s2, d2⟩ := g2 x H2 y
    have eW : Ex W W2 := (e1.trans e').trans e2
    have body := hs i ds[i] l hdi hLi _ W2 H2 (wipe σ vs) x ⟨(gk.g.mono eW).wipes vs, ExR.quiet⟩ s2 d2
      (fun σ2 H3 => tt σ2 H3 fun b H4 => if b = true then wi1 σ2 H4 fun J1 H5 => ∃ Wk : Nat → Nat → Hp → Prop, (∃ m, Wk 0 m H5) ∧ ∀ j k H, Wk j k H →
        (J1.stop j H ∧ ∃ W2 accV, Ex W1 W2 ∧ St Z.K W2 H M1 ((D, .lst accV) :: F) ∧ DVs Z.K W2 accV ((L.take (i + 1)).flatten)) ∨ (J1.go j H ∧ ∃ Nx1 : Hp → Prop, (∀ H', Nx1 H' → ∃ k', k' < k ∧ Wk (j + 1) k' H') ∧ ∀ x H', J1.yld j H x H' → g1 x (wipe σ2 vs1) H' fun σ3 H5 => wipe σ3 vs1 = wipe σ2 vs1 ∧ tYes σ3 H5 fun b H6 =>
          if b = true then te σ3 H6 fun y H7 => ∃ acc, H7 D = some (.lst acc) ∧ acc.length < sizeLine ∧ Nx1 (upd H7 D (.lst (acc ++ [y]))) else Nx1 H6)
        else ∃ W2 accV, Ex W1 W2 ∧ St Z.K W2 H4 M1 ((D, .lst accV) :: F) ∧ DVs Z.K W2 accV ((L.take (i + 1)).flatten)) fun Γ3 M3 σ3 W3 H3 q3 e3 g3 s3 => ?_
    · refine hg x (wipe σ vs) H2 _ _ (fun a b e q => ⟨?_, q⟩) body
      rw [wipe_wipe] at e
      exact e
    · obtain ⟨rfl, q3⟩ := q3
      refine q3 _ W3 H3 σ3 g3 s3 _ fun b M4 W4 H4 q4 e4 s4 => ?_
      obtain ⟨rfl, q4⟩ := q4
      have eC : Ex W' W4 := (e2.trans e3).trans e4
      cases b with
      | false =>
        refine iteF ⟨W4, accV, e'.trans eC, s4, ?_⟩
        rw [ft, show l = [] from q4, List.append_nil]
        exact da.mono eC
      | true =>
        refine iteT ((show ItD Z.quiet wi1 Γ3 M4 _ from q4) _ W4 H4 σ3 (g3.mono e4) s4 _ fun es M5 J1 W5 H5 ⟨em, hf, hin⟩ e5 s5 wk1 => ?_)
        subst em
        have eD : Ex W' W5 := eC.trans e5
        refine ⟨fun j m H' => m = es.length - j ∧ j ≤ es.length ∧ ∃ W6 accV, Ex W5 W6 ∧ St Z.K W6 H' M5 ((D, .lst accV) :: F) ∧ DVs Z.K W6 accV ((L.take i).flatten ++ l.take j), ⟨es.length, rfl, Nat.zero_le _, W5, accV, Ex.refl W5, s5, by simpa using da.mono eD⟩, ?_⟩
        rintro j m H6 ⟨rfl, hj, W6, accV6, e6, s6, da6⟩
        obtain ⟨go1, stop1⟩ := wk1 W6 H6 M5 _ e6 s6
        by_cases hlt1 : j < es.length
        · have hej : es[j]? = some es[j] := List.getElem?_eq_getElem hlt1
          have hlj : l[j]? = some (l[j]'(by omega)) := List.getElem?_eq_getElem _
          generalize l[j]'(by omega) = yy at hlj
          obtain ⟨k1, k2⟩ := go1 j es[j] hej
          refine .inr ⟨k1, fun H7 => ∃ W7 accV, Ex W5 W7 ∧ St Z.K W7 H7 M5 ((D, .lst accV) :: F) ∧ DVs Z.K W7 accV ((L.take i).flatten ++ l.take (j + 1)), fun H7 ⟨W7, a1, a, b, c⟩ => ⟨es.length - (j + 1), by omega, rfl, hlt1, W7, a1, a, b, c⟩, fun x7 H7 y7 => ?_⟩
          obtain ⟨W7, e7, s7, d7⟩ := k2 x7 H7 y7
          have eG : Ex W3 W7 := ((e4.trans e5).trans e6).trans e7
          have body1 := hin j es[j] yy hej hlj _ W7 H7 (wipe σ3 vs1) x7 ⟨(g3.g.mono eG).wipes vs1, ExR.quiet⟩ s7 d7
            (fun σ4 H8 => tYes σ4 H8 fun b H9 => if b = true then te σ4 H9 fun y H10 => ∃ acc, H10 D = some (.lst acc) ∧ acc.length < sizeLine ∧ ∃ W7 accV, Ex W5 W7 ∧ St Z.K W7 (upd H10 D (.lst (acc ++ [y]))) M5 ((D, .lst accV) :: F) ∧ DVs Z.K W7 accV ((L.take i).flatten ++ l.take (j + 1))
              else ∃ W7 accV, Ex W5 W7 ∧ St Z.K W7 H9 M5 ((D, .lst accV) :: F) ∧ DVs Z.K W7 accV ((L.take i).flatten ++ l.take (j + 1))) fun Γ8 M8 σ8 W8 H8 q8 e8 g8 s8 => ?_
          · refine hg1 x7 (wipe σ3 vs1) H7 _ _ (fun a b e q => ⟨?_, q⟩) body1
            rw [wipe_wipe] at e
            exact e
          · obtain ⟨rfl, q8⟩ := q8
            unfold tYes
            refine iteT ?_
            refine q8 _ W8 H8 σ8 g8 s8 _ fun y M9 vy W9 H9 hx e9 s9 d9 => ?_
            obtain ⟨q9, em⟩ := hx
            subst em
            obtain ⟨hp, sA⟩ := s9.fset (xs := accV6 ++ [vy])
            have lacc := da6.len
            rw [List.length_append, List.length_take] at lacc
            refine ⟨accV6, hp, by omega, W9, accV6 ++ [vy], ((e6.trans e7).trans e8).trans e9, sA, ?_⟩
            rw [take_at hlj, ← List.append_assoc, ← q9]
            exact (da6.mono ((e7.trans e8).trans e9)).append (.cons d9 .nil)
        · have hl2 : j = es.length := by omega
          subst hl2
          refine .inl ⟨stop1, W6, accV6, (e'.trans eD).trans e6, s6, ?_⟩
          rw [ft]
          rw [hf, List.take_length] at da6
          exact da6
  · have hl2 : i = ds.length := by omega
    subst hl2
    obtain ⟨e5, s5⟩ := s'.fknow
    rw [hL, List.take_length] at da
    exact .inl ⟨stop, k _ _ _ _ _ hq ((e1.trans e').trans e5) s5 (.lst upd_same da.len (da.mono e5).at_)⟩
end
section
variable {Z : Cq} {Γ : Gam} {M : Mem} {P : EndD}
/-- over a list of the memory that the loop leaves as it is -/
theorem rn_forM {tl : TE} {g : TG} {tb : TS} (h : EvD Z tl Γ M fun x M1 => ∃ a ds, x = .ref a ∧ ∃ Iv : Nat → Gam → Mem → Prop, (∀ i Γ' M', Iv i Γ' M' → (a, MO.lst ds) ∈ M') ∧ Iv 0 Γ M1 ∧
      (∀ (i : Nat) (d : Dt) Γ' M', ds[i]? = some d → Iv i Γ' M' → GtD Z g d Γ' M' fun Γ2 M2 => RnD Z tb Γ2 M2 { P with nx := Iv (i + 1), ct := Iv (i + 1), bk := P.nx }) ∧ ∀ Γ' M', Iv ds.length Γ' M' → P.nx Γ' M') :
    RnD Z (tFor (iAny Z.K tl) g tb) Γ M P := fun F W H σ D gk s k => h F W H σ gk s _ fun x M1 v W1 H1 ⟨a, ds, ex, Iv, hm, h0, hs, hd⟩ e1 s1 dv => by
  subst ex
  cases dv
  obtain ⟨xs0, hx0, dx0⟩ := (s1.mem _ (hm 0 Γ M1 h0)).2
  refine .inl ⟨a, rfl, .inl ⟨⟨xs0, sq_of hx0⟩, ?_⟩⟩
  refine ⟨fun i m σ' H' => m = ds.length - i ∧ i ≤ ds.length ∧ ∃ W' Γ' M', Ex W1 W' ∧ GE Z W' F σ' Γ' ∧ St Z.K W' H' M' F ∧ Iv i Γ' M', ⟨ds.length, rfl, Nat.zero_le _, W1, Γ, M1, Ex.refl W1, gk.mono e1, s1, h0⟩, ?_⟩
  rintro i m σ' H' ⟨rfl, hi, W', Γ', M', e', g', s', iv⟩
  obtain ⟨xs, hx, dx⟩ := (s'.mem _ (hm i Γ' M' iv)).2
  by_cases hlt : i < ds.length
  · have hdi : ds[i]? = some ds[i] := List.getElem?_eq_getElem hlt
    obtain ⟨vi, hvi, dvi⟩ := dx.get hdi
    refine .inr ⟨⟨xs, vi, sq_of hx, hvi⟩, fun σ2 H2 => ∃ W2 Γ2 M2, Ex W1 W2 ∧ GE Z W2 F σ2 Γ2 ∧ St Z.K W2 H2 M2 F ∧ Iv (i + 1) Γ2 M2, fun σ2 H2 ⟨W2, Γ2, M2, a, b, c, e⟩ => ⟨ds.length - (i + 1), by omega, rfl, hlt, W2, Γ2, M2, a, b, c, e⟩, fun x H2 y => ?_⟩
    obtain ⟨rfl, y2⟩ := y
    have exi : x = vi := Option.some.inj ((y2 xs (sq_of hx)).symm.trans hvi)
    subst exi
    refine hs i ds[i] Γ' M' hdi iv F W' _ σ' x g' s' dvi _ fun Γ3 M3 σ3 W3 H3 q3 e3 g3 s3 => ?_
    have eA : Ex W1 W3 := e'.trans e3
    exact q3 F W3 H3 σ3 _ g3 s3 ⟨fun Γ4 M4 σ4 W4 H4 q e g s => ⟨W4, Γ4, M4, eA.trans e, g, s, q⟩, fun _ _ _ _ _ q e s d => k.rt _ _ _ _ _ q ((e1.trans eA).trans e) s d, fun _ _ _ _ _ q e g s => k.nx _ _ _ _ _ q ((e1.trans eA).trans e) g s, fun Γ4 M4 σ4 W4 H4 q e g s => ⟨W4, Γ4, M4, eA.trans e, g, s, q⟩⟩
  · have hl : i = ds.length := by omega
    subst hl
    exact .inl ⟨⟨xs, sq_of hx, by rw [dx.len]; exact Nat.le_refl _⟩, k.nx _ _ _ _ _ (hd _ _ iv) (e1.trans e') g' s'⟩
end
end Lw
end

section
set_option Elab.async false
set_option linter.all false
set_option maxRecDepth 100000
set_option maxHeartbeats 4000000
namespace Lw
open PySem PySem.Spec PyProof.Rows L2 Evl

/-! ### numbers as texts -/
def digs (m : Nat) : List Nat := (Nat.toDigits 10 m).map Char.toNat
theorem numT_digs {n : Int} (h : 0 ≤ n) : (numT n).cps.toList = digs n.toNat := by
  have := PySem.W.KIN.signs_num n.toNat
  rw [Int.toNat_of_nonneg h] at this
  exact this
theorem digs_lt {m : Nat} (h : m < 10) : digs m = [48 + m] := by
  unfold digs
  rw [Nat.toDigits_of_lt_base h]
  have : ∀ m : Nat, m < 10 → [Nat.digitChar m].map Char.toNat = [48 + m] := by decide
  exact this m h
theorem digs_ge {m : Nat} (h : 10 ≤ m) : digs m = digs (m / 10) ++ [48 + m % 10] := by
  unfold digs
  rw [Nat.toDigits_of_base_le (by decide) h, List.map_append]
  have : ∀ m : Nat, m < 10 → [Nat.digitChar m].map Char.toNat = [48 + m] := by decide
  rw [this (m % 10) (Nat.mod_lt _ (by decide))]
/-- at most k digits, no sign but these, no naught ahead -/
theorem digs_ok : ∀ (k m : Nat), m < 10 ^ (k + 1) → 1 ≤ (digs m).length ∧ (digs m).length ≤ k + 1 ∧ (∀ c ∈ digs m, 48 ≤ c ∧ c ≤ 57) ∧ ((digs m).length = 1 ∨ ∃ c r, digs m = c :: r ∧ c ≠ 48)
  | 0, m, h => by
    rw [digs_lt (by simpa using h)]
    exact ⟨by simp, by simp, fun c hc => by
      have := List.mem_singleton.mp hc
      have : m < 10 := by simpa using h
      omega, .inl rfl⟩
  | k + 1, m, h => by
    by_cases hm : m < 10
    · rw [digs_lt hm]
      exact ⟨by simp, by simp, fun c hc => by
        have := List.mem_singleton.mp hc
        omega, .inl rfl⟩
    · have hm2 : 10 ≤ m := by omega
      have hd : m / 10 < 10 ^ (k + 1) := Nat.div_lt_of_lt_mul (by rw [Nat.pow_succ] at h; omega)
      obtain ⟨h1, h2, h3, h4⟩ := digs_ok k (m / 10) hd
      rw [digs_ge hm2]
      refine ⟨by rw [List.length_append]; omega, by rw [List.length_append]; simp; omega, fun c hc => ?_, .inr ?_⟩
      · rcases List.mem_append.mp hc with hc | hc
        · exact h3 c hc
        · have := List.mem_singleton.mp hc
          omega
      · rcases h4 with h4 | ⟨c, r, e, hc⟩
        · have hlt : m / 10 < 10 := by
            by_cases q : m / 10 < 10
            · exact q
            · rw [digs_ge (by omega), List.length_append] at h4
              have := (digs_ok k (m / 10 / 10) (Nat.lt_of_le_of_lt (Nat.div_le_self _ _) hd)).1
              simp at h4
              rw [h4] at this
              simp at this
          rw [digs_lt hlt]
          exact ⟨48 + m / 10, [48 + m % 10], rfl, by omega⟩
        · exact ⟨c, r ++ [48 + m % 10], by rw [e]; rfl, hc⟩
theorem numT_cnt {n : Int} (h : cntOk n) : 1 ≤ (numT n).length ∧ (numT n).length ≤ 5 ∧ (∀ c ∈ (numT n).cps.toList, 48 ≤ c ∧ c ≤ 57) ∧ ((numT n).length = 1 ∨ ∃ c r, (numT n).cps.toList = c :: r ∧ c ≠ 48) := by
  obtain ⟨h1, h2⟩ := h
  have := digs_ok 4 n.toNat (by omega)
  rw [← numT_digs h1] at this
  exact this
theorem numT_neg : numT (-1) = "-1" := by decide +kernel
theorem numT_len {n : Int} (h : numOk n) : 1 ≤ (numT n).length ∧ (numT n).length ≤ 5 := by
  by_cases z : n = -1
  · subst z
    rw [numT_neg]
    decide +kernel
  · have : cntOk n := ⟨by have := h.1; omega, h.2⟩
    exact ⟨(numT_cnt this).1, (numT_cnt this).2.1⟩
theorem numT_free {n : Int} {k : Nat} (h : k ≠ 45 ∧ (k < 48 ∨ 57 < k)) : k ∉ (numT n).cps.toList := PyProof.Rows.int_text_free' k h n
theorem numT_reads {n : Int} (h : numOk n) : PySem.intText? (numT n) = some n := by
  by_cases z : n = -1
  · subst z
    rw [numT_neg]
    decide +kernel
  · exact PySem.W.KIN.num_reads (by have := h.1; omega) (by have := h.2; omega)
theorem numT_not_neg {n : Int} (h : cntOk n) : numT n ≠ "-1" := fun e => by
  have h3 := (numT_cnt h).2.2.1
  rw [e] at h3
  have h4 := h3 45 (by decide +kernel)
  omega
theorem numT_ne_end {n : Int} : numT n ≠ "end" := fun e => by
  have h3 := numT_free (n := n) (k := 101) (by omega)
  rw [e] at h3
  exact h3 (by decide +kernel)
theorem tl_eq (x : Str) : TL.tl x = x.cps.toList := rfl
theorem sj {y : Str} {c : Nat} (ey : y.cps.toList = [c]) (hk : y.cps.all (· < 256) = true) {parts : List Str} (hne : parts ≠ []) (hp : ∀ p ∈ parts, c ∉ p.cps.toList) : Txt.split (Txt.join y parts) y = parts :=
  TL.split_join (s := c) (S := []) ey hk hne hp
/-- the signs of a joined text -/
theorem join_mem {y : Str} {c : Nat} : ∀ {parts : List Str}, c ∈ (Txt.join y parts).cps.toList → c ∈ y.cps.toList ∨ ∃ p ∈ parts, c ∈ p.cps.toList := fun {parts} h => by
  rw [TL.join_eq, ← tl_eq, TL.tl_join] at h
  have go : ∀ (S : List Nat) (ps : List (List Nat)), c ∈ TL.joinL S ps → c ∈ S ∨ ∃ p ∈ ps, c ∈ p := fun S ps => by
    induction ps with
    | nil => intro h; cases h
    | cons p r ih =>
      intro h
      cases r with
      | nil => exact .inr ⟨p, List.mem_cons_self, h⟩
      | cons q r =>
        have h2 : c ∈ p ++ (S ++ TL.joinL S (q :: r)) := h
        rcases List.mem_append.mp h2 with h2 | h2
        · exact .inr ⟨p, List.mem_cons_self, h2⟩
        · rcases List.mem_append.mp h2 with h2 | h2
          · exact .inl h2
          · rcases ih h2 with z | ⟨p', z1, z2⟩
            · exact .inl z
            · exact .inr ⟨p', List.mem_cons_of_mem _ z1, z2⟩
  rcases go _ _ h with z | ⟨p, z1, z2⟩
  · exact .inl z
  · obtain ⟨x, hx, rfl⟩ := List.mem_map.mp z1
    exact .inr ⟨x, hx, z2⟩
theorem join_len (y : Str) (parts : List Str) : (Txt.join y parts).length ≤ (parts.map (·.length)).sum + parts.length * y.length := by
  rw [TL.join_eq]
  exact StrLaws.join_length_le y parts
theorem sum_le : ∀ (l : List Nat) (b : Nat), (∀ x ∈ l, x ≤ b) → l.sum ≤ l.length * b
  | [], b, _ => Nat.zero_le _
  | x :: l, b, h => by
    have h1 := h x List.mem_cons_self
    have h2 := sum_le l b fun y hy => h y (List.mem_cons_of_mem _ hy)
    rw [List.sum_cons, List.length_cons, Nat.succ_mul]
    omega
theorem join_cons (y x z : Str) (r : List Str) : Txt.join y (x :: z :: r) = x ++ y ++ Txt.join y (z :: r) := by
  rw [TL.join_eq, TL.join_eq]
  rfl
theorem join_one (y x : Str) : Txt.join y [x] = x := by
  rw [TL.join_eq]
  rfl
theorem comma_one : (("," : Str)).cps.toList = [44] := by decide +kernel
theorem blank_one : ((" " : Str)).cps.toList = [32] := by decide +kernel
theorem nl_one : (("\n" : Str)).cps.toList = [10] := by decide +kernel
/-! parts -/
theorem part_nil : partT [] = "end" := rfl
theorem part_cons {ns : List Int} (h : ns ≠ []) : partT ns = Txt.join "," (ns.map numT) := if_neg h
theorem part_split {ns : List Int} (h : ns ≠ []) : Txt.split (partT ns) "," = ns.map numT := by
  rw [part_cons h]
  refine sj comma_one (by decide +kernel) (by simpa using h) fun p hp => ?_
  obtain ⟨n, _, rfl⟩ := List.mem_map.mp hp
  exact numT_free (by omega)
theorem part_len {ns : List Int} (h : numsOk ns) : (partT ns).length ≤ 606 := by
  by_cases z : ns = []
  · subst z
    decide +kernel
  · rw [part_cons z]
    refine Nat.le_trans (join_len _ _) ?_
    have h1 := sum_le ((ns.map numT).map (·.length)) 5 fun x hx => by
      obtain ⟨y, hy, rfl⟩ := List.mem_map.mp hx
      obtain ⟨n, hn, rfl⟩ := List.mem_map.mp hy
      exact (numT_len (h.1 n hn)).2
    have h2 := h.2
    have h3 : ("," : Str).length = 1 := by decide +kernel
    rw [h3]
    simp only [List.length_map] at h1 ⊢
    omega
theorem part_ne_end {ns : List Int} (h : numsOk ns) (z : ns ≠ []) : partT ns ≠ "end" := fun e => by
  have hm : 101 ∈ (partT ns).cps.toList := by
    rw [e]
    decide +kernel
  rw [part_cons z] at hm
  rcases join_mem hm with q | ⟨p, q1, q2⟩
  · rw [comma_one] at q
    cases List.mem_singleton.mp q
  · obtain ⟨n, _, rfl⟩ := List.mem_map.mp q1
    exact numT_free (by omega) q2
theorem part_free {ns : List Int} {c : Nat} (h : c = 10 ∨ c = 32) : c ∉ (partT ns).cps.toList := fun hm => by
  by_cases z : ns = []
  · subst z
    rcases h with rfl | rfl
    · revert hm
      decide +kernel
    · revert hm
      decide +kernel
  · rw [part_cons z] at hm
    rcases join_mem hm with q | ⟨p, q1, q2⟩
    · rw [comma_one] at q
      have := List.mem_singleton.mp q
      omega
    · obtain ⟨n, _, rfl⟩ := List.mem_map.mp q1
      exact numT_free (by omega) q2
end Lw
end

section
set_option Elab.async false
set_option linter.all false
set_option maxRecDepth 100000
set_option maxHeartbeats 4000000
namespace Lw
open PySem PySem.Spec PyProof.Rows L2 Evl
open C8 (pe_gc)
def top (i : Nat) : Stmt := PySem.Challenge.pw_betweenanytwosteps_k80_papers_read_back.main.body.getD i (.Pass ⟨0, 0, 0, 0⟩)

/-- the module's names -/
structure Txt (K : PySem.W.Frag) (mg : Str → Option Value) : Prop where
  b_len : mg "len" = none
  g_LETTERS : ∃ u, mg "LETTERS" = some u ∧ RelV (.str "abcdefghijklmnopqrstuvwxyz") u
  b_str : mg "str" = none
  b_tuple : mg "tuple" = none
  b_sorted : mg "sorted" = none
  g_DIGITS : ∃ u, mg "DIGITS" = some u ∧ RelV (.str "0123456789") u
  b_int : mg "int" = none
  g_PAPER_LINES : ∃ u, mg "PAPER_LINES" = some u ∧ RelV (.ref (He.ga K "PAPER_LINES")) u
  b_zip : mg "zip" = none
  g_Run : ∃ u, mg "Run" = some u ∧ RelV (.ref (He.ga K "Run")) u
  g_Machine : ∃ u, mg "Machine" = some u ∧ RelV (.ref (He.ga K "Machine")) u
  g_Ring : ∃ u, mg "Ring" = some u ∧ RelV (.ref (He.ga K "Ring")) u
  g_Heights : ∃ u, mg "Heights" = some u ∧ RelV (.ref (He.ga K "Heights")) u
  b_isinstance : mg "isinstance" = none
  b_range : mg "range" = none
  b_repr : mg "repr" = none
  b_list : mg "list" = none

/-! ### what the defs of texts and numbers say -/
abbrev lettersT : Str := "abcdefghijklmnopqrstuvwxyz"
abbrev digitsT : Str := "0123456789"
def isNameB (x : Str) : Bool := decide (1 ≤ x.length ∧ x.length ≤ 8) && x.cps.toList.all fun c => decide (c ∈ lettersT.cps.toList)
def isCountB (x : Str) : Bool := decide (1 ≤ x.length ∧ x.length ≤ 5) && ((x.cps.toList.all fun c => decide (c ∈ digitsT.cps.toList)) && (decide (x.length = 1) || !decide (x.cps.toList.head? = some 48)))
def strT : Dt → Str
  | .int n => numT n
  | .str x => x
  | _ => ""
def strOk (e : Dt) : Prop := (∃ x, e = .str x ∧ x.length ≤ 1000) ∨ ∃ n, e = .int n ∧ numOk n
inductive R_is_name : List Dt → Dt → Prop
  | mk (x : Str) (h : x.length ≤ 1000) : R_is_name [.str x] (.bl (isNameB x))
def S_is_name (_ : PySem.W.Frag) := relS R_is_name
inductive R_joined : List Dt → Dt → Prop
  | mk (es : List Dt) (d : Dt) (h0 : d = .tup es ∨ d = .lst es) (h : ∀ e ∈ es, strOk e) (hl : es.length ≤ 1000) : R_joined [d] (.str (Txt.join " " (es.map strT)))
def S_joined (_ : PySem.W.Frag) := relS R_joined
inductive R_is_count : List Dt → Dt → Prop
  | mk (x : Str) (h : x.length ≤ 1000) : R_is_count [.str x] (.bl (isCountB x))
def S_is_count (_ : PySem.W.Frag) := relS R_is_count
inductive R_numbers_text : List Dt → Dt → Prop
  | mk (ns : List Int) (h : numsOk ns) : R_numbers_text [tupI ns] (.str (partT ns))
def S_numbers_text (_ : PySem.W.Frag) := relS R_numbers_text
inductive R_numbers_of : List Dt → Dt → Prop
  | mk (ns : List Int) (h : numsOk ns) : R_numbers_of [.str (partT ns)] (tupI ns)
def S_numbers_of (_ : PySem.W.Frag) := relS R_numbers_of
inductive PartR : Str → Str → Dt → Prop
  | cnt (n : Int) (h : cntOk n) : PartR "count" (numT n) (.int n)
  | nam (x : Str) (h : isNameB x = true) : PartR "name" x (.str x)
  | num (ns : List Int) (h : numsOk ns) : PartR "numbers" (partT ns) (tupI ns)
inductive R_part_of : List Dt → Dt → Prop
  | mk (s t : Str) (d : Dt) (h : PartR s t d) : R_part_of [.str s, .str t] d
def S_part_of (_ : PySem.W.Frag) := relS R_part_of
end Lw
end

section
set_option Elab.async false
set_option linter.all false
set_option maxRecDepth 100000
set_option maxHeartbeats 4000000
namespace Lw
open PySem PySem.Spec PyProof.Rows L2 Evl
open C8 (pe_gc)
variable {P : Program} {w : World} {K : PySem.W.Frag} {mg : Str → Option Value} {base : Heap}
/-! is_name -/
abbrev s_is_name : Stmt := (top 11)
theorem sc_is_name : FnScope ["text", "sign"] ["text"] (defScope s_is_name) := ⟨rfl, rfl, rfl, by decide +kernel, rfl, by decide +kernel, by decide +kernel⟩
def t_is_name (K : PySem.W.Frag) (w : World) (E : XK) : TS :=
    tSeq (tIfS (tNot (tTest (tChain (rLeA) (rLeA) (tC (.int 1)) (tCB (rLenA K) (tCons (tVar 0) (tNil))) (tC (.int 8))))) (tRet (tC (.bl false))) (tNext))
    (tSeq (tFor (iAny K (tVar 0)) (gName 1) (tIfS (tTest (tOp (rNotInA K) (tVar 1) (tC (.str "abcdefghijklmnopqrstuvwxyz")))) (tRet (tC (.bl false))) (tNext)))
    (tRet (tC (.bl true))))
theorem der_is_name (T : Txt K mg) {f : Addr} (cdv : Value) (A : Around) (outer : List Env) (s : Shared) (H : Hp) (E : XK) (hr : Room 0 (A.deeper (envOfC "is_name" (defScope s_is_name) s.heap.objs.size f cdv))) :
    PSs (cxOf (L2.CX P w) P w K mg base ["text", "sign"] "is_name" (defScope s_is_name) f cdv A outer s H E) (defBody s_is_name) (t_is_name K w E) := by
  have tk := tk_of (P := P) (w := w) (K := K) (mg := mg) (base := base) (N := ["text", "sign"]) (qual := "is_name") (scope := defScope s_is_name) (f := f) (cdv := cdv) (A := A) (outer := outer) (s := s) (H := H) (E := E)
  have po := po_of (P := P) (w := w) (K := K) (mg := mg) (base := base) (N := ["text", "sign"]) (qual := "is_name") (scope := defScope s_is_name) (f := f) (cdv := cdv) (A := A) (outer := outer) (s := s) (H := H) (E := E)
  have hu1 := hu1_of hr
  have hu64 := hu64_of hr
  have hu65 := hu65_of hr
  unfold t_is_name
  exact pss_cons (ps_if (pt_not (pt_chain op_leA op_leA (pe_int) (pe_callB call_lenA (by rfl) T.b_len (by decide +kernel) (pa_cons (pv 0) (pa_nil))) (pe_int))) (pss_one (ps_ret (pe_bl))) (pss_nil))
    (pss_cons (ps_for po rfl (pi_any (pv 0)) (pg_name (i := 1) sc_is_name.nd rfl (by first | exact .inl rfl | exact .inr rfl)) (pss_one (ps_if (pt_cmpR (op_notInA hu65) (pv 1) (pe_gc (by rfl) T.g_LETTERS) (by rfl)) (pss_one (ps_ret (pe_bl))) (pss_nil))))
    (pss_one (ps_ret (pe_bl))))
/-! joined -/
abbrev s_joined : Stmt := (top 14)
theorem sc_joined : FnScope ["parts", "part"] ["parts"] (defScope s_joined) := ⟨rfl, rfl, rfl, by decide +kernel, rfl, by decide +kernel, by decide +kernel⟩
def t_joined (K : PySem.W.Frag) (w : World) (E : XK) : TS :=
    tRet (tM1 (rJoinA K) (tC (.str " ")) (tLc (iAny K (tVar 0)) (gName 1) (tYes) (tCB (rStrA) (tCons (tVar 1) (tNil))) [1]))
theorem der_joined (T : Txt K mg) {f : Addr} (cdv : Value) (A : Around) (outer : List Env) (s : Shared) (H : Hp) (E : XK) (hr : Room 0 (A.deeper (envOfC "joined" (defScope s_joined) s.heap.objs.size f cdv))) :
    PSs (cxOf (L2.CX P w) P w K mg base ["parts", "part"] "joined" (defScope s_joined) f cdv A outer s H E) (defBody s_joined) (t_joined K w E) := by
  have tk := tk_of (P := P) (w := w) (K := K) (mg := mg) (base := base) (N := ["parts", "part"]) (qual := "joined") (scope := defScope s_joined) (f := f) (cdv := cdv) (A := A) (outer := outer) (s := s) (H := H) (E := E)
  have po := po_of (P := P) (w := w) (K := K) (mg := mg) (base := base) (N := ["parts", "part"]) (qual := "joined") (scope := defScope s_joined) (f := f) (cdv := cdv) (A := A) (outer := outer) (s := s) (H := H) (E := E)
  have hu1 := hu1_of hr
  have hu64 := hu64_of hr
  have hu65 := hu65_of hr
  unfold t_joined
  exact pss_one (ps_ret (pe_join (pe_str) (pe_lc (own := [("part", 1)]) rfl sc_joined.nd (pi_any (pv 0)) (blkOk_by (own := [("part", 1)]) (N := ["parts", "part"]) (sc := defScope s_joined) (by decide +kernel)) (fun _ _ _ _ _ => pg_name (i := 1) sc_joined.nd rfl (by first | exact .inl rfl | exact .inr rfl)) (fun _ _ _ _ _ => pts_nil) (fun _ _ _ _ _ => pe_callTy call_strA (by rfl) T.b_str (by decide +kernel) (pa_cons (pv 1) (pa_nil))))))
/-! is_count -/
abbrev s_is_count : Stmt := (top 40)
theorem sc_is_count : FnScope ["text", "sign"] ["text"] (defScope s_is_count) := ⟨rfl, rfl, rfl, by decide +kernel, rfl, by decide +kernel, by decide +kernel⟩
def t_is_count (K : PySem.W.Frag) (w : World) (E : XK) : TS :=
    tSeq (tIfS (tNot (tTest (tChain (rLeA) (rLeA) (tC (.int 1)) (tCB (rLenA K) (tCons (tVar 0) (tNil))) (tC (.int 5))))) (tRet (tC (.bl false))) (tNext))
    (tSeq (tFor (iAny K (tVar 0)) (gName 1) (tIfS (tTest (tOp (rNotInA K) (tVar 1) (tC (.str "0123456789")))) (tRet (tC (.bl false))) (tNext)))
    (tRet (tOrV (tOp (rEqA K) (tCB (rLenA K) (tCons (tVar 0) (tNil))) (tC (.int 1))) (tOp (rNeA K) (tOp (rIxA K w) (tVar 0) (tC (.int 0))) (tC (.str "0"))))))
theorem der_is_count (T : Txt K mg) {f : Addr} (cdv : Value) (A : Around) (outer : List Env) (s : Shared) (H : Hp) (E : XK) (hr : Room 0 (A.deeper (envOfC "is_count" (defScope s_is_count) s.heap.objs.size f cdv))) :
    PSs (cxOf (L2.CX P w) P w K mg base ["text", "sign"] "is_count" (defScope s_is_count) f cdv A outer s H E) (defBody s_is_count) (t_is_count K w E) := by
  have tk := tk_of (P := P) (w := w) (K := K) (mg := mg) (base := base) (N := ["text", "sign"]) (qual := "is_count") (scope := defScope s_is_count) (f := f) (cdv := cdv) (A := A) (outer := outer) (s := s) (H := H) (E := E)
  have po := po_of (P := P) (w := w) (K := K) (mg := mg) (base := base) (N := ["text", "sign"]) (qual := "is_count") (scope := defScope s_is_count) (f := f) (cdv := cdv) (A := A) (outer := outer) (s := s) (H := H) (E := E)
  have hu1 := hu1_of hr
  have hu64 := hu64_of hr
  have hu65 := hu65_of hr
  unfold t_is_count
  exact pss_cons (ps_if (pt_not (pt_chain op_leA op_leA (pe_int) (pe_callB call_lenA (by rfl) T.b_len (by decide +kernel) (pa_cons (pv 0) (pa_nil))) (pe_int))) (pss_one (ps_ret (pe_bl))) (pss_nil))
    (pss_cons (ps_for po rfl (pi_any (pv 0)) (pg_name (i := 1) sc_is_count.nd rfl (by first | exact .inl rfl | exact .inr rfl)) (pss_one (ps_if (pt_cmpR (op_notInA hu65) (pv 1) (pe_gc (by rfl) T.g_DIGITS) (by rfl)) (pss_one (ps_ret (pe_bl))) (pss_nil))))
    (pss_one (ps_ret (pe_or (pe_cmpR (op_eqA hu64) (pe_callB call_lenA (by rfl) T.b_len (by decide +kernel) (pa_cons (pv 0) (pa_nil))) (pe_int) (nomark _)) (pe_one (pe_cmpR (op_neA hu64) (pe_ix (ix_A hu1) (pv 0) (pe_int) (fun _ _ => rfl)) (pe_str) (nomark _)))))))
/-! numbers_text -/
abbrev s_numbers_text : Stmt := (top 41)
theorem sc_numbers_text : FnScope ["numbers", "number"] ["numbers"] (defScope s_numbers_text) := ⟨rfl, rfl, rfl, by decide +kernel, rfl, by decide +kernel, by decide +kernel⟩
def t_numbers_text (K : PySem.W.Frag) (w : World) (E : XK) : TS :=
    tRet (tIf (tTest (tOp (rEqA K) (tCB (rLenA K) (tCons (tVar 0) (tNil))) (tC (.int 0)))) (tC (.str "end")) (tM1 (rJoinA K) (tC (.str ",")) (tLc (iAny K (tVar 0)) (gName 1) (tYes) (tCB (rStrA) (tCons (tVar 1) (tNil))) [1])))
theorem der_numbers_text (T : Txt K mg) {f : Addr} (cdv : Value) (A : Around) (outer : List Env) (s : Shared) (H : Hp) (E : XK) (hr : Room 0 (A.deeper (envOfC "numbers_text" (defScope s_numbers_text) s.heap.objs.size f cdv))) :
    PSs (cxOf (L2.CX P w) P w K mg base ["numbers", "number"] "numbers_text" (defScope s_numbers_text) f cdv A outer s H E) (defBody s_numbers_text) (t_numbers_text K w E) := by
  have tk := tk_of (P := P) (w := w) (K := K) (mg := mg) (base := base) (N := ["numbers", "number"]) (qual := "numbers_text") (scope := defScope s_numbers_text) (f := f) (cdv := cdv) (A := A) (outer := outer) (s := s) (H := H) (E := E)
  have po := po_of (P := P) (w := w) (K := K) (mg := mg) (base := base) (N := ["numbers", "number"]) (qual := "numbers_text") (scope := defScope s_numbers_text) (f := f) (cdv := cdv) (A := A) (outer := outer) (s := s) (H := H) (E := E)
  have hu1 := hu1_of hr
  have hu64 := hu64_of hr
  have hu65 := hu65_of hr
  unfold t_numbers_text
  exact pss_one (ps_ret (pe_ifExp (pt_cmpR (op_eqA hu64) (pe_callB call_lenA (by rfl) T.b_len (by decide +kernel) (pa_cons (pv 0) (pa_nil))) (pe_int) (nomark _)) (pe_str) (pe_join (pe_str) (pe_lc (own := [("number", 1)]) rfl sc_numbers_text.nd (pi_any (pv 0)) (blkOk_by (own := [("number", 1)]) (N := ["numbers", "number"]) (sc := defScope s_numbers_text) (by decide +kernel)) (fun _ _ _ _ _ => pg_name (i := 1) sc_numbers_text.nd rfl (by first | exact .inl rfl | exact .inr rfl)) (fun _ _ _ _ _ => pts_nil) (fun _ _ _ _ _ => pe_callTy call_strA (by rfl) T.b_str (by decide +kernel) (pa_cons (pv 1) (pa_nil)))))))
/-! numbers_of -/
abbrev s_numbers_of : Stmt := (top 42)
theorem sc_numbers_of : FnScope ["text", "found", "part"] ["text"] (defScope s_numbers_of) := ⟨rfl, rfl, rfl, by decide +kernel, rfl, by decide +kernel, by decide +kernel⟩
def t_numbers_of (K : PySem.W.Frag) (w : World) (E : XK) : TS :=
    tSeq (tIfS (tTest (tOp (rEqA K) (tVar 0) (tC (.str "end")))) (tRet (tTup (tNil))) (tNext))
    (tSeq (tAsg (tLst (tNil)) (gName 1))
    (tSeq (tFor (iAny K (tM1 (rSplitA) (tVar 0) (tC (.str ",")))) (gName 2) (tSeq (tIfS (tAnd (tTest (tOp (rNeA K) (tVar 2) (tC (.str "-1")))) (tNot (tB (tCall (toSp K (S_is_count K)) [] E0 (tCons (tVar 2) (tNil)))))) (tRet (tC .non)) (tNext))
    (tDrop (tBM K "list" rAppend (tVar 1) (tCons (tCB (rIntA) (tCons (tVar 2) (tNil))) (tNil))))))
    (tRet (tCB (rTupleA K) (tCons (tVar 1) (tNil))))))
theorem der_numbers_of (T : Txt K mg) (c_is_count : FnB P w K mg base 1 "is_count" (S_is_count K)) {f : Addr} (cdv : Value) (A : Around) (outer : List Env) (s : Shared) (H : Hp) (E : XK) (hr : Room 1 (A.deeper (envOfC "numbers_of" (defScope s_numbers_of) s.heap.objs.size f cdv))) :
    PSs (cxOf (L2.CX P w) P w K mg base ["text", "found", "part"] "numbers_of" (defScope s_numbers_of) f cdv A outer s H E) (defBody s_numbers_of) (t_numbers_of K w E) := by
  have tk := tk_of (P := P) (w := w) (K := K) (mg := mg) (base := base) (N := ["text", "found", "part"]) (qual := "numbers_of") (scope := defScope s_numbers_of) (f := f) (cdv := cdv) (A := A) (outer := outer) (s := s) (H := H) (E := E)
  have po := po_of (P := P) (w := w) (K := K) (mg := mg) (base := base) (N := ["text", "found", "part"]) (qual := "numbers_of") (scope := defScope s_numbers_of) (f := f) (cdv := cdv) (A := A) (outer := outer) (s := s) (H := H) (E := E)
  have hu1 := hu1_of hr
  have hu64 := hu64_of hr
  have hu65 := hu65_of hr
  unfold t_numbers_of
  exact pss_cons (ps_if (pt_cmpR (op_eqA hu64) (pv 0) (pe_str) (nomark _)) (pss_one (ps_ret (pe_tup (pa_nil)))) (pss_nil))
    (pss_cons (ps_set (i := 1) sc_numbers_of.nd rfl (by first | exact .inl rfl | exact .inr rfl) (pe_lst (pa_nil)))
    (pss_cons (ps_for po rfl (pi_any (pe_split (pv 0) (pe_str))) (pg_name (i := 2) sc_numbers_of.nd rfl (by first | exact .inl rfl | exact .inr rfl)) (pss_cons (ps_if (PW.pt (pw_and (pt_cmpR (op_neA hu64) (pv 2) (pe_str) (nomark _)) (pw_and1 (pt_not (pt_val (pe_fn c_is_count hr (by decide) (by rfl) (pa_cons (pv 2) (pa_nil)))))))) (pss_one (ps_ret (pe_non))) (pss_nil))
    (pss_one (ps_expr (pe_bm PySem.F.plainAttrs_list PySem.F.slot_list_append PySem.F.type_list_append mt_append (pv 1) (pa_cons (pe_callTy call_intA (by rfl) T.b_int (by decide +kernel) (pa_cons (pv 2) (pa_nil))) (pa_nil)))))))
    (pss_one (ps_ret (pe_callTy call_tupleA (by rfl) T.b_tuple (by decide +kernel) (pa_cons (pv 1) (pa_nil)))))))
/-! part_of -/
abbrev s_part_of : Stmt := (top 43)
theorem sc_part_of : FnScope ["sort", "text"] ["sort", "text"] (defScope s_part_of) := ⟨rfl, rfl, rfl, by decide +kernel, rfl, by decide +kernel, by decide +kernel⟩
def t_part_of (K : PySem.W.Frag) (w : World) (E : XK) : TS :=
    tSeq (tIfS (tTest (tOp (rEqA K) (tVar 0) (tC (.str "count")))) (tRet (tIf (tB (tCall (toSp K (S_is_count K)) [] E0 (tCons (tVar 1) (tNil)))) (tCB (rIntA) (tCons (tVar 1) (tNil))) (tC .non))) (tNext))
    (tSeq (tIfS (tTest (tOp (rEqA K) (tVar 0) (tC (.str "name")))) (tRet (tIf (tB (tCall (toSp K (S_is_name K)) [] E0 (tCons (tVar 1) (tNil)))) (tVar 1) (tC .non))) (tNext))
    (tRet (tCall (toSp K (S_numbers_of K)) [] E0 (tCons (tVar 1) (tNil)))))
theorem der_part_of (T : Txt K mg) (c_is_count : FnB P w K mg base 1 "is_count" (S_is_count K)) (c_is_name : FnB P w K mg base 1 "is_name" (S_is_name K)) (c_numbers_of : FnB P w K mg base 2 "numbers_of" (S_numbers_of K)) {f : Addr} (cdv : Value) (A : Around) (outer : List Env) (s : Shared) (H : Hp) (E : XK) (hr : Room 2 (A.deeper (envOfC "part_of" (defScope s_part_of) s.heap.objs.size f cdv))) :
    PSs (cxOf (L2.CX P w) P w K mg base ["sort", "text"] "part_of" (defScope s_part_of) f cdv A outer s H E) (defBody s_part_of) (t_part_of K w E) := by
  have tk := tk_of (P := P) (w := w) (K := K) (mg := mg) (base := base) (N := ["sort", "text"]) (qual := "part_of") (scope := defScope s_part_of) (f := f) (cdv := cdv) (A := A) (outer := outer) (s := s) (H := H) (E := E)
  have po := po_of (P := P) (w := w) (K := K) (mg := mg) (base := base) (N := ["sort", "text"]) (qual := "part_of") (scope := defScope s_part_of) (f := f) (cdv := cdv) (A := A) (outer := outer) (s := s) (H := H) (E := E)
  have hu1 := hu1_of hr
  have hu64 := hu64_of hr
  have hu65 := hu65_of hr
  unfold t_part_of
  exact pss_cons (ps_if (pt_cmpR (op_eqA hu64) (pv 0) (pe_str) (nomark _)) (pss_one (ps_ret (pe_ifExp (pt_val (pe_fn c_is_count hr (by decide) (by rfl) (pa_cons (pv 1) (pa_nil)))) (pe_callTy call_intA (by rfl) T.b_int (by decide +kernel) (pa_cons (pv 1) (pa_nil))) (pe_non)))) (pss_nil))
    (pss_cons (ps_if (pt_cmpR (op_eqA hu64) (pv 0) (pe_str) (nomark _)) (pss_one (ps_ret (pe_ifExp (pt_val (pe_fn c_is_name hr (by decide) (by rfl) (pa_cons (pv 1) (pa_nil)))) (pv 1) (pe_non)))) (pss_nil))
    (pss_one (ps_ret (pe_fn c_numbers_of hr (by decide) (by rfl) (pa_cons (pv 1) (pa_nil))))))
end Lw
end

section
set_option Elab.async false
set_option linter.all false
set_option maxRecDepth 100000
set_option maxHeartbeats 4000000
namespace Lw
open PySem PySem.Spec PyProof.Rows L2 Evl
section
variable {K : PySem.W.Frag} {w : World} {E : XK} {X : Addr → List (Str × Dt) → Mem → Prop} {Q : Dt → Mem → Prop}
abbrev retE (Q : Dt → Mem → Prop) : EndD := { nx := fun _ M' => Q .non M', rt := Q }
theorem line_le {x : Str} {n : Nat} (h : x.length ≤ n) (hn : n ≤ 16777216 := by decide) : x.length ≤ sizeLine := by
  rw [show sizeLine = 16777216 from sizeLine_eq]
  omega
theorem atI_nat {α : Type} {xs : List α} {n : Nat} {x : α} (h : xs[n]? = some x) : atI xs (n : Int) = some x := by
  have hn : n < xs.length := (List.getElem?_eq_some_iff.mp h).1
  unfold atI ixN
  rw [if_pos (by omega), if_pos (by omega)]
  simpa using h
theorem sign_at {x : Str} {i : Nat} {d : Dt} (h : (signs x)[i]? = some d) : ∃ c, x.cps.toList[i]? = some c ∧ d = .str ⟨#[c]⟩ := by
  unfold signs at h
  rw [List.getElem?_map] at h
  obtain ⟨c, h1, h2⟩ := Option.map_eq_some_iff.mp h
  exact ⟨c, h1, h2.symm⟩
/-- the loop that leaves at a sign that is not in z -/
theorem signs_loop {Z : Cq} {x z : Str} {P : EndD} {i1 i0 : Nat} {Γ0 : Gam} (h0 : Γ0[i0]? = some (some (.str x))) (hne : i0 ≠ i1) (hl : i1 < Γ0.length) (hF : ¬ (x.cps.toList.all fun c => decide (c ∈ z.cps.toList)) = true → P.rt (.bl false) [])
    (hT : (x.cps.toList.all fun c => decide (c ∈ z.cps.toList)) = true → ∀ Γ', Γ'[i0]? = some (some (.str x)) → P.nx Γ' []) :
    RnD Z (tFor (iAny Z.K (tVar i0)) (gName i1) (tIfS (tTest (tOp (rNotInA Z.K) (tVar i1) (tC (.str z)))) (tRet (tC (.bl false))) (tNext))) Γ0 [] P := by
  refine rn_for (it_any (ev_var h0 ⟨signs x, rfl, fun i Γ' M' => M' = [] ∧ Γ'[i0]? = some (some (.str x)) ∧ i1 < Γ'.length ∧ ∀ j c, j < i → x.cps.toList[j]? = some c → c ∈ z.cps.toList, ⟨rfl, h0, hl, fun j c h => absurd h (Nat.not_lt_zero _)⟩, ?_, ?_⟩))
  · rintro i d Γ' M' hd ⟨rfl, hg, hl', iv⟩
    obtain ⟨c, hc, rfl⟩ := sign_at hd
    refine gt_name (rn_if (tt_test (ev_op (ev_var (d := .str ⟨#[c]⟩) (by rw [List.getElem?_set_self hl']) (ev_str (od_notInSg ⟨_, rfl, ifND (fun h => ?_) fun h => ?_⟩))))))
    · refine rn_ret (ev_bl (hF fun z => h ?_))
      exact of_decide_eq_true (List.all_eq_true.mp z c (List.mem_of_getElem? hc))
    · refine rn_next ⟨rfl, by rw [List.getElem?_set_ne (Ne.symm hne)]; exact hg, by rw [List.length_set]; exact hl', fun j e hj he => ?_⟩
      by_cases q : j < i
      · exact iv j e q he
      · have : j = i := by omega
        subst this
        rw [hc] at he
        cases he
        exact h
  · rintro Γ' M' ⟨rfl, hg, hl', iv⟩
    refine hT (List.all_eq_true.mpr fun c hc => decide_eq_true ?_) Γ' hg
    obtain ⟨j, hj⟩ := List.getElem?_of_mem hc
    refine iv j c ?_ hj
    have := (List.getElem?_eq_some_iff.mp hj).1
    simpa [signs] using this
theorem rd_is_name {ds : List Dt} {M : Mem} (h : S_is_name K ds M Q X) : RnD ⟨K, E, X⟩ (t_is_name K w E) (startG ["text", "sign"] ds) M (retE Q) := by
  obtain ⟨rfl, d, hr, q⟩ := h
  cases hr with
  | mk x hx =>
    unfold t_is_name
    have hlen : x.cps.toList.length = x.length := Array.length_toList
    refine rn_seq (rn_if (tt_not (tt_test (ev_chain (ev_int (ev_cb (ar_cons (ev_var rfl (ar_nil (cd_lenS (line_le hx) (od_le ⟨_, rfl, ifD (fun h1 => ev_int (od_le ⟨_, rfl, ifND (fun h2 => ?_) fun h2 => ?_⟩)) fun h1 => ⟨false, rfl, ?_⟩⟩))))))))))) 
    · refine rn_ret (ev_bl ?_)
      rw [show isNameB x = false by unfold isNameB; rw [decide_eq_false (by omega)]; rfl] at q
      exact q
    · refine rn_next (rn_seq (signs_loop (x := x) (z := lettersT) (i0 := 0) (i1 := 1) rfl (by decide) (by show 1 < 2; decide) (fun h => ?_) fun h Γ' hg => ?_))
      · rw [show isNameB x = false by unfold isNameB; rw [Bool.eq_false_iff.mpr h, Bool.and_false]] at q
        exact q
      · refine rn_ret (ev_bl ?_)
        rw [show isNameB x = true by unfold isNameB; rw [h, decide_eq_true (by omega)]; rfl] at q
        exact q
    · refine ifT (rn_ret (ev_bl ?_))
      rw [show isNameB x = false by unfold isNameB; rw [decide_eq_false (by omega)]; rfl] at q
      exact q
theorem rd_is_count {ds : List Dt} {M : Mem} (h : S_is_count K ds M Q X) : RnD ⟨K, E, X⟩ (t_is_count K w E) (startG ["text", "sign"] ds) M (retE Q) := by
  obtain ⟨rfl, d, hr, q⟩ := h
  cases hr with
  | mk x hx =>
    unfold t_is_count
    have hlen : x.cps.toList.length = x.length := Array.length_toList
    refine rn_seq (rn_if (tt_not (tt_test (ev_chain (ev_int (ev_cb (ar_cons (ev_var rfl (ar_nil (cd_lenS (line_le hx) (od_le ⟨_, rfl, ifD (fun h1 => ev_int (od_le ⟨_, rfl, ifND (fun h2 => ?_) fun h2 => ?_⟩)) fun h1 => ⟨false, rfl, ?_⟩⟩))))))))))) 
    · refine rn_ret (ev_bl ?_)
      rw [show isCountB x = false by unfold isCountB; rw [decide_eq_false (by omega)]; rfl] at q
      exact q
    · refine rn_next (rn_seq (signs_loop (x := x) (z := digitsT) (i0 := 0) (i1 := 1) rfl (by decide) (by show 1 < 2; decide) (fun h => ?_) fun h Γ' hg => ?_))
      · rw [show isCountB x = false by unfold isCountB; rw [Bool.eq_false_iff.mpr h]; simp] at q
        exact q
      · have e0 : isCountB x = (decide (x.length = 1) || !decide (x.cps.toList.head? = some 48)) := by
          unfold isCountB
          rw [h, decide_eq_true (by omega)]
          rfl
        rw [e0] at q
        refine rn_ret (ev_orV (ev_op (ev_cb (ar_cons (ev_var hg (ar_nil (cd_lenS (line_le hx) (ev_int (od_eqI ⟨_, rfl, ifD (fun h3 => ?_) fun h3 => ?_⟩)))))))))
        · rw [decide_eq_true (by omega), Bool.true_or] at q
          exact q
        · rw [decide_eq_false (by omega), Bool.false_or] at q
          cases hc : x.cps.toList with
          | nil =>
            rw [hc] at hlen
            simp at hlen
            omega
          | cons c r =>
            refine ev_op (ev_op (ev_var hg (ev_int (od_ixS (c := c) (line_le hx) (by rw [hc]; exact atI_nat (n := 0) rfl) (ev_str (od_neS ?_))))))
            rw [hc] at q
            rw [show decide ((⟨#[c]⟩ : Str) = "0") = decide ((c :: r).head? = some 48) from decide_eq_decide.mpr ⟨fun e => ?_, fun e => ?_⟩]
            · exact q
            · have e2 : (⟨#[c]⟩ : Str) = ⟨#[48]⟩ := e.trans (by decide +kernel)
              have e3 : #[c] = #[48] := congrArg Str.cps e2
              have e4 : [c] = [48] := congrArg Array.toList e3
              rw [(List.cons.inj e4).1]
              rfl
            · have e2 : c = 48 := Option.some.inj e
              rw [e2]
              decide +kernel
    · refine ifT (rn_ret (ev_bl ?_))
      rw [show isCountB x = false by unfold isCountB; rw [decide_eq_false (by omega)]; rfl] at q
      exact q
/-- [e for x in xs], no memory -/
theorem ev_map {Z : Cq} {Γ : Gam} {M : Mem} {Q : Dt → Mem → Prop} {wi : TI} {g : TG} {te : TE} {vs : List Nat} (f : Dt → Dt) (hg : GFix g vs) (h : ItD Z wi Γ M fun ds M1 => ds.length ≤ sizeLine ∧
    (∀ (i : Nat) (d : Dt), ds[i]? = some d → GtD Z.quiet g d (wipeG Γ vs) M1 fun Γ2 M2 => EvD Z.quiet te Γ2 M2 fun e M3 => e = f d ∧ M3 = M1) ∧ Q (.lst (ds.map f)) M1) : EvD Z (tLc wi g tYes te vs) Γ M Q :=
  ev_lc hg fun F W H σ gk s R k => h F W H σ gk s R fun ds M1 J W' H' ⟨hl, hs, q⟩ => k ds M1 J W' H' ⟨hl, fun i acc M' => M' = M1 ∧ acc = (ds.take i).map f, ⟨rfl, rfl⟩, fun i d acc M' hd ⟨em, ea⟩ => by
    subst em ea
    have lt := (List.getElem?_eq_some_iff.mp hd).1
    exact fun F W H σ v gk s dv R k => hs i d hd F W H σ v gk s dv R fun Γ2 M2 σ2 W2 H2 q2 e2 g2 s2 => k Γ2 M2 σ2 W2 H2 (fun F W H σ gk s R k => k true M2 W H (ifT fun F W H σ gk s R k => q2 F W H σ gk s R fun e M3 v W3 H3 q3 => k e M3 v W3 H3 ⟨q3.2, by
      rw [List.take_succ, hd, q3.1]
      simp⟩) (Ex.refl W) s) e2 g2 s2, fun acc M' ⟨em, ea⟩ => by
    subst em ea
    rw [List.take_length]
    exact q⟩
theorem rd_joined {ds : List Dt} {M : Mem} (h : S_joined K ds M Q X) : RnD ⟨K, E, X⟩ (t_joined K w E) (startG ["parts", "part"] ds) M (retE Q) := by
  obtain ⟨rfl, d, hr, q⟩ := h
  cases hr with
  | mk es d0 h0 he hl =>
    unfold t_joined
    have hl2 : es.length ≤ sizeLine := by
      rw [show sizeLine = 16777216 from sizeLine_eq]
      omega
    refine rn_ret (ev_join (ev_str ⟨" ", rfl, ev_map (fun e => .str (strT e)) (gfix_name (by decide)) (it_any (ev_var rfl ⟨es, by rcases h0 with rfl | rfl <;> rfl, hl2, fun i e hi => ?_, es.map strT, by rw [List.map_map]; rfl, ?_, q⟩))⟩))
    · refine gt_name (ev_cb (ar_cons (ev_var (d := e) rfl (ar_nil ?_))))
      rcases he e (List.mem_of_getElem? hi) with ⟨x, rfl, _⟩ | ⟨n, rfl, hn⟩
      · exact cd_strS ⟨rfl, rfl⟩
      · exact cd_strI (log_ok hn) ⟨rfl, rfl⟩
    · have h1 := sum_le ((es.map strT).map (·.length)) 1000 fun x hx => by
        obtain ⟨y, hy, rfl⟩ := List.mem_map.mp hx
        obtain ⟨e, hm, rfl⟩ := List.mem_map.mp hy
        rcases he e hm with ⟨x, rfl, hx3⟩ | ⟨n, rfl, hn⟩
        · exact hx3
        · have : (strT (.int n)).length ≤ 5 := (numT_len hn).2
          omega
      have h3 : (" " : Str).length = 1 := by decide +kernel
      rw [h3]
      simp only [List.length_map] at h1 ⊢
      omega
theorem rd_numbers_text {ds : List Dt} {M : Mem} (h : S_numbers_text K ds M Q X) : RnD ⟨K, E, X⟩ (t_numbers_text K w E) (startG ["numbers", "number"] ds) M (retE Q) := by
  obtain ⟨rfl, d, hr, q⟩ := h
  cases hr with
  | mk ns hn =>
    unfold t_numbers_text
    refine rn_ret (ev_if (tt_test (ev_op (ev_cb (ar_cons (ev_var (d := tupI ns) rfl (ar_nil (cd_lenT (ev_int (od_eqI ⟨_, rfl, ifD (fun h1 => ?_) fun h1 => ?_⟩))))))))))
    · refine ev_str ?_
      have : ns = [] := List.eq_nil_of_length_eq_zero (by simpa using h1)
      subst this
      exact q
    · have hne : ns ≠ [] := fun e => h1 (by rw [e]; rfl)
      refine ev_join (ev_str ⟨",", rfl, ev_map (fun e => .str (strT e)) (gfix_name (by decide)) (it_any (ev_var (d := tupI ns) rfl ⟨ns.map Dt.int, rfl, ?_, fun i e hi => ?_, ns.map numT, by rw [List.map_map, List.map_map]; rfl, ?_, ?_⟩))⟩)
      · rw [List.length_map, show sizeLine = 16777216 from sizeLine_eq]
        have := hn.2
        omega
      · rw [List.getElem?_map] at hi
        obtain ⟨n, hn1, rfl⟩ := Option.map_eq_some_iff.mp hi
        exact gt_name (ev_cb (ar_cons (ev_var (d := .int n) rfl (ar_nil (cd_strI (log_ok (hn.1 n (List.mem_of_getElem? hn1))) ⟨rfl, rfl⟩)))))
      · have h1 := sum_le ((ns.map numT).map (·.length)) 5 fun x hx => by
          obtain ⟨y, hy, rfl⟩ := List.mem_map.mp hx
          obtain ⟨n, hm, rfl⟩ := List.mem_map.mp hy
          exact (numT_len (hn.1 n hm)).2
        have h2 := hn.2
        have h3 : ("," : Str).length = 1 := by decide +kernel
        rw [h3]
        simp only [List.length_map] at h1 ⊢
        omega
      · rw [← part_cons hne]
        exact q
theorem split_len {ns : List Int} (h : numsOk ns) : (partT ns).length + 2 ≤ sizeLine := by
  have := part_len h
  rw [show sizeLine = 16777216 from sizeLine_eq]
  omega
theorem isCount_num {n : Int} (h : cntOk n) : isCountB (numT n) = true := by
  obtain ⟨h1, h2, h3, h4⟩ := numT_cnt h
  unfold isCountB
  rw [decide_eq_true ⟨h1, h2⟩, Bool.true_and, Bool.and_eq_true]
  refine ⟨List.all_eq_true.mpr fun c hc => decide_eq_true ?_, ?_⟩
  · have := h3 c hc
    have hd : digitsT.cps.toList = [48, 49, 50, 51, 52, 53, 54, 55, 56, 57] := by decide +kernel
    rw [hd]
    have : c = 48 ∨ c = 49 ∨ c = 50 ∨ c = 51 ∨ c = 52 ∨ c = 53 ∨ c = 54 ∨ c = 55 ∨ c = 56 ∨ c = 57 := by omega
    rcases this with rfl | rfl | rfl | rfl | rfl | rfl | rfl | rfl | rfl | rfl <;> simp
  · rcases h4 with h4 | ⟨c, r, e, hc⟩
    · rw [h4]
      rfl
    · rw [e]
      have : decide ((c :: r).head? = some 48) = false := decide_eq_false fun z => hc (Option.some.inj z)
      rw [this]
      simp
theorem rd_numbers_of {ds : List Dt} {M : Mem} (h : S_numbers_of K ds M Q X) : RnD ⟨K, E, X⟩ (t_numbers_of K w E) (startG ["text", "found", "part"] ds) M (retE Q) := by
  obtain ⟨rfl, d, hr, q⟩ := h
  cases hr with
  | mk ns hn =>
    unfold t_numbers_of
    refine rn_seq (rn_if (tt_test (ev_op (ev_var (d := .str (partT ns)) rfl (ev_str (od_eqS ⟨_, rfl, ifD (fun h1 => ?_) fun h1 => ?_⟩))))))
    · have : ns = [] := by
        by_cases z : ns = []
        · exact z
        · exact absurd h1 (part_ne_end hn z)
      subst this
      exact rn_ret (ev_tup (ar_nil ⟨by decide, q⟩))
    · have hne : ns ≠ [] := fun e => h1 (by rw [e]; rfl)
      refine rn_next (rn_seq (rn_asg (ev_lstM (ar_nil ⟨by decide, fun p => gt_name ?_⟩))))
      refine rn_seq (rn_for (it_any (ev_split (ev_var (d := .str (partT ns)) rfl ⟨partT ns, rfl, ev_str ⟨",", rfl, by decide +kernel, split_len hn, _, rfl, fun i Γ' M' => M' = [(p, .lst ((ns.take i).map Dt.int))] ∧ Γ'.length = 3 ∧ Γ'[1]? = some (some (.ref p)), ⟨rfl, rfl, rfl⟩, ?_, ?_⟩⟩))))
      · rintro i d Γ' M' hd ⟨rfl, hl, hg⟩
        rw [part_split hne, List.getElem?_map] at hd
        obtain ⟨y, hy, rfl⟩ := Option.map_eq_some_iff.mp hd
        rw [List.getElem?_map] at hy
        obtain ⟨n, hi, rfl⟩ := Option.map_eq_some_iff.mp hy
        have hok := hn.1 n (List.mem_of_getElem? hi)
        have g2 : (Γ'.set 2 (some (.str (numT n))))[2]? = some (some (.str (numT n))) := by rw [List.getElem?_set_self (by omega)]
        have g1 : (Γ'.set 2 (some (.str (numT n))))[1]? = some (some (.ref p)) := by rw [List.getElem?_set_ne (by decide)]; exact hg
        have fin : ∀ P : EndD, (∀ Γ', Γ'.length = 3 ∧ Γ'[1]? = some (some (.ref p)) → P.nx Γ' [(p, .lst ((ns.take (i + 1)).map Dt.int))]) → RnD ⟨K, E, X⟩ (tDrop (tBM K "list" rAppend (tVar 1) (tCons (tCB rIntA (tCons (tVar 2) tNil)) tNil))) (Γ'.set 2 (some (.str (numT n)))) [(p, .lst ((ns.take i).map Dt.int))] P := fun P k => by
          refine rn_drop (ev_append (n := 0) (ds := (ns.take i).map Dt.int) (ev_var g1 ⟨rfl, rfl, ar_cons (ev_cb (ar_cons (ev_var g2 (ar_nil (cd_intS (numT_reads hok) (by have := (numT_len hok).2; omega) (ar_nil ⟨_, _, rfl, rfl, ?_, ?_⟩))))))⟩))
          · rw [List.length_map, List.length_take, show sizeLine = 16777216 from sizeLine_eq]
            have := hn.2
            omega
          · have e : (ns.take i).map Dt.int ++ [Dt.int n] = (ns.take (i + 1)).map Dt.int := by
              rw [List.take_succ, hi, List.map_append]
              rfl
            show P.nx _ [(p, MO.lst ((ns.take i).map Dt.int ++ [Dt.int n]))]
            rw [e]
            exact k _ ⟨by rw [List.length_set]; exact hl, g1⟩
        refine gt_name (rn_seq (rn_if (tt_and (tt_test (ev_op (ev_var g2 (ev_str (od_neS ⟨_, rfl, ifND (fun h2 => ?_) fun h2 => ?_⟩))))))))
        · have hc : cntOk n := by
            refine ⟨?_, hok.2⟩
            have := hok.1
            by_cases z : n = -1
            · rw [z, numT_neg] at h2
              exact absurd rfl h2
            · omega
          refine tt_not (tt_B (ev_rel (ar_cons (ev_var g2 (ar_nil ⟨_, .mk (numT n) (by have := (numT_len hok).2; omega), _, rfl, ?_⟩)))))
          rw [isCount_num hc]
          exact rn_next (fin _ fun Γ' z => ⟨rfl, z⟩)
        · exact ifF (rn_next (fin _ fun Γ' z => ⟨rfl, z⟩))
      · rintro Γ' M' ⟨rfl, hl, hg⟩
        refine rn_ret (ev_forget (ev_cb (ar_cons (ev_var hg (ar_nil (cd_tupM (n := 0) rfl ⟨p, _, [], .refl _, ?_⟩))))))
        rw [part_split hne, List.length_map, List.length_map, List.take_length]
        exact q
theorem rd_part_of {ds : List Dt} {M : Mem} (h : S_part_of K ds M Q X) : RnD ⟨K, E, X⟩ (t_part_of K w E) (startG ["sort", "text"] ds) M (retE Q) := by
  obtain ⟨rfl, d, hr, q⟩ := h
  cases hr with
  | mk s t d hp =>
    unfold t_part_of
    cases hp with
    | cnt n hn =>
      refine rn_seq (rn_if (tt_test (ev_op (ev_var (d := .str "count") rfl (ev_str (od_eqS ⟨_, rfl, ifD (fun _ => ?_) fun z => absurd rfl z⟩))))))
      refine rn_ret (ev_if (tt_B (ev_rel (ar_cons (ev_var (d := .str (numT n)) rfl (ar_nil ⟨_, .mk (numT n) (by have := (numT_cnt hn).2.1; omega), _, rfl, ?_⟩))))))
      rw [isCount_num hn]
      exact ifT (ev_cb (ar_cons (ev_var (d := .str (numT n)) rfl (ar_nil (cd_intS (numT_reads ⟨by have := hn.1; omega, hn.2⟩) (by have := (numT_cnt hn).2.1; omega) q)))))
    | nam x hx =>
      have hl : t.length ≤ 1000 := by
        unfold isNameB at hx
        rw [Bool.and_eq_true] at hx
        have := of_decide_eq_true hx.1
        omega
      refine rn_seq (rn_if (tt_test (ev_op (ev_var (d := .str "name") rfl (ev_str (od_eqS ⟨_, rfl, ifD (fun z => absurd z (by decide +kernel)) fun _ => ?_⟩))))))
      refine rn_next (rn_seq (rn_if (tt_test (ev_op (ev_var (d := .str "name") rfl (ev_str (od_eqS ⟨_, rfl, ifD (fun _ => ?_) fun z => absurd rfl z⟩)))))))
      refine rn_ret (ev_if (tt_B (ev_rel (ar_cons (ev_var (d := .str t) rfl (ar_nil ⟨_, .mk t hl, _, rfl, ?_⟩))))))
      rw [hx]
      exact ifT (ev_var rfl q)
    | num ns hn =>
      refine rn_seq (rn_if (tt_test (ev_op (ev_var (d := .str "numbers") rfl (ev_str (od_eqS ⟨_, rfl, ifD (fun z => absurd z (by decide +kernel)) fun _ => ?_⟩))))))
      refine rn_next (rn_seq (rn_if (tt_test (ev_op (ev_var (d := .str "numbers") rfl (ev_str (od_eqS ⟨_, rfl, ifD (fun z => absurd z (by decide +kernel)) fun _ => ?_⟩)))))))
      exact rn_next (rn_ret (ev_rel (ar_cons (ev_var (d := .str (partT ns)) rfl (ar_nil ⟨_, .mk ns hn, q⟩)))))
end
end Lw
end

section
set_option Elab.async false
set_option linter.all false
set_option maxRecDepth 100000
set_option maxHeartbeats 4000000
namespace Lw
open PySem PySem.Spec PyProof.Rows L2 Evl

/-! ### papers -/
def lineD (ws : List Str) : Dt := .lst (ws.map Dt.str)
def linesD (ls : List (List Str)) : Dt := .lst (ls.map lineD)
def paperForms : List (Str × List Str) := [("machine", ["machine", "count"]), ("tie", ["tie", "numbers", "numbers", "numbers"]), ("beneath", ["beneath", "numbers", "count"]), ("run", ["run", "count"]), ("ring", ["ring", "count"]), ("loop", ["loop", "count"]), ("ask", ["ask", "count", "name"])]
structure Tabs (K : PySem.W.Frag) (w : World) : Prop where
  pl : ∀ q ∈ paperForms, ∀ W, ∃ v, KDct K w (He.ga K "PAPER_LINES") q.1 v ∧ DV K W v (.tq (q.2.map Dt.str))
inductive PartsR : List Str → List Str → List Dt → Prop
  | nil : PartsR [] [] []
  | cons {s t : Str} {d : Dt} {ss ts : List Str} {ds : List Dt} : PartR s t d → PartsR ss ts ds → PartsR (s :: ss) (t :: ts) (d :: ds)
inductive R_values_at : List Dt → Dt → Prop
  | mk (ls : List (List Str)) (i : Nat) (word : Str) (sorts ws : List Str) (vals : List Dt) (h1 : ls[i]? = some (word :: ws)) (h2 : (word, word :: sorts) ∈ paperForms) (h3 : PartsR sorts ws vals) : R_values_at [linesD ls, .int i, .str word] (.lst vals)
def S_values_at (_ : PySem.W.Frag) := relS R_values_at
inductive BlockR (word : Str) (sorts : List Str) : List (List Str) → List Dt → Prop
  | nil : BlockR word sorts [] []
  | cons {ws : List Str} {vals : List Dt} {bl : List (List Str)} {ds : List Dt} : PartsR sorts ws vals → BlockR word sorts bl ds → BlockR word sorts ((word :: ws) :: bl) (.tup vals :: ds)
/-- the first line of these, if any, begins with another word -/
def Other (word : Str) (post : List (List Str)) : Prop := ∀ l r, post = l :: r → ∃ x xs, l = x :: xs ∧ x ≠ word
inductive R_rows_from : List Dt → Dt → Prop
  | mk (pre bl post : List (List Str)) (word : Str) (sorts : List Str) (ds : List Dt) (h1 : BlockR word sorts bl ds) (h2 : (word, word :: sorts) ∈ paperForms) (h3 : Other word post) (h4 : bl.length ≤ 1000) :
      R_rows_from [linesD (pre ++ (bl ++ post)), .int (pre.length : Nat), .str word] (.lst ds)
def S_rows_from (_ : PySem.W.Frag) := relS R_rows_from
/-! runs -/
def momD (p : Int × Str) : Dt := .tup [.int p.1, .str p.2]
def momsOk (ms : List (Int × Str)) : Prop := (∀ p ∈ ms, cntOk p.1 ∧ isNameB p.2 = true) ∧ ms.length ≤ 1000
def askW (p : Int × Str) : List Str := ["ask", numT p.1, p.2]
def runF (ms : List (Int × Str)) (st : Int) : List (Str × Dt) := [("moments", .tup (ms.map momD)), ("steps", .int st)]
def runD (K : PySem.W.Frag) (ms : List (Int × Str)) (st : Int) : Dt := .ins (He.ga K "Run") (runF ms st)
inductive R_Run_init : List Dt → List (Str × Dt) → Prop
  | mk (ms : List (Int × Str)) (st : Int) (h : ms.length ≤ 1000) : R_Run_init [.lst (ms.map momD), .int st] (runF ms st)
def S_Run_init (K : PySem.W.Frag) := initS (He.ga K "Run") R_Run_init
inductive R_run_from (K : PySem.W.Frag) : List Dt → Dt → Prop
  | mk (pre post : List (List Str)) (word : Str) (ms : List (Int × Str)) (st : Int) (h1 : cntOk st) (h2 : momsOk ms) (h3 : Other "ask" post) (h4 : word = "run" ∨ word = "ring" ∨ word = "loop") :
      R_run_from K [linesD (pre ++ ([word, numT st] :: (ms.map askW ++ post))), .int (pre.length : Nat), .str word] (runD K ms st)
def S_run_from (K : PySem.W.Frag) := relS (R_run_from K)
structure Clss (K : PySem.W.Frag) : Prop where
  cRun : Cls K (He.ga K "Run")
  cRing : Cls K (He.ga K "Ring")
  cHeights : Cls K (He.ga K "Heights")
  cMachine : Cls K (He.ga K "Machine")
  nMoments : NoAttr K (He.ga K "Run") "moments"
  nSteps : NoAttr K (He.ga K "Run") "steps"
  nLead : NoAttr K (He.ga K "Ring") "lead"
  nLoop : NoAttr K (He.ga K "Ring") "loop"
  nMach : NoAttr K (He.ga K "Heights") "machine"
  nBeneath : NoAttr K (He.ga K "Heights") "beneath"
  nWidth : NoAttr K (He.ga K "Machine") "width"
  nTotal : NoAttr K (He.ga K "Machine") "total"
  nTable : NoAttr K (He.ga K "Machine") "table"
end Lw
end

section
set_option Elab.async false
set_option linter.all false
set_option maxRecDepth 100000
set_option maxHeartbeats 4000000
namespace Lw
open PySem PySem.Spec PyProof.Rows L2 Evl
open C8 (pe_gc)
variable {P : Program} {w : World} {K : PySem.W.Frag} {mg : Str → Option Value} {base : Heap}
/-! values_at -/
abbrev s_values_at : Stmt := (top 44)
theorem sc_values_at : FnScope ["lines", "index", "word", "form", "found", "sort", "text", "value"] ["lines", "index", "word"] (defScope s_values_at) := ⟨rfl, rfl, rfl, by decide +kernel, rfl, by decide +kernel, by decide +kernel⟩
def t_values_at (K : PySem.W.Frag) (w : World) (E : XK) : TS :=
    tSeq (tAsg (tOp (rIxA K w) (tC (.ref (He.ga K "PAPER_LINES"))) (tVar 2)) (gName 3))
    (tSeq (tIfS (tOr (tTest (tOp (rGeA) (tVar 1) (tCB (rLenA K) (tCons (tVar 0) (tNil))))) (tOr (tTest (tOp (rNeA K) (tOp (rIxA K w) (tOp (rIxA K w) (tVar 0) (tVar 1)) (tC (.int 0))) (tVar 2))) (tTest (tOp (rNeA K) (tCB (rLenA K) (tCons (tOp (rIxA K w) (tVar 0) (tVar 1)) (tNil))) (tCB (rLenA K) (tCons (tVar 3) (tNil))))))) (tNever) (tNext))
    (tSeq (tAsg (tLst (tNil)) (gName 4))
    (tSeq (tFor (iZipX K (tCons (tSl (rSlAll K) (tVar 3) (tPart (tC (.int 1))) (tNoPart)) (tCons (tSl (rSlAll K) (tOp (rIxA K w) (tVar 0) (tVar 1)) (tPart (tC (.int 1))) (tNoPart)) (tNil)))) (gTup K 2 (gCons (gName 5) (gCons (gName 6) (gNil)))) (tSeq (tAsg (tCall (toSp K (S_part_of K)) [] E0 (tCons (tVar 5) (tCons (tVar 6) (tNil)))) (gName 7))
    (tSeq (tIfS (tB (tIsN (tVar 7))) (tNever) (tNext))
    (tDrop (tBM K "list" rAppend (tVar 4) (tCons (tVar 7) (tNil)))))))
    (tRet (tVar 4)))))
theorem der_values_at (T : Txt K mg) (c_part_of : FnB P w K mg base 3 "part_of" (S_part_of K)) {f : Addr} (cdv : Value) (A : Around) (outer : List Env) (s : Shared) (H : Hp) (E : XK) (hr : Room 3 (A.deeper (envOfC "values_at" (defScope s_values_at) s.heap.objs.size f cdv))) :
    PSs (cxOf (L2.CX P w) P w K mg base ["lines", "index", "word", "form", "found", "sort", "text", "value"] "values_at" (defScope s_values_at) f cdv A outer s H E) (defBody s_values_at) (t_values_at K w E) := by
  have tk := tk_of (P := P) (w := w) (K := K) (mg := mg) (base := base) (N := ["lines", "index", "word", "form", "found", "sort", "text", "value"]) (qual := "values_at") (scope := defScope s_values_at) (f := f) (cdv := cdv) (A := A) (outer := outer) (s := s) (H := H) (E := E)
  have po := po_of (P := P) (w := w) (K := K) (mg := mg) (base := base) (N := ["lines", "index", "word", "form", "found", "sort", "text", "value"]) (qual := "values_at") (scope := defScope s_values_at) (f := f) (cdv := cdv) (A := A) (outer := outer) (s := s) (H := H) (E := E)
  have hu1 := hu1_of hr
  have hu64 := hu64_of hr
  have hu65 := hu65_of hr
  unfold t_values_at
  exact pss_cons (ps_set (i := 3) sc_values_at.nd rfl (by first | exact .inl rfl | exact .inr rfl) (pe_ix (ix_A hu1) (pe_gc (by rfl) T.g_PAPER_LINES) (pv 2) (fun _ _ => rfl)))
    (pss_cons (ps_if (PW.pt (pw_or (pt_cmpR op_geA (pv 1) (pe_callB call_lenA (by rfl) T.b_len (by decide +kernel) (pa_cons (pv 0) (pa_nil))) (nomark _)) (pw_or (pt_cmpR (op_neA hu64) (pe_ix (ix_A hu1) (pe_ix (ix_A hu1) (pv 0) (pv 1) (fun _ _ => rfl)) (pe_int) (fun _ _ => rfl)) (pv 2) (nomark _)) (pw_or1 (pt_cmpR (op_neA hu64) (pe_callB call_lenA (by rfl) T.b_len (by decide +kernel) (pa_cons (pe_ix (ix_A hu1) (pv 0) (pv 1) (fun _ _ => rfl)) (pa_nil))) (pe_callB call_lenA (by rfl) T.b_len (by decide +kernel) (pa_cons (pv 3) (pa_nil))) (nomark _)))))) (pss_one (ps_never)) (pss_nil))
    (pss_cons (ps_set (i := 4) sc_values_at.nd rfl (by first | exact .inl rfl | exact .inr rfl) (pe_lst (pa_nil)))
    (pss_cons (ps_for po rfl (pi_zipX (by rfl) T.b_zip (pa_cons (pe_slice sl_all (pv 3) (po_some (pe_int)) (po_none)) (pa_cons (pe_slice sl_all (pe_ix (ix_A hu1) (pv 0) (pv 1) (fun _ _ => rfl)) (po_some (pe_int)) (po_none)) (pa_nil)))) (pg_tup rfl (pgs_cons (pg_name (i := 5) sc_values_at.nd rfl (by first | exact .inl rfl | exact .inr rfl)) (pgs_cons (pg_name (i := 6) sc_values_at.nd rfl (by first | exact .inl rfl | exact .inr rfl)) (pgs_nil)))) (pss_cons (ps_set (i := 7) sc_values_at.nd rfl (by first | exact .inl rfl | exact .inr rfl) (pe_fn c_part_of hr (by decide) (by rfl) (pa_cons (pv 5) (pa_cons (pv 6) (pa_nil)))))
    (pss_cons (ps_if (pt_cmp (pc_isN (pv 7)) rfl) (pss_one (ps_never)) (pss_nil))
    (pss_one (ps_expr (pe_bm PySem.F.plainAttrs_list PySem.F.slot_list_append PySem.F.type_list_append mt_append (pv 4) (pa_cons (pv 7) (pa_nil))))))))
    (pss_one (ps_ret (pv 4))))))
/-! rows_from -/
abbrev s_rows_from : Stmt := (top 45)
theorem sc_rows_from : FnScope ["lines", "index", "word", "found"] ["lines", "index", "word"] (defScope s_rows_from) := ⟨rfl, rfl, rfl, by decide +kernel, rfl, by decide +kernel, by decide +kernel⟩
def t_rows_from (K : PySem.W.Frag) (w : World) (E : XK) : TS :=
    tSeq (tAsg (tLst (tNil)) (gName 3))
    (tSeq (tWhile (tAnd (tTest (tOp (rLtA) (tVar 1) (tCB (rLenA K) (tCons (tVar 0) (tNil))))) (tTest (tOp (rEqA K) (tOp (rIxA K w) (tOp (rIxA K w) (tVar 0) (tVar 1)) (tC (.int 0))) (tVar 2)))) (tSeq (tDrop (tBM K "list" rAppend (tVar 3) (tCons (tCB (rTupleA K) (tCons (tCall (toSp K (S_values_at K)) [] E0 (tCons (tVar 0) (tCons (tVar 1) (tCons (tVar 2) (tNil))))) (tNil))) (tNil))))
    (tAug 1 (tC (.int 1)) (ipI fun i j => i + j))))
    (tRet (tVar 3)))
theorem der_rows_from (T : Txt K mg) (c_values_at : FnB P w K mg base 4 "values_at" (S_values_at K)) {f : Addr} (cdv : Value) (A : Around) (outer : List Env) (s : Shared) (H : Hp) (E : XK) (hr : Room 4 (A.deeper (envOfC "rows_from" (defScope s_rows_from) s.heap.objs.size f cdv))) :
    PSs (cxOf (L2.CX P w) P w K mg base ["lines", "index", "word", "found"] "rows_from" (defScope s_rows_from) f cdv A outer s H E) (defBody s_rows_from) (t_rows_from K w E) := by
  have tk := tk_of (P := P) (w := w) (K := K) (mg := mg) (base := base) (N := ["lines", "index", "word", "found"]) (qual := "rows_from") (scope := defScope s_rows_from) (f := f) (cdv := cdv) (A := A) (outer := outer) (s := s) (H := H) (E := E)
  have po := po_of (P := P) (w := w) (K := K) (mg := mg) (base := base) (N := ["lines", "index", "word", "found"]) (qual := "rows_from") (scope := defScope s_rows_from) (f := f) (cdv := cdv) (A := A) (outer := outer) (s := s) (H := H) (E := E)
  have hu1 := hu1_of hr
  have hu64 := hu64_of hr
  have hu65 := hu65_of hr
  unfold t_rows_from
  exact pss_cons (ps_set (i := 3) sc_rows_from.nd rfl (by first | exact .inl rfl | exact .inr rfl) (pe_lst (pa_nil)))
    (pss_cons (ps_while po (PW.pt (pw_and (pt_cmpR op_ltA (pv 1) (pe_callB call_lenA (by rfl) T.b_len (by decide +kernel) (pa_cons (pv 0) (pa_nil))) (nomark _)) (pw_and1 (pt_cmpR (op_eqA hu64) (pe_ix (ix_A hu1) (pe_ix (ix_A hu1) (pv 0) (pv 1) (fun _ _ => rfl)) (pe_int) (fun _ _ => rfl)) (pv 2) (nomark _))))) (pss_cons (ps_expr (pe_bm PySem.F.plainAttrs_list PySem.F.slot_list_append PySem.F.type_list_append mt_append (pv 3) (pa_cons (pe_callTy call_tupleA (by rfl) T.b_tuple (by decide +kernel) (pa_cons (pe_fn c_values_at hr (by decide) (by rfl) (pa_cons (pv 0) (pa_cons (pv 1) (pa_cons (pv 2) (pa_nil))))) (pa_nil))) (pa_nil))))
    (pss_one (ps_aug (i := 1) sc_rows_from.nd rfl (by first | exact .inl rfl | exact .inr rfl) (pe_int) ip_add))))
    (pss_one (ps_ret (pv 3))))
/-! Run.__init__ -/
abbrev s_Run_init : Stmt := (inClass (top 32) 0)
theorem sc_Run_init : FnScope ["self", "moments", "steps", "time", "name"] ["self", "moments", "steps"] (defScope s_Run_init) := ⟨rfl, rfl, rfl, by decide +kernel, rfl, by decide +kernel, by decide +kernel⟩
def t_Run_init (K : PySem.W.Frag) (w : World) (E : XK) : TS :=
    tSeq (sFld K (tVar 0) (tCB (rTupleA K) (tCons (tLc (iAny K (tVar 1)) (gTup K 2 (gCons (gName 3) (gCons (gName 4) (gNil)))) (tYes) (tTup (tCons (tVar 3) (tCons (tVar 4) (tNil)))) [3, 4]) (tNil))) "moments")
    (sFld K (tVar 0) (tVar 2) "steps")
theorem der_Run_init (T : Txt K mg) {f : Addr} (cdv : Value) (A : Around) (outer : List Env) (s : Shared) (H : Hp) (E : XK) (hr : Room 0 (A.deeper (envOfC "Run.__init__" (defScope s_Run_init) s.heap.objs.size f cdv))) :
    PSs (cxOf (L2.CX P w) P w K mg base ["self", "moments", "steps", "time", "name"] "Run.__init__" (defScope s_Run_init) f cdv A outer s H E) (defBody s_Run_init) (t_Run_init K w E) := by
  have tk := tk_of (P := P) (w := w) (K := K) (mg := mg) (base := base) (N := ["self", "moments", "steps", "time", "name"]) (qual := "Run.__init__") (scope := defScope s_Run_init) (f := f) (cdv := cdv) (A := A) (outer := outer) (s := s) (H := H) (E := E)
  have po := po_of (P := P) (w := w) (K := K) (mg := mg) (base := base) (N := ["self", "moments", "steps", "time", "name"]) (qual := "Run.__init__") (scope := defScope s_Run_init) (f := f) (cdv := cdv) (A := A) (outer := outer) (s := s) (H := H) (E := E)
  have hu1 := hu1_of hr
  have hu64 := hu64_of hr
  have hu65 := hu65_of hr
  unfold t_Run_init
  exact pss_cons (ps_fld (pv 0) (pe_callTy call_tupleA (by rfl) T.b_tuple (by decide +kernel) (pa_cons (pe_lc (own := [("time", 3), ("name", 4)]) rfl sc_Run_init.nd (pi_any (pv 1)) (blkOk_by (own := [("time", 3), ("name", 4)]) (N := ["self", "moments", "steps", "time", "name"]) (sc := defScope s_Run_init) (by decide +kernel)) (fun _ _ _ _ _ => pg_tup rfl (pgs_cons (pg_name (i := 3) sc_Run_init.nd rfl (by first | exact .inl rfl | exact .inr rfl)) (pgs_cons (pg_name (i := 4) sc_Run_init.nd rfl (by first | exact .inl rfl | exact .inr rfl)) (pgs_nil)))) (fun _ _ _ _ _ => pts_nil) (fun _ _ _ _ _ => pe_tup (pa_cons (pv 3) (pa_cons (pv 4) (pa_nil))))) (pa_nil))) rfl)
    (pss_one (ps_fld (pv 0) (pv 2) rfl))
/-! run_from -/
abbrev s_run_from : Stmt := (top 46)
theorem sc_run_from : FnScope ["lines", "index", "word", "steps"] ["lines", "index", "word"] (defScope s_run_from) := ⟨rfl, rfl, rfl, by decide +kernel, rfl, by decide +kernel, by decide +kernel⟩
def t_run_from (K : PySem.W.Frag) (w : World) (E : XK) : TS :=
    tSeq (tAsg (tOp (rIxA K w) (tCall (toSp K (S_values_at K)) [] E0 (tCons (tVar 0) (tCons (tVar 1) (tCons (tVar 2) (tNil))))) (tC (.int 0))) (gName 3))
    (tRet (tMake (He.ga K "Run") (toSp K (S_Run_init K)) [] E0 (tCons (tCall (toSp K (S_rows_from K)) [] E0 (tCons (tVar 0) (tCons (tOp (rAddA K) (tVar 1) (tC (.int 1))) (tCons (tC (.str "ask")) (tNil))))) (tCons (tVar 3) (tNil)))))
theorem der_run_from (T : Txt K mg) (c_values_at : FnB P w K mg base 4 "values_at" (S_values_at K)) (c_rows_from : FnB P w K mg base 5 "rows_from" (S_rows_from K)) (m_Run : MkB P w K mg base 1 "Run" (S_Run_init K)) {f : Addr} (cdv : Value) (A : Around) (outer : List Env) (s : Shared) (H : Hp) (E : XK) (hr : Room 5 (A.deeper (envOfC "run_from" (defScope s_run_from) s.heap.objs.size f cdv))) :
    PSs (cxOf (L2.CX P w) P w K mg base ["lines", "index", "word", "steps"] "run_from" (defScope s_run_from) f cdv A outer s H E) (defBody s_run_from) (t_run_from K w E) := by
  have tk := tk_of (P := P) (w := w) (K := K) (mg := mg) (base := base) (N := ["lines", "index", "word", "steps"]) (qual := "run_from") (scope := defScope s_run_from) (f := f) (cdv := cdv) (A := A) (outer := outer) (s := s) (H := H) (E := E)
  have po := po_of (P := P) (w := w) (K := K) (mg := mg) (base := base) (N := ["lines", "index", "word", "steps"]) (qual := "run_from") (scope := defScope s_run_from) (f := f) (cdv := cdv) (A := A) (outer := outer) (s := s) (H := H) (E := E)
  have hu1 := hu1_of hr
  have hu64 := hu64_of hr
  have hu65 := hu65_of hr
  unfold t_run_from
  exact pss_cons (ps_set (i := 3) sc_run_from.nd rfl (by first | exact .inl rfl | exact .inr rfl) (pe_ix (ix_A hu1) (pe_fn c_values_at hr (by decide) (by rfl) (pa_cons (pv 0) (pa_cons (pv 1) (pa_cons (pv 2) (pa_nil))))) (pe_int) (fun _ _ => rfl)))
    (pss_one (ps_ret (pe_mkD m_Run hr (by decide) (by rfl) (pa_cons (pe_fn c_rows_from hr (by decide) (by rfl) (pa_cons (pv 0) (pa_cons (pe_op op_addA (pv 1) (pe_int)) (pa_cons (pe_str) (pa_nil))))) (pa_cons (pv 3) (pa_nil))))))
end Lw
end

section
set_option Elab.async false
set_option linter.all false
set_option maxRecDepth 100000
set_option maxHeartbeats 4000000
namespace Lw
open PySem PySem.Spec PyProof.Rows L2 Evl
section
variable {K : PySem.W.Frag} {w : World} {E : XK} {X : Addr → List (Str × Dt) → Mem → Prop} {Q : Dt → Mem → Prop}
theorem cut_tail {α : Type} (x : α) (xs : List α) : cutD (x :: xs) (some 1) none = xs := by
  unfold cutD
  have e1 : HT.sIx (x :: xs).length 0 (some 1) = 1 := by
    have := HT.sIx_nat (x :: xs).length 0 1
    rw [show ((1 : Nat) : Int) = 1 from rfl] at this
    rw [this, List.length_cons]
    omega
  rw [e1, HT.sIx_none]
  simp
theorem parts_len {ss ts : List Str} {ds : List Dt} (h : PartsR ss ts ds) : ss.length = ts.length ∧ ts.length = ds.length := by
  induction h with
  | nil => exact ⟨rfl, rfl⟩
  | cons _ _ ih => exact ⟨congrArg Nat.succ ih.1, congrArg Nat.succ ih.2⟩
theorem parts_at {ss ts : List Str} {ds : List Dt} (h : PartsR ss ts ds) : ∀ (i : Nat) (s t : Str), ss[i]? = some s → ts[i]? = some t → ∃ d, ds[i]? = some d ∧ PartR s t d := by
  induction h with
  | nil => intro i s t h1; simp at h1
  | cons hp _ ih =>
    intro i s t h1 h2
    cases i with
    | zero =>
      cases h1
      cases h2
      exact ⟨_, rfl, hp⟩
    | succ i => exact ih i s t (by simpa using h1) (by simpa using h2)
theorem part_notN {s t : Str} {d : Dt} (h : PartR s t d) : d.isN = false := by
  cases h <;> rfl
theorem line_at {ls : List (List Str)} {i : Nat} {l : List Str} (h : ls[i]? = some l) : atI (ls.map lineD) (i : Int) = some (lineD l) := atI_nat (by rw [List.getElem?_map, h]; rfl)
theorem forms_len {w0 : Str} {f : List Str} (h : (w0, f) ∈ paperForms) : f.length ≤ 4 := by
  have : ∀ q ∈ paperForms, q.2.length ≤ 4 := by decide
  exact this _ h
theorem rd_values_at (T : Tabs K w) {ds : List Dt} {M : Mem} (h : S_values_at K ds M Q X) : RnD ⟨K, E, X⟩ (t_values_at K w E) (startG ["lines", "index", "word", "form", "found", "sort", "text", "value"] ds) M (retE Q) := by
  obtain ⟨rfl, d, hr, q⟩ := h
  cases hr with
  | mk ls i word sorts ws vals h1 h2 h3 =>
    unfold t_values_at
    have hi : i < ls.length := (List.getElem?_eq_some_iff.mp h1).1
    obtain ⟨l1, l2⟩ := parts_len h3
    have hl4 := forms_len h2
    refine rn_seq <| rn_asg <| ev_op <| ev_adr <| ev_var (d := .str word) rfl <| od_ixD (d := .tq ((word :: sorts).map Dt.str)) (fun W => T.pl _ h2 W) <| gt_name ?_
    refine rn_seq <| rn_if <| tt_or <| tt_test <| ev_op <| ev_var (d := .int i) rfl <| ev_cb <| ar_cons <| ev_var (d := linesD ls) rfl <| ar_nil <| cd_lenL <| od_ge ⟨_, rfl, ifD (fun z => ?_) fun _ => ?_⟩
    · rw [List.length_map] at z
      omega
    refine tt_or <| tt_test <| ev_op <| ev_op <| ev_op <| ev_var (d := linesD ls) rfl <| ev_var (d := .int i) rfl <| od_ixL (line_at h1) <| ev_int <| od_ixL (d := .str word) (atI_nat (n := 0) rfl) <| ev_var (d := .str word) rfl <| od_neS ⟨_, rfl, ifND (fun z => absurd rfl z) fun _ => ?_⟩
    refine tt_test <| ev_op <| ev_cb <| ar_cons <| ev_op <| ev_var (d := linesD ls) rfl <| ev_var (d := .int i) rfl <| od_ixL (line_at h1) <| ar_nil <| cd_lenL <| ev_cb <| ar_cons <| ev_var (d := .tq ((word :: sorts).map Dt.str)) rfl <| ar_nil ?_
    refine cd_lenQ' <| od_neI ⟨_, rfl, ifND (fun z => ?_) fun _ => ?_⟩
    · exact absurd (by simp [l1]) z
    refine rn_next <| rn_seq <| rn_asg <| ev_lstM <| ar_nil ⟨by decide, fun p => gt_name ?_⟩
    refine rn_seq <| rn_for <| it_zipX <| ar_cons <| ev_sl <| ev_var (d := .tq ((word :: sorts).map Dt.str)) rfl <| po_part <| ev_int ⟨1, rfl, po_no <| .inl ⟨(word :: sorts).map Dt.str, .inr <| .inr ⟨rfl, ?_, ?_⟩⟩⟩
    · have := HT.sIx_nat ((word :: sorts).map Dt.str).length 0 1
      rw [show ((1 : Nat) : Int) = 1 from rfl] at this
      rw [this, List.length_map, List.length_cons]
      omega
    rw [List.map_cons, cut_tail]
    refine ar_cons <| ev_sl <| ev_op <| ev_var (d := linesD ls) rfl <| ev_var (d := .int i) rfl <| od_ixL (line_at h1) <| po_part <| ev_int ⟨1, rfl, po_no <| .inl ⟨(word :: ws).map Dt.str, .inl ⟨rfl, ar_nil ⟨sorts.map Dt.str, ws.map Dt.str, .inl ?_, ?_⟩⟩⟩⟩
    · rw [List.map_cons, cut_tail]
    refine ⟨fun j Γ' M' => M' = [(p, .lst (vals.take j))] ∧ ∃ a b c, Γ' = [some (linesD ls), some (.int i), some (.str word), some (.tq ((word :: sorts).map Dt.str)), some (.ref p), a, b, c], ⟨rfl, none, none, none, rfl⟩, ?_, ?_⟩
    · rintro j d Γ' M' hd ⟨rfl, a, b, c, rfl⟩
      rw [List.getElem?_map] at hd
      obtain ⟨⟨e1, e2⟩, hz, rfl⟩ := Option.map_eq_some_iff.mp hd
      rw [List.getElem?_zip_eq_some, List.getElem?_map, List.getElem?_map] at hz
      obtain ⟨hz1, hz2⟩ := hz
      obtain ⟨s, hs, rfl⟩ := Option.map_eq_some_iff.mp hz1
      obtain ⟨t, ht, rfl⟩ := Option.map_eq_some_iff.mp hz2
      obtain ⟨v, hv, hp⟩ := parts_at h3 j s t hs ht
      refine gt_tup rfl (gs_cons (gt_name (gs_cons (gt_name (gs_nil ?_)))))
      refine rn_seq (rn_asg (ev_rel (ar_cons (ev_var (d := .str s) rfl (ar_cons (ev_var (d := .str t) rfl (ar_nil ⟨v, .mk s t v hp, gt_name ?_⟩)))))))
      refine rn_seq (rn_if (tt_B (ev_isN (ev_var (d := v) rfl ⟨_, rfl, ?_⟩))))
      rw [part_notN hp]
      refine ifF (rn_next (rn_drop (ev_append (n := 0) (ds := vals.take j) (ev_var (d := .ref p) rfl ⟨rfl, rfl, ar_cons (ev_var (d := v) rfl (ar_nil ⟨v, _, rfl, rfl, ?_, ?_, _, _, _, rfl⟩))⟩))))
      · rw [List.length_take, show sizeLine = 16777216 from sizeLine_eq]
        simp only [List.length_cons] at hl4
        omega
      · show [(p, MO.lst (vals.take j ++ [v]))] = _
        rw [List.take_succ, hv]
        rfl
    · rintro Γ' M' ⟨rfl, a, b, c, rfl⟩
      refine rn_ret (ev_know (ev_var (d := .ref p) rfl ⟨p, _, _, [], rfl, .refl _, .lst _, ?_⟩))
      have e : ((((sorts.map Dt.str).zip (ws.map Dt.str)).map fun p => Dt.tup [p.1, p.2]).length) = vals.length := by
        rw [List.length_map, List.length_zip, List.length_map, List.length_map]
        omega
      rw [e, List.take_length]
      exact q
theorem block_at {word : Str} {sorts : List Str} {bl : List (List Str)} {ds : List Dt} (h : BlockR word sorts bl ds) : ∀ (j : Nat), j < bl.length → ∃ ws vals, bl[j]? = some (word :: ws) ∧ ds[j]? = some (.tup vals) ∧ PartsR sorts ws vals := by
  induction h with
  | nil => intro j hj; cases hj
  | cons hp _ ih =>
    intro j hj
    cases j with
    | zero => exact ⟨_, _, rfl, rfl, hp⟩
    | succ j =>
      obtain ⟨ws, vals, a, b, c⟩ := ih j (by simpa using hj)
      exact ⟨ws, vals, by simpa using a, by simpa using b, c⟩
theorem block_len {word : Str} {sorts : List Str} {bl : List (List Str)} {ds : List Dt} (h : BlockR word sorts bl ds) : bl.length = ds.length := by
  induction h with
  | nil => rfl
  | cons _ _ ih => exact congrArg Nat.succ ih
theorem rd_rows_from {ds : List Dt} {M : Mem} (h : S_rows_from K ds M Q X) : RnD ⟨K, E, X⟩ (t_rows_from K w E) (startG ["lines", "index", "word", "found"] ds) M (retE Q) := by
  obtain ⟨rfl, d, hr, q⟩ := h
  cases hr with
  | mk pre bl post word sorts ds h1 h2 h3 h4 =>
    unfold t_rows_from
    have hl := block_len h1
    refine rn_seq <| rn_asg <| ev_lstM <| ar_nil ⟨by decide, fun p => gt_name ?_⟩
    refine rn_seq <| rn_while (fun m Γ' M' => ∃ j, j + m = bl.length ∧ Γ' = [some (linesD (pre ++ (bl ++ post))), some (.int ((pre.length + j : Nat) : Int)), some (.str word), some (.ref p)] ∧ M' = [(p, .lst (ds.take j))]) bl.length ⟨0, Nat.zero_add _, rfl, rfl⟩ ?_
    rintro m Γ' M' ⟨j, hj, rfl, rfl⟩
    have fin : j = bl.length → RnD ⟨K, E, X⟩ (tRet (tVar 3)) [some (linesD (pre ++ (bl ++ post))), some (.int ((pre.length + j : Nat) : Int)), some (.str word), some (.ref p)] [(p, .lst (ds.take j))] (retE Q) := fun e => by
      refine rn_ret <| ev_know <| ev_var (d := .ref p) rfl ⟨p, _, _, [], rfl, .refl _, .lst _, ?_⟩
      rw [e, hl, List.take_length]
      exact q
    refine tt_and <| tt_test <| ev_op <| ev_var (d := .int ((pre.length + j : Nat) : Int)) rfl <| ev_cb <| ar_cons <| ev_var (d := linesD (pre ++ (bl ++ post))) rfl <| ar_nil <| cd_lenL <| od_lt ⟨_, rfl, ifD (fun z => ?_) fun z => ?_⟩
    · by_cases hjb : j < bl.length
      · obtain ⟨ws, vals, b1, b2, b3⟩ := block_at h1 j hjb
        have hat : (pre ++ (bl ++ post))[pre.length + j]? = some (word :: ws) := by
          rw [List.getElem?_append_right (by omega), Nat.add_sub_cancel_left, List.getElem?_append_left hjb]
          exact b1
        refine tt_test <| ev_op <| ev_op <| ev_op <| ev_var (d := linesD (pre ++ (bl ++ post))) rfl <| ev_var (d := .int ((pre.length + j : Nat) : Int)) rfl <| od_ixL (line_at hat) <| ev_int <| od_ixL (d := .str word) (atI_nat (n := 0) rfl) <| ev_var (d := .str word) rfl <| od_eqS ⟨_, rfl, ifD (fun _ => ?_) fun z => absurd rfl z⟩
        refine rn_seq <| rn_drop <| ev_append (n := 0) (ds := ds.take j) <| ev_var (d := .ref p) rfl ⟨rfl, rfl, ?_⟩
        refine ar_cons <| ev_cb <| ar_cons <| ev_rel <| ar_cons <| ev_var (d := linesD (pre ++ (bl ++ post))) rfl <| ar_cons <| ev_var (d := .int ((pre.length + j : Nat) : Int)) rfl <| ar_cons <| ev_var (d := .str word) rfl <| ar_nil ⟨_, .mk _ _ word sorts ws vals hat h2 b3, ar_nil <| cd_tupL <| ar_nil ⟨.tup vals, _, rfl, rfl, ?_, ?_⟩⟩
        · rw [List.length_take, show sizeLine = 16777216 from sizeLine_eq]
          omega
        · refine rn_aug (a := .int ((pre.length + j : Nat) : Int)) rfl <| ev_int <| od_ipI ⟨m - 1, by omega, j + 1, by omega, ?_, ?_⟩
          · show [_, _, _, _] = _
            rw [show ((pre.length + j : Nat) : Int) + 1 = ((pre.length + (j + 1) : Nat) : Int) by omega]
          · show [(p, MO.lst (ds.take j ++ [.tup vals]))] = _
            rw [List.take_succ, b2]
            rfl
      · have e : j = bl.length := by omega
        cases hp : post with
        | nil =>
          rw [hp, List.length_map, List.length_append, List.length_append, List.length_nil] at z
          omega
        | cons l r =>
          obtain ⟨x, xs, rfl, hx⟩ := h3 l r hp
          have hat : (pre ++ (bl ++ post))[pre.length + j]? = some (x :: xs) := by
            rw [List.getElem?_append_right (by omega), Nat.add_sub_cancel_left, List.getElem?_append_right (by omega), e, Nat.sub_self, hp]
            rfl
          rw [← hp]
          refine tt_test <| ev_op <| ev_op <| ev_op <| ev_var (d := linesD (pre ++ (bl ++ post))) rfl <| ev_var (d := .int ((pre.length + j : Nat) : Int)) rfl <| od_ixL (line_at hat) <| ev_int <| od_ixL (d := .str x) (atI_nat (n := 0) rfl) <| ev_var (d := .str word) rfl <| od_eqS ⟨_, rfl, ifD (fun z => absurd z hx) fun _ => fin e⟩
    · refine ifF (fin ?_)
      rw [List.length_map, List.length_append, List.length_append] at z
      omega
theorem gfix_t {K : PySem.W.Frag} {n : Nat} {u : TGs} {vs : List Nat} (h : GFixs u vs) : GFix (gTup K n u) vs := gfix_tup (Z := ⟨K, fun _ _ _ => False, fun _ _ _ => False⟩) h
theorem moms_size {ms : List (Int × Str)} (h : ms.length ≤ 1000) : (ms.map momD).length ≤ sizeLine := by
  rw [List.length_map, show sizeLine = 16777216 from sizeLine_eq]
  omega
theorem two_le : ∀ {a b : Dt}, ([a, b] : List Dt).length ≤ sizeLine := fun {a b} => by
  rw [show sizeLine = 16777216 from sizeLine_eq]
  show 2 ≤ 16777216
  decide
theorem rd_Run_init (c : Clss K) {ds : List Dt} {M : Mem} (h : S_Run_init K ds M Q X) : RnD ⟨K, E, X⟩ (t_Run_init K w E) (startG ["self", "moments", "steps", "time", "name"] ds) M (retE Q) := by
  obtain ⟨a, es, fs, rfl, rfl, hr, q⟩ := h
  cases hr with
  | mk ms st hl =>
    unfold t_Run_init
    refine rn_seq <| rn_fld c.cRun c.nMoments <| ev_cb <| ar_cons <| ev_map (vs := [3, 4]) (fun e => e) (gfix_t (gfix_cons (gfix_name (i := 3) (vs := [3, 4]) (by decide)) (gfix_cons (gfix_name (i := 4) (vs := [3, 4]) (by decide)) gfix_nil))) <| it_any <| ev_var (d := .lst (ms.map momD)) rfl ⟨_, rfl, moms_size hl, fun i d hd => ?_, ar_nil <| cd_tupL ?_⟩
    · rw [List.getElem?_map] at hd
      obtain ⟨⟨t, n⟩, _, rfl⟩ := Option.map_eq_some_iff.mp hd
      exact gt_tup rfl <| gs_cons <| gt_name <| gs_cons <| gt_name <| gs_nil <| ev_tup <| ar_cons <| ev_var (d := .int t) rfl <| ar_cons <| ev_var (d := .str n) rfl <| ar_nil ⟨two_le, rfl, rfl⟩
    · refine ev_var (d := .ref a) rfl ⟨a, [], [], rfl, .refl _, by decide, ?_⟩
      refine rn_fld c.cRun c.nSteps <| ev_var (d := .int st) rfl <| ev_var (d := .ref a) rfl ⟨a, _, [], rfl, .refl _, by show 1 < 1000; decide, ?_⟩
      rw [List.map_id']
      exact q
theorem ask_block {ms : List (Int × Str)} (h : ∀ p ∈ ms, cntOk p.1 ∧ isNameB p.2 = true) : BlockR "ask" ["count", "name"] (ms.map askW) (ms.map momD) := by
  induction ms with
  | nil => exact .nil
  | cons p r ih => exact .cons (.cons (.cnt p.1 (h p List.mem_cons_self).1) (.cons (.nam p.2 (h p List.mem_cons_self).2) .nil)) (ih fun x hx => h x (List.mem_cons_of_mem _ hx))
theorem rd_run_from {ds : List Dt} {M : Mem} (h : S_run_from K ds M Q X) : RnD ⟨K, E, X⟩ (t_run_from K w E) (startG ["lines", "index", "word", "steps"] ds) M (retE Q) := by
  obtain ⟨rfl, d, hr, q⟩ := h
  cases hr with
  | mk pre post word ms st h1 h2 h3 h4 =>
    unfold t_run_from
    have hf : (word, word :: ["count"]) ∈ paperForms := by rcases h4 with rfl | rfl | rfl <;> decide
    have hat : (pre ++ ([word, numT st] :: (ms.map askW ++ post)))[pre.length]? = some [word, numT st] := by
      rw [List.getElem?_append_right (Nat.le_refl _), Nat.sub_self]
      rfl
    refine rn_seq <| rn_asg <| ev_op <| ev_rel <| ar_cons <| ev_var rfl <| ar_cons <| ev_var rfl <| ar_cons <| ev_var rfl <| ar_nil ⟨_, .mk _ _ word ["count"] [numT st] [.int st] hat hf (.cons (.cnt st h1) .nil), ev_int <| od_ixL (d := .int st) (atI_nat (n := 0) rfl) <| gt_name ?_⟩
    refine rn_ret <| ev_init <| ar_cons <| ev_rel <| ar_cons <| ev_var rfl <| ar_cons <| ev_op <| ev_var rfl <| ev_int <| od_addI <| ar_cons <| ev_str <| ar_nil ⟨.lst (ms.map momD), ?_, ar_cons <| ev_var (d := .int st) rfl <| ar_nil ⟨_, .mk ms st h2.2, q⟩⟩
    have e1 : pre ++ ([word, numT st] :: (ms.map askW ++ post)) = (pre ++ [[word, numT st]]) ++ (ms.map askW ++ post) := by simp
    rw [e1, show ((pre.length : Nat) : Int) + 1 = (((pre ++ [[word, numT st]]).length : Nat) : Int) by rw [List.length_append]; rfl]
    exact .mk _ _ _ _ _ _ (ask_block h2.1) (by decide) h3 (by rw [List.length_map]; exact h2.2)
end
end Lw
end

section
set_option Elab.async false
set_option linter.all false
set_option maxRecDepth 100000
set_option maxHeartbeats 4000000
namespace Lw
open PySem PySem.Spec PyProof.Rows L2 Evl

/-! ### machines: source ↦ frame ↦ targets -/
abbrev Trip := List Int × List Int × List Int
abbrev Row := List (List Int × List (List Int))
abbrev Tab := List (List Int × Row)
def keyI (ns : List Int) : List Key := ns.map Sum.inl
theorem keyD_I (ns : List Int) : keyD (keyI ns) = tupI ns := by
  unfold keyD keyI tupI
  rw [List.map_map]
  rfl
theorem keyI_inj {a b : List Int} (h : keyI a = keyI b) : a = b := List.map_inj_right (fun _ _ e => Sum.inl.inj e) |>.mp h
def tgK (ts : List (List Int)) : List (List Key × Dt) := ts.map fun t => (keyI t, Dt.bl true)
def rowK (r : Row) : List (List Key × Dt) := r.map fun p => (keyI p.1, Dt.dT (tgK p.2))
def tabK (t : Tab) : List (List Key × Dt) := t.map fun p => (keyI p.1, Dt.dT (rowK p.2))
def tieD (t : Trip) : Dt := .tup [tupI t.1, tupI t.2.1, tupI t.2.2]
def machF (width n : Int) (t : Tab) : List (Str × Dt) := [("width", .int width), ("total", .int n), ("table", .dT (tabK t))]
def putA {β : Type} (k : List Int) (f : Option β → β) : List (List Int × β) → List (List Int × β)
  | [] => [(k, f none)]
  | (k', v) :: r => if k' = k then (k', f (some v)) :: r else (k', v) :: putA k f r
def getA {β : Type} (k : List Int) : List (List Int × β) → Option β
  | [] => none
  | (k', v) :: r => if k' = k then some v else getA k r
def addTg (t : List Int) (ts : List (List Int)) : List (List Int) := if t ∈ ts then ts else ts ++ [t]
def addRow (f t : List Int) (r : Row) : Row := putA f (fun o => addTg t (o.getD [])) r
def addTie (x : Trip) (t : Tab) : Tab := putA x.1 (fun o => addRow x.2.1 x.2.2 (o.getD [])) t
abbrev hasR (f t : List Int) (r : Row) : Prop := t ∈ (getA f r).getD []
abbrev hasT (x : Trip) (t : Tab) : Prop := hasR x.2.1 x.2.2 ((getA x.1 t).getD [])
/-- the table and the number of ties, tie by tie -/
def stepT (p : Tab × Int) (x : Trip) : Tab × Int := (addTie x p.1, if hasT x p.1 then p.2 else p.2 + 1)
def tabOf (ties : List Trip) : Tab × Int := ties.foldl stepT ([], 0)
def machD (K : PySem.W.Frag) (width : Int) (ties : List Trip) : Dt := .ins (He.ga K "Machine") (machF width (tabOf ties).2 (tabOf ties).1)
/-! while it is written: each dict at its own place -/
abbrev RowA := List (List Int × Addr × List (List Int))
abbrev TabA := List (List Int × Addr × RowA)
def memR (r : RowA) : Mem := r.map fun y => (y.2.1, MO.dT (tgK y.2.2))
def rowKA (r : RowA) : List (List Key × Dt) := r.map fun y => (keyI y.1, Dt.ref y.2.1)
def memX (x : List Int × Addr × RowA) : Mem := (x.2.1, MO.dT (rowKA x.2.2)) :: memR x.2.2
def tabKA (T : TabA) : List (List Key × Dt) := T.map fun x => (keyI x.1, Dt.ref x.2.1)
def insM (K : PySem.W.Frag) (a tb : Addr) (width n : Int) : Addr × MO := (a, .ins (He.ga K "Machine") [("width", .int width), ("total", .int n), ("table", .ref tb)])
def memM (K : PySem.W.Frag) (a tb : Addr) (width n : Int) (T : TabA) : Mem := insM K a tb width n :: (tb, .dT (tabKA T)) :: T.flatMap memX
def stripR (r : RowA) : Row := r.map fun y => (y.1, y.2.2)
def stripT (T : TabA) : Tab := T.map fun x => (x.1, stripR x.2.2)
def sizeT (n : Nat) (T : TabA) : Prop := T.length ≤ n ∧ ∀ x ∈ T, x.2.2.length ≤ n ∧ ∀ y ∈ x.2.2, y.2.2.length ≤ n
def S_Machine_tie (K : PySem.W.Frag) : SD := fun ds M Q _ => ∃ a tb width n T s f t, ds = [.ref a, tupI s, tupI f, tupI t] ∧ M = memM K a tb width n T ∧ sizeT 1000 T ∧
  ∀ b T', stripT T' = addTie (s, f, t) (stripT T) → Q (.bl b) (memM K a tb width (if hasT (s, f, t) (stripT T) then n else n + 1) T')
/-! lookups -/
theorem split_or {β : Type} (T : List (List Int × β)) (s : List Int) : (∃ T1 v T2, T = T1 ++ (s, v) :: T2 ∧ ∀ p ∈ T1, p.1 ≠ s) ∨ ∀ p ∈ T, p.1 ≠ s := by
  induction T with
  | nil => exact .inr fun p hp => by cases hp
  | cons q r ih =>
    obtain ⟨k, v⟩ := q
    by_cases e : k = s
    · subst e
      exact .inl ⟨[], v, r, rfl, fun p hp => by cases hp⟩
    · rcases ih with ⟨T1, v', T2, e1, e2⟩ | h
      · refine .inl ⟨(k, v) :: T1, v', T2, by rw [e1]; rfl, fun p hp => ?_⟩
        rcases List.mem_cons.mp hp with rfl | hp
        · exact e
        · exact e2 p hp
      · refine .inr fun p hp => ?_
        rcases List.mem_cons.mp hp with rfl | hp
        · exact e
        · exact h p hp
theorem putA_at {β : Type} {s : List Int} {g : Option β → β} {v : β} {T2 : List (List Int × β)} : ∀ {T1 : List (List Int × β)}, (∀ p ∈ T1, p.1 ≠ s) → putA s g (T1 ++ (s, v) :: T2) = T1 ++ (s, g (some v)) :: T2
  | [], _ => by
    show putA s g ((s, v) :: T2) = _
    unfold putA
    rw [if_pos rfl]
    rfl
  | (k, u) :: T1, h => by
    show putA s g ((k, u) :: (T1 ++ (s, v) :: T2)) = _
    unfold putA
    rw [if_neg (h (k, u) List.mem_cons_self), putA_at fun p hp => h p (List.mem_cons_of_mem _ hp)]
    rfl
theorem putA_new {β : Type} {s : List Int} {g : Option β → β} : ∀ {T : List (List Int × β)}, (∀ p ∈ T, p.1 ≠ s) → putA s g T = T ++ [(s, g none)]
  | [], _ => rfl
  | (k, u) :: T, h => by
    show putA s g ((k, u) :: T) = _
    unfold putA
    rw [if_neg (h (k, u) List.mem_cons_self), putA_new fun p hp => h p (List.mem_cons_of_mem _ hp)]
    rfl
theorem getA_at {β : Type} {s : List Int} {v : β} {T2 : List (List Int × β)} : ∀ {T1 : List (List Int × β)}, (∀ p ∈ T1, p.1 ≠ s) → getA s (T1 ++ (s, v) :: T2) = some v
  | [], _ => by
    show getA s ((s, v) :: T2) = _
    unfold getA
    rw [if_pos rfl]
  | (k, u) :: T1, h => by
    show getA s ((k, u) :: (T1 ++ (s, v) :: T2)) = _
    unfold getA
    rw [if_neg (h (k, u) List.mem_cons_self), getA_at fun p hp => h p (List.mem_cons_of_mem _ hp)]
theorem getA_new {β : Type} {s : List Int} : ∀ {T : List (List Int × β)}, (∀ p ∈ T, p.1 ≠ s) → getA s T = none
  | [], _ => rfl
  | (k, u) :: T, h => by
    unfold getA
    rw [if_neg (h (k, u) List.mem_cons_self), getA_new fun p hp => h p (List.mem_cons_of_mem _ hp)]
theorem valD_at {α : Type} {k : List Int} {g : α → List Int} {v : α → Dt} {x : α} {T2 : List α} (hx : g x = k) : ∀ {T1 : List α}, (∀ p ∈ T1, g p ≠ k) → valD ((T1 ++ x :: T2).map fun y => (keyI (g y), v y)) (keyI k) = some (v x)
  | [], _ => by
    rw [List.nil_append, List.map_cons, valD_cons, if_pos (by rw [hx])]
  | y :: T1, h => by
    rw [List.cons_append, List.map_cons, valD_cons, if_neg fun e => h y List.mem_cons_self (keyI_inj e)]
    exact valD_at hx fun p hp => h p (List.mem_cons_of_mem _ hp)
theorem valD_new {α : Type} {k : List Int} {g : α → List Int} {v : α → Dt} : ∀ {T : List α}, (∀ p ∈ T, g p ≠ k) → valD (T.map fun y => (keyI (g y), v y)) (keyI k) = none
  | [], _ => rfl
  | y :: T, h => by
    rw [List.map_cons, valD_cons, if_neg fun e => h y List.mem_cons_self (keyI_inj e)]
    exact valD_new fun p hp => h p (List.mem_cons_of_mem _ hp)
/-! the memory, rearranged -/
def restM (K : PySem.W.Frag) (a tb : Addr) (width n : Int) (T1 : TabA) (s : List Int) (ra : Addr) (T2 : TabA) : Mem := insM K a tb width n :: (tb, .dT (tabKA (T1 ++ (s, ra, []) :: T2))) :: (T1.flatMap memX ++ T2.flatMap memX)
theorem perm_x {K : PySem.W.Frag} {a tb : Addr} {width n : Int} {T1 T2 : TabA} {s : List Int} {ra : Addr} {r : RowA} : (memM K a tb width n (T1 ++ (s, ra, r) :: T2)).Perm (memX (s, ra, r) ++ restM K a tb width n T1 s ra T2) := by
  unfold memM restM
  have e : tabKA (T1 ++ (s, ra, r) :: T2) = tabKA (T1 ++ (s, ra, []) :: T2) := by
    unfold tabKA
    rw [List.map_append, List.map_append, List.map_cons, List.map_cons]
  rw [e, List.flatMap_append, List.flatMap_cons]
  refine List.Perm.trans ?_ List.perm_append_comm
  refine List.Perm.cons _ (List.Perm.cons _ ?_)
  show (T1.flatMap memX ++ (memX (s, ra, r) ++ T2.flatMap memX)).Perm ((T1.flatMap memX ++ T2.flatMap memX) ++ memX (s, ra, r))
  rw [List.append_assoc]
  exact List.Perm.append_left _ List.perm_append_comm
theorem perm_y {R1 R2 : RowA} {s f : List Int} {ra ta : Addr} {ts : List (List Int)} : (memX (s, ra, R1 ++ (f, ta, ts) :: R2)).Perm ((ta, MO.dT (tgK ts)) :: (ra, MO.dT (rowKA (R1 ++ (f, ta, []) :: R2))) :: (memR R1 ++ memR R2)) := by
  unfold memX memR rowKA
  rw [List.map_append, List.map_append, List.map_cons, List.map_cons, List.map_append, List.map_cons]
  refine List.Perm.trans (List.Perm.cons _ List.perm_middle) (List.Perm.swap _ _ _)
end Lw
end

section
set_option Elab.async false
set_option linter.all false
set_option maxRecDepth 100000
set_option maxHeartbeats 4000000
namespace Lw
open PySem PySem.Spec PyProof.Rows L2 Evl
open C8 (pe_gc)
variable {P : Program} {w : World} {K : PySem.W.Frag} {mg : Str → Option Value} {base : Heap}
/-! Machine.tie -/
abbrev s_Machine_tie : Stmt := (inClass (top 34) 1)
theorem sc_Machine_tie : FnScope ["self", "source", "frame", "target", "row", "targets"] ["self", "source", "frame", "target"] (defScope s_Machine_tie) := ⟨rfl, rfl, rfl, by decide +kernel, rfl, by decide +kernel, by decide +kernel⟩
def t_Machine_tie (K : PySem.W.Frag) (w : World) (E : XK) : TS :=
    tSeq (tAsg (tDSetdT (tFld K (tVar 0) "table") (tVar 1) (tDNewT)) (gName 4))
    (tSeq (tAsg (tDSetdT (tVar 4) (tVar 2) (tDNewT)) (gName 5))
    (tSeq (tIfS (tTest (tOp (rInA K) (tVar 3) (tVar 5))) (tRet (tC (.bl false))) (tNext))
    (tSeq (tAsg (tC (.bl true)) (gSub (tVar 5) (tVar 3) rSetA))
    (tSeq (sFldAug K (tVar 0) (tC (.int 1)) rAdd "total")
    (tRet (tC (.bl true)))))))
theorem der_Machine_tie (T : Txt K mg) {f : Addr} (cdv : Value) (A : Around) (outer : List Env) (s : Shared) (H : Hp) (E : XK) (hr : Room 0 (A.deeper (envOfC "Machine.tie" (defScope s_Machine_tie) s.heap.objs.size f cdv))) :
    PSs (cxOf (L2.CX P w) P w K mg base ["self", "source", "frame", "target", "row", "targets"] "Machine.tie" (defScope s_Machine_tie) f cdv A outer s H E) (defBody s_Machine_tie) (t_Machine_tie K w E) := by
  have tk := tk_of (P := P) (w := w) (K := K) (mg := mg) (base := base) (N := ["self", "source", "frame", "target", "row", "targets"]) (qual := "Machine.tie") (scope := defScope s_Machine_tie) (f := f) (cdv := cdv) (A := A) (outer := outer) (s := s) (H := H) (E := E)
  have po := po_of (P := P) (w := w) (K := K) (mg := mg) (base := base) (N := ["self", "source", "frame", "target", "row", "targets"]) (qual := "Machine.tie") (scope := defScope s_Machine_tie) (f := f) (cdv := cdv) (A := A) (outer := outer) (s := s) (H := H) (E := E)
  have hu1 := hu1_of hr
  have hu64 := hu64_of hr
  have hu65 := hu65_of hr
  unfold t_Machine_tie
  exact pss_cons (ps_set (i := 4) sc_Machine_tie.nd rfl (by first | exact .inl rfl | exact .inr rfl) (pe_dsetdT hu1 (pe_fld (pv 0) rfl) (pv 1) (pe_dnewT) ⟨rfl, rfl, rfl, rfl⟩))
    (pss_cons (ps_set (i := 5) sc_Machine_tie.nd rfl (by first | exact .inl rfl | exact .inr rfl) (pe_dsetdT hu1 (pv 4) (pv 2) (pe_dnewT) ⟨rfl, rfl, rfl, rfl⟩))
    (pss_cons (ps_if (pt_cmpR (op_inA hu65) (pv 3) (pv 5) (by rfl)) (pss_one (ps_ret (pe_bl))) (pss_nil))
    (pss_cons (ps_asg (pe_bl) (pg_sub (pv 5) (pv 3) (set_A hu1) (by intro _; rfl)))
    (pss_cons (ps_fldaug (pv 0) (pe_int) in_add)
    (pss_one (ps_ret (pe_bl)))))))
end Lw
end

section
set_option Elab.async false
set_option linter.all false
set_option maxRecDepth 100000
set_option maxHeartbeats 4000000
namespace Lw
open PySem PySem.Spec PyProof.Rows L2 Evl
section
variable {K : PySem.W.Frag} {w : World} {E : XK} {X : Addr → List (Str × Dt) → Mem → Prop} {Q : Dt → Mem → Prop}
theorem stripR_app (r r' : RowA) : stripR (r ++ r') = stripR r ++ stripR r' := List.map_append ..
theorem stripT_app (r r' : TabA) : stripT (r ++ r') = stripT r ++ stripT r' := List.map_append ..
theorem free_strip {T1 : TabA} {s : List Int} (h : ∀ p ∈ T1, p.1 ≠ s) : ∀ p ∈ stripT T1, p.1 ≠ s := fun p hp => by
  obtain ⟨x, hx, rfl⟩ := List.mem_map.mp hp
  exact h x hx
theorem free_stripR {T1 : RowA} {s : List Int} (h : ∀ p ∈ T1, p.1 ≠ s) : ∀ p ∈ stripR T1, p.1 ≠ s := fun p hp => by
  obtain ⟨x, hx, rfl⟩ := List.mem_map.mp hp
  exact h x hx
theorem line_of {n : Nat} (h : n ≤ 1001) : n < sizeLine := by
  rw [show sizeLine = 16777216 from sizeLine_eq]
  omega
theorem if_iff {α : Type} {p q : Prop} [Decidable p] [Decidable q] (h : p ↔ q) {a b : α} : (if p then a else b) = if q then a else b := by
  by_cases z : p
  · rw [if_pos z, if_pos (h.mp z)]
  · rw [if_neg z, if_neg fun y => z (h.mpr y)]
theorem perm_last {α : Type} {x y : α} {l : List α} : (x :: (l ++ [y])).Perm (y :: x :: l) := List.perm_append_singleton y (x :: l)
/-- the dict of targets stands in slot 5 -/
theorem tie3 (c : Clss K) {a tb ra ta : Addr} {width n : Int} {T1 T2 : TabA} {R1 R2 : RowA} {s f t : List Int} {ts : List (List Int)} (hl : ts.length ≤ 1000)
    (q : ∀ b ts', ts' = addTg t ts → Q (.bl b) (memM K a tb width (if t ∈ ts then n else n + 1) (T1 ++ (s, ra, R1 ++ (f, ta, ts') :: R2) :: T2))) :
    RnD ⟨K, E, X⟩ (tSeq (tIfS (tTest (tOp (rInA K) (tVar 3) (tVar 5))) (tRet (tC (.bl false))) (tNext))
    (tSeq (tAsg (tC (.bl true)) (gSub (tVar 5) (tVar 3) rSetA))
    (tSeq (sFldAug K (tVar 0) (tC (.int 1)) rAdd "total")
    (tRet (tC (.bl true)))))) [some (.ref a), some (tupI s), some (tupI f), some (tupI t), some (.ref ra), some (.ref ta)] (memM K a tb width n (T1 ++ (s, ra, R1 ++ (f, ta, ts) :: R2) :: T2)) (retE Q) := by
  have pm : (memM K a tb width n (T1 ++ (s, ra, R1 ++ (f, ta, ts) :: R2) :: T2)).Perm ((ta, MO.dT (tgK ts)) :: ((ra, MO.dT (rowKA (R1 ++ (f, ta, []) :: R2))) :: (memR R1 ++ memR R2) ++ restM K a tb width n T1 s ra T2)) :=
    perm_x.trans (List.Perm.append_right _ perm_y)
  refine rn_seq <| rn_if <| tt_test <| ev_op <| ev_var (d := keyD (keyI t)) (by rw [keyD_I]; rfl) <| ev_var (d := .ref ta) rfl <| od_inT (kvs := tgK ts) (pm.mem_iff.mpr List.mem_cons_self) ⟨_, rfl, ifB (fun h => ?_) fun h => ?_⟩
  · have hm : t ∈ ts := by
      by_cases z : t ∈ ts
      · exact z
      · have : valD (tgK ts) (keyI t) = none := valD_new (g := fun x => x) (v := fun _ => Dt.bl true) fun p hp e => z (e ▸ hp)
        rw [this] at h
        cases h
    refine rn_ret (ev_bl ?_)
    have := q false ts (by unfold addTg; rw [if_pos hm])
    rw [if_pos hm] at this
    exact this
  · have hm : t ∉ ts := fun z => by
      obtain ⟨l1, l2, e⟩ := List.append_of_mem z
      by_cases hf : ∀ p ∈ l1, p ≠ t
      · have : valD (tgK ts) (keyI t) = some (.bl true) := by
          rw [e]
          exact valD_at (g := fun x => x) (v := fun _ => Dt.bl true) rfl hf
        rw [this] at h
        cases h
      · have hall : ∀ (l : List (List Int)), t ∈ l → valD (tgK l) (keyI t) = some (.bl true) := fun l => by
          induction l with
          | nil => intro z; cases z
          | cons y r ih =>
            intro z
            unfold tgK
            rw [List.map_cons, valD_cons]
            by_cases q : y = t
            · rw [if_pos (by rw [q])]
            · rw [if_neg fun e => q (keyI_inj e)]
              rcases List.mem_cons.mp z with z | z
              · exact absurd z.symm q
              · exact ih z
        rw [hall ts z] at h
        cases h
    have hnone : valD (tgK ts) (keyI t) = none := valD_new (g := fun x => x) (v := fun _ => Dt.bl true) fun p hp e => hm (e ▸ hp)
    have et : tgK (ts ++ [t]) = tgK ts ++ [(keyI t, .bl true)] := List.map_append ..
    have pm2 : ((ta, MO.dT (tgK ts ++ [(keyI t, Dt.bl true)])) :: ((ra, MO.dT (rowKA (R1 ++ (f, ta, []) :: R2))) :: (memR R1 ++ memR R2) ++ restM K a tb width n T1 s ra T2)).Perm (memM K a tb width n (T1 ++ (s, ra, R1 ++ (f, ta, ts ++ [t]) :: R2) :: T2)) := by
      rw [← et]
      exact (perm_x.trans (List.Perm.append_right _ perm_y)).symm
    refine rn_next <| rn_seq <| rn_asg <| ev_bl <| gt_setT <| ev_var (d := .ref ta) rfl ⟨ta, rfl, ev_var (d := keyD (keyI t)) (by rw [keyD_I]; rfl) ⟨keyI t, tgK ts, _, rfl, pm, ?_, hnone, ?_⟩⟩
    · unfold tgK
      rw [List.length_map]
      exact line_of (by omega)
    · refine rn_perm pm2 ?_
      refine rn_seq <| rn_fldaug (i := n) (j := 1) c.cMachine c.nTotal <| ev_var (d := .ref a) rfl ⟨a, _, _, rfl, .refl _, by show 3 < 999; decide, rfl, ev_int ⟨rfl, rfl, rn_ret <| ev_bl ?_⟩⟩
      have := q true (ts ++ [t]) (by unfold addTg; rw [if_neg hm])
      rw [if_neg hm] at this
      exact this
/-- the row stands in slot 4 -/
theorem tie2 (c : Clss K) {a tb ra : Addr} {width n : Int} {T1 T2 : TabA} {r : RowA} {s f t : List Int} (hr : r.length ≤ 1000) (hl : ∀ y ∈ r, y.2.2.length ≤ 1000)
    (q : ∀ b r', stripR r' = addRow f t (stripR r) → Q (.bl b) (memM K a tb width (if t ∈ (getA f (stripR r)).getD [] then n else n + 1) (T1 ++ (s, ra, r') :: T2))) :
    RnD ⟨K, E, X⟩ (tSeq (tAsg (tDSetdT (tVar 4) (tVar 2) (tDNewT)) (gName 5))
    (tSeq (tIfS (tTest (tOp (rInA K) (tVar 3) (tVar 5))) (tRet (tC (.bl false))) (tNext))
    (tSeq (tAsg (tC (.bl true)) (gSub (tVar 5) (tVar 3) rSetA))
    (tSeq (sFldAug K (tVar 0) (tC (.int 1)) rAdd "total")
    (tRet (tC (.bl true))))))) [some (.ref a), some (tupI s), some (tupI f), some (tupI t), some (.ref ra), none] (memM K a tb width n (T1 ++ (s, ra, r) :: T2)) (retE Q) := by
  have pm : (memM K a tb width n (T1 ++ (s, ra, r) :: T2)).Perm ((ra, MO.dT (rowKA r)) :: (memR r ++ restM K a tb width n T1 s ra T2)) := perm_x
  refine rn_seq <| rn_asg <| ev_setdT <| ev_var (d := .ref ra) rfl ⟨ra, rfl, ⟨_, pm.mem_iff.mpr List.mem_cons_self⟩, ev_var (d := keyD (keyI f)) (by rw [keyD_I]; rfl) ⟨keyI f, rfl, ev_dnewT fun p => ⟨rowKA r, memR r ++ restM K a tb width n T1 s ra T2 ++ [(p, .dT [])], List.Perm.append_right _ pm, by unfold rowKA; rw [List.length_map]; exact line_of (by omega), fun d hd => ?_, fun hn => ?_⟩⟩⟩
  · -- there
    rcases split_or r f with ⟨R1, ⟨ta, ts⟩, R2, rfl, hf⟩ | hf
    · have hv : valD (rowKA (R1 ++ (f, ta, ts) :: R2)) (keyI f) = some (.ref ta) := valD_at (g := fun y : List Int × Addr × List (List Int) => y.1) (v := fun y => Dt.ref y.2.1) rfl hf
      rw [hv] at hd
      cases hd
      refine gt_name <| rn_forget (a := p) (mo := .dT []) (Mr := (ra, MO.dT (rowKA (R1 ++ (f, ta, ts) :: R2))) :: (memR (R1 ++ (f, ta, ts) :: R2) ++ restM K a tb width n T1 s ra T2)) perm_last <| rn_perm pm.symm ?_
      have eg : getA f (stripR (R1 ++ (f, ta, ts) :: R2)) = some ts := by
        rw [stripR_app]
        exact getA_at (free_stripR hf)
      refine tie3 c (hl _ (List.mem_append_right _ List.mem_cons_self)) fun b ts' e => ?_
      have := q b (R1 ++ (f, ta, ts') :: R2) (by
        unfold addRow
        rw [stripR_app, stripR_app]
        show _ = putA f _ (stripR R1 ++ (f, ts) :: stripR R2)
        rw [putA_at (free_stripR hf), e]
        rfl)
      rw [eg] at this
      exact this
    · have hv : valD (rowKA r) (keyI f) = none := valD_new (g := fun y : List Int × Addr × List (List Int) => y.1) (v := fun y => Dt.ref y.2.1) hf
      rw [hv] at hd
      cases hd
  · -- new
    rcases split_or r f with ⟨R1, ⟨ta, ts⟩, R2, rfl, hf⟩ | hf
    · have hv : valD (rowKA (R1 ++ (f, ta, ts) :: R2)) (keyI f) = some (.ref ta) := valD_at (g := fun y : List Int × Addr × List (List Int) => y.1) (v := fun y => Dt.ref y.2.1) rfl hf
      rw [hv] at hn
      cases hn
    · have er : rowKA (r ++ [(f, p, [])]) = rowKA r ++ [(keyI f, .ref p)] := List.map_append ..
      have em : memR (r ++ [(f, p, [])]) = memR r ++ [(p, .dT [])] := List.map_append ..
      have pm2 : ((ra, MO.dT (rowKA r ++ [(keyI f, Dt.ref p)])) :: (memR r ++ restM K a tb width n T1 s ra T2 ++ [(p, .dT [])])).Perm (memM K a tb width n (T1 ++ (s, ra, r ++ [(f, p, [])]) :: T2)) := by
        refine List.Perm.trans ?_ perm_x.symm
        unfold memX
        rw [er, em]
        refine List.Perm.cons _ ?_
        show (memR r ++ restM K a tb width n T1 s ra T2 ++ [(p, MO.dT [])]).Perm (memR r ++ [(p, MO.dT [])] ++ restM K a tb width n T1 s ra T2)
        rw [List.append_assoc, List.append_assoc]
        exact List.Perm.append_left _ List.perm_append_comm
      refine gt_name <| rn_perm pm2 ?_
      have eg : getA f (stripR r) = none := getA_new (free_stripR hf)
      refine tie3 (R1 := r) (R2 := []) (ts := []) c (Nat.zero_le _) fun b ts' e => ?_
      have := q b (r ++ [(f, p, ts')]) (by
        unfold addRow
        rw [stripR_app, putA_new (free_stripR hf), e]
        rfl)
      rw [eg] at this
      exact this
theorem rd_Machine_tie (c : Clss K) {ds : List Dt} {M : Mem} (h : S_Machine_tie K ds M Q X) : RnD ⟨K, E, X⟩ (t_Machine_tie K w E) (startG ["self", "source", "frame", "target", "row", "targets"] ds) M (retE Q) := by
  obtain ⟨a, tb, width, n, T, s, f, t, rfl, rfl, hz, q⟩ := h
  unfold t_Machine_tie
  have hmem : (tb, MO.dT (tabKA T)) ∈ memM K a tb width n T := List.mem_cons_of_mem _ List.mem_cons_self
  have pmT : (memM K a tb width n T).Perm ((tb, MO.dT (tabKA T)) :: (insM K a tb width n :: T.flatMap memX)) := List.Perm.swap _ _ _
  refine rn_seq <| rn_asg <| ev_setdT <| ev_fldM c.cMachine c.nTable <| ev_var (d := .ref a) rfl ⟨a, _, .ref tb, rfl, List.mem_cons_self, rfl, tb, rfl, ⟨_, hmem⟩, ev_var (d := keyD (keyI s)) (by rw [keyD_I]; rfl) ⟨keyI s, rfl, ev_dnewT fun p => ⟨tabKA T, (insM K a tb width n :: T.flatMap memX) ++ [(p, .dT [])], List.Perm.append_right _ pmT, by unfold tabKA; rw [List.length_map]; exact line_of (by have := hz.1; omega), fun d hd => ?_, fun hn => ?_⟩⟩⟩
  · rcases split_or T s with ⟨T1, ⟨ra, r⟩, T2, rfl, hf⟩ | hf
    · have hv : valD (tabKA (T1 ++ (s, ra, r) :: T2)) (keyI s) = some (.ref ra) := valD_at (g := fun y : List Int × Addr × RowA => y.1) (v := fun y => Dt.ref y.2.1) rfl hf
      rw [hv] at hd
      cases hd
      refine gt_name <| rn_forget (a := p) (mo := .dT []) (Mr := (tb, MO.dT (tabKA (T1 ++ (s, ra, r) :: T2))) :: (insM K a tb width n :: (T1 ++ (s, ra, r) :: T2).flatMap memX)) perm_last <| rn_perm pmT.symm ?_
      have hx := hz.2 (s, ra, r) (List.mem_append_right _ List.mem_cons_self)
      have eg : getA s (stripT (T1 ++ (s, ra, r) :: T2)) = some (stripR r) := by
        rw [stripT_app]
        exact getA_at (free_strip hf)
      refine tie2 c hx.1 hx.2 fun b r' e => ?_
      have := q b (T1 ++ (s, ra, r') :: T2) (by
        unfold addTie
        rw [stripT_app, stripT_app]
        show _ = putA s _ (stripT T1 ++ (s, stripR r) :: stripT T2)
        rw [putA_at (free_strip hf)]
        show stripT T1 ++ (s, stripR r') :: stripT T2 = _
        rw [e]
        rfl)
      rw [if_iff (q := t ∈ (getA f (stripR r)).getD []) (by show t ∈ (getA f ((getA s _).getD [])).getD [] ↔ _; rw [eg]; exact Iff.rfl)] at this
      exact this
    · have hv : valD (tabKA T) (keyI s) = none := valD_new (g := fun y : List Int × Addr × RowA => y.1) (v := fun y => Dt.ref y.2.1) hf
      rw [hv] at hd
      cases hd
  · rcases split_or T s with ⟨T1, ⟨ra, r⟩, T2, rfl, hf⟩ | hf
    · have hv : valD (tabKA (T1 ++ (s, ra, r) :: T2)) (keyI s) = some (.ref ra) := valD_at (g := fun y : List Int × Addr × RowA => y.1) (v := fun y => Dt.ref y.2.1) rfl hf
      rw [hv] at hn
      cases hn
    · have er : tabKA (T ++ [(s, p, [])]) = tabKA T ++ [(keyI s, .ref p)] := List.map_append ..
      have pm2 : ((tb, MO.dT (tabKA T ++ [(keyI s, Dt.ref p)])) :: ((insM K a tb width n :: T.flatMap memX) ++ [(p, .dT [])])).Perm (memM K a tb width n (T ++ [(s, p, [])])) := by
        unfold memM
        rw [er, List.flatMap_append]
        exact List.Perm.swap _ _ _
      refine gt_name <| rn_perm pm2 ?_
      have eg : getA s (stripT T) = none := getA_new (free_strip hf)
      refine tie2 (T1 := T) (T2 := []) (r := []) c (Nat.zero_le _) (fun y hy => by cases hy) fun b r' e => ?_
      have := q b (T ++ [(s, p, r')]) (by
        unfold addTie
        rw [stripT_app, putA_new (free_strip hf)]
        show stripT T ++ [(s, stripR r')] = _
        rw [e]
        rfl)
      rw [if_iff (q := t ∈ (getA f (stripR [])).getD []) (by show t ∈ (getA f ((getA s _).getD [])).getD [] ↔ _; rw [eg]; exact Iff.rfl)] at this
      exact this
end
end Lw
end

section
set_option Elab.async false
set_option linter.all false
set_option maxRecDepth 100000
set_option maxHeartbeats 4000000
namespace Lw
open PySem PySem.Spec PyProof.Rows L2 Evl
section
variable {K : PySem.W.Frag} {W H H2 : Hp} {M Mr : Mem} {F : List (Addr × HO)}
/-! ### a machine is known from here on -/
theorem frz_step {x : Addr} {kvs : List (List Key × Dt)} {r : List Addr} (s : St K W H ((x, .dT kvs) :: M) F) (f : Frzd H H2 (x :: r)) : ∃ W' H', Ex W W' ∧ Frzd H' H2 r ∧ St K W' H' M F ∧ DV K W' (.ref x) (.dT kvs) := by
  have hd := s.mem (x, .dT kvs) List.mem_cons_self
  obtain ⟨gs, hg, dm⟩ := hd.2
  have nd : (x :: (M.map (·.1) ++ F.map (·.1))).Nodup := s.nd
  obtain ⟨n1, n2⟩ := List.nodup_cons.mp nd
  have hM : ∀ q ∈ M, q.1 ≠ x := fun q hq e => n1 (List.mem_append_left _ (List.mem_map.mpr ⟨q, hq, e⟩))
  have hF : ∀ q ∈ F, q.1 ≠ x := fun q hq e => n1 (List.mem_append_right _ (List.mem_map.mpr ⟨q, hq, e⟩))
  cases f with
  | k o e t =>
    rw [show H x = _ from hg] at e
    cases e
  | t o e t =>
    rw [show H x = _ from hg] at e
    cases e
    have ex : Ex W (upd W x (.frz o (.dT gs))) := Ex.new hd.1
    refine ⟨upd W x (.frz o (.dT gs)), _, ex, t, ⟨fun b u hb => ?_, fun q hq => ⟨by rw [upd_ne (hM q hq)]; exact (s.mem q (List.mem_cons_of_mem _ hq)).1, (s.mem q (List.mem_cons_of_mem _ hq)).2.mono ex (upd_ne (hM q hq))⟩, fun q hq => ⟨by rw [upd_ne (hF q hq)]; exact (s.frm q hq).1, by rw [upd_ne (hF q hq)]; exact (s.frm q hq).2⟩, s.ntu, n2⟩, .dT upd_same dm.keys (dm.mono ex).at_⟩
    by_cases z : b = x
    · subst z
      rw [upd_same] at hb ⊢
      exact hb
    · rw [upd_ne z] at hb ⊢
      exact s.ex b u hb
theorem frz_row {as : List Addr} : ∀ {r : RowA} {W H : Hp}, St K W H (memR r ++ M) F → Frzd H H2 (r.map (fun y => y.2.1) ++ as) → ∃ W' H', Ex W W' ∧ Frzd H' H2 as ∧ St K W' H' M F ∧ ∀ y ∈ r, DV K W' (.ref y.2.1) (.dT (tgK y.2.2))
  | [], W, H, s, f => ⟨W, H, Ex.refl W, f, s, fun y hy => by cases hy⟩
  | y :: r, W, H, s, f => by
    obtain ⟨W1, H1, e1, f1, s1, d1⟩ := frz_step (M := memR r ++ M) s f
    obtain ⟨W2, H2', e2, f2, s2, d2⟩ := frz_row (r := r) s1 f1
    refine ⟨W2, H2', e1.trans e2, f2, s2, fun z hz => ?_⟩
    rcases List.mem_cons.mp hz with rfl | hz
    · exact d1.mono e2
    · exact d2 z hz
/-- refs replaced by what they stand for -/
theorem dvm_refs {α κ : Type} {gs : List (κ × V)} : ∀ {l : List α} {k : α → κ} {a : α → Addr} {d : α → Dt}, DVm K W gs (l.map fun x => (k x, Dt.ref (a x))) → (∀ x ∈ l, DV K W (.ref (a x)) (d x)) → DVm K W gs (l.map fun x => (k x, d x)) := fun {l k a d} => by
  induction l generalizing gs with
  | nil => intro h _; exact h
  | cons x l ih =>
    intro h hd
    obtain ⟨v, r, rfl, h1, h2⟩ := DVm.cons_inv (f := k x) (d := .ref (a x)) (fs := l.map fun x => (k x, Dt.ref (a x))) h
    cases h1
    exact .cons (hd x List.mem_cons_self) (ih h2 fun y hy => hd y (List.mem_cons_of_mem _ hy))
theorem St.redo {a : Addr} {mo mo' : MO} (s : St K W H ((a, mo) :: M) F) (h : MOk K W H a mo → MOk K W H a mo') : St K W H ((a, mo') :: M) F := by
  refine ⟨s.ex, fun q hq => ?_, s.frm, s.ntu, s.nd⟩
  rcases List.mem_cons.mp hq with rfl | hq
  · exact ⟨(s.mem (a, mo) List.mem_cons_self).1, h (s.mem (a, mo) List.mem_cons_self).2⟩
  · exact s.mem q (List.mem_cons_of_mem _ hq)
def adrX (x : List Int × Addr × RowA) : List Addr := x.2.2.map (fun y => y.2.1) ++ [x.2.1]
theorem frz_tab {as : List Addr} : ∀ {T : TabA} {W H : Hp}, St K W H (T.flatMap memX ++ M) F → Frzd H H2 (T.flatMap adrX ++ as) → ∃ W' H', Ex W W' ∧ Frzd H' H2 as ∧ St K W' H' M F ∧ ∀ x ∈ T, DV K W' (.ref x.2.1) (.dT (rowK (stripR x.2.2)))
  | [], W, H, s, f => ⟨W, H, Ex.refl W, f, s, fun y hy => by cases hy⟩
  | x :: T, W, H, s, f => by
    have p1 : ((x :: T).flatMap memX ++ M).Perm (memR x.2.2 ++ ((x.2.1, MO.dT (rowKA x.2.2)) :: (T.flatMap memX ++ M))) := by
      rw [List.flatMap_cons]
      show ((x.2.1, MO.dT (rowKA x.2.2)) :: ((memR x.2.2 ++ T.flatMap memX) ++ M)).Perm _
      refine List.Perm.trans ?_ List.perm_middle.symm
      rw [List.append_assoc]
    have e0 : (x :: T).flatMap adrX ++ as = x.2.2.map (fun y => y.2.1) ++ (x.2.1 :: (T.flatMap adrX ++ as)) := by
      rw [List.flatMap_cons]
      unfold adrX
      rw [List.append_assoc, List.append_assoc]
      rfl
    rw [e0] at f
    obtain ⟨W1, H1, e1, f1, s1, d1⟩ := frz_row (s.perm p1.symm) f
    have s2 : St K W1 H1 ((x.2.1, MO.dT (rowK (stripR x.2.2))) :: (T.flatMap memX ++ M)) F := s1.redo fun ⟨gs, hg, dm⟩ => ⟨gs, hg, by
      have := dvm_refs (d := fun y : List Int × Addr × List (List Int) => Dt.dT (tgK y.2.2)) dm d1
      unfold rowK stripR
      rw [List.map_map]
      exact this⟩
    obtain ⟨W2, H2', e2, f2, s3, d2⟩ := frz_step s2 f1
    obtain ⟨W3, H3, e3, f3, s4, d3⟩ := frz_tab (T := T) s3 f2
    refine ⟨W3, H3, (e1.trans e2).trans e3, f3, s4, fun z hz => ?_⟩
    rcases List.mem_cons.mp hz with rfl | hz
    · exact d2.mono e3
    · exact d3 z hz
theorem adr_perm : ∀ T : TabA, (T.flatMap adrX).Perm ((T.flatMap memX).map (·.1))
  | [] => .refl _
  | x :: T => by
    rw [List.flatMap_cons, List.flatMap_cons, List.map_append]
    refine List.Perm.append ?_ (adr_perm T)
    unfold adrX memX memR
    rw [List.map_cons, List.map_map]
    exact List.perm_append_comm
theorem memX_dct : ∀ {T : TabA} {p : Addr × MO}, p ∈ T.flatMap memX → ∃ kvs, p.2 = .dT kvs := fun {T p} h => by
  obtain ⟨x, _, hx⟩ := List.mem_flatMap.mp h
  rcases List.mem_cons.mp hx with rfl | hx
  · exact ⟨_, rfl⟩
  · obtain ⟨y, _, rfl⟩ := List.mem_map.mp hx
    exact ⟨_, rfl⟩
theorem ev_frzM {Z : Cq} {Γ : Gam} {M : Mem} {Q : Dt → Mem → Prop} {te : TE} (h : EvD Z te Γ M fun d M1 => ∃ a tb width n T Mr, d = .ref a ∧ M1.Perm (memM Z.K a tb width n T ++ Mr) ∧ Q (.ins (He.ga Z.K "Machine") (machF width n (stripT T))) Mr) : EvD Z (tFrz te) Γ M Q := fun F W H σ g s R k =>
  h F W H σ g s _ fun d M1 v W1 H1 ⟨a, tb, width, n, T, Mr, ed, pm, q⟩ e1 s1 d1 => by
    subst ed
    cases d1
    have p2 : (memM Z.K a tb width n T ++ Mr).Perm (T.flatMap memX ++ ((tb, MO.dT (tabKA T)) :: insM Z.K a tb width n :: Mr)) := by
      unfold memM
      show (insM Z.K a tb width n :: (tb, MO.dT (tabKA T)) :: (T.flatMap memX ++ Mr)).Perm _
      refine List.Perm.trans (List.Perm.swap _ _ _) ?_
      refine List.Perm.trans ?_ List.perm_middle.symm
      refine List.Perm.cons _ ?_
      exact List.perm_middle.symm
    have s2 := s1.perm ((pm.trans p2).symm)
    have nd := s2.nd
    rw [List.map_append, List.append_assoc] at nd
    have nd2 : ((T.flatMap memX).map (·.1) ++ [tb]).Nodup := by
      refine nd.sublist (List.Sublist.append_left ?_ _)
      exact (List.Sublist.cons₂ tb (List.nil_sublist _))
    refine ⟨T.flatMap adrX ++ [tb], (List.Perm.append_right _ (adr_perm T)).nodup_iff.mpr nd2, fun b hb => ?_, fun H2 f => ?_⟩
    · have hb2 : b ∈ (T.flatMap memX).map (·.1) ++ [tb] := (List.Perm.append_right _ (adr_perm T)).mem_iff.mp hb
      rcases List.mem_append.mp hb2 with z | z
      · obtain ⟨p, hp, rfl⟩ := List.mem_map.mp z
        obtain ⟨kvs, ek⟩ := memX_dct hp
        have ok := (s2.mem p (List.mem_append_left _ hp)).2
        rw [ek] at ok
        obtain ⟨gs, hg, _⟩ := ok
        exact ⟨_, hg, .inr ⟨gs, rfl⟩⟩
      · have := List.mem_singleton.mp z
        subst this
        obtain ⟨gs, hg, _⟩ := (s2.mem (b, MO.dT (tabKA T)) (List.mem_append_right _ List.mem_cons_self)).2
        exact ⟨_, hg, .inr ⟨gs, rfl⟩⟩
    · obtain ⟨W2, H2', e2, f2, s3, d2⟩ := frz_tab s2 f
      have s4 : St Z.K W2 H2' ((tb, MO.dT (tabK (stripT T))) :: insM Z.K a tb width n :: Mr) F := s3.redo fun ⟨gs, hg, dm⟩ => ⟨gs, hg, by
        have := dvm_refs (d := fun x : List Int × Addr × RowA => Dt.dT (rowK (stripR x.2.2))) dm d2
        unfold tabK stripT
        rw [List.map_map]
        exact this⟩
      obtain ⟨W3, H3, e3, f3, s5, d3⟩ := frz_step s4 f2
      cases f3
      have s6 : St Z.K W3 H2 ((a, MO.ins (He.ga Z.K "Machine") (machF width n (stripT T))) :: Mr) F := s5.redo fun ⟨dx, gs, hg, dm⟩ => by
        refine ⟨dx, gs, hg, ?_⟩
        obtain ⟨v1, r1, rfl, h1, dm1⟩ := dm.cons_inv
        obtain ⟨v2, r2, rfl, h2, dm2⟩ := dm1.cons_inv
        obtain ⟨v3, r3, rfl, h3, dm3⟩ := dm2.cons_inv
        obtain rfl := dm3.nil_inv
        cases h3
        exact .cons h1 (.cons h2 (.cons d3 .nil))
      obtain ⟨W4, e4, s7, d4⟩ := s6.know (.ins _ _)
      exact k _ _ _ _ _ q (((e1.trans e2).trans e3).trans e4) s7 d4
/-- the ties are known, or stand in a list of the caller's that stays as it is -/
def S_Machine_init (K : PySem.W.Frag) : SD := fun ds M Q _ => ∃ a width ties, ties.length ≤ 900 ∧ ((ds = [.ref a, .int width, .lst (ties.map tieD)] ∧ M = [(a, .ins (He.ga K "Machine") [])] ∧
  ∀ tb T, stripT T = (tabOf ties).1 → Q .non (memM K a tb width (tabOf ties).2 T)) ∨ ∃ h, ds = [.ref a, .int width, .ref h] ∧ M = [(a, .ins (He.ga K "Machine") []), (h, .lst (ties.map tieD))] ∧
  ∀ tb T, stripT T = (tabOf ties).1 → Q .non (memM K a tb width (tabOf ties).2 T ++ [(h, .lst (ties.map tieD))]))
/-- Machine(width, ties) -/
theorem ev_machine {Z : Cq} {Γ : Gam} {M : Mem} {Q : Dt → Mem → Prop} {tr : TA} (h : ArD Z tr Γ M fun ds M1 => ∃ width ties, ds = [.int width, .lst (ties.map tieD)] ∧ ties.length ≤ 900 ∧ Q (machD Z.K width ties) M1) :
    EvD Z (tFrz (tMake (He.ga Z.K "Machine") (toSp Z.K (S_Machine_init Z.K)) [] E0 tr)) Γ M Q :=
  ev_frzM <| ev_make fun F W H σ g s R k => h F W H σ g s R fun ds M1 vs W1 H1 ⟨width, ties, ed, hl, q⟩ e1 s1 d1 => k ds M1 vs W1 H1 (fun a => by
    subst ed
    exact ⟨[(a, .ins (He.ga Z.K "Machine") [])], M1, List.perm_append_comm, a, width, ties, hl, .inl ⟨rfl, rfl, fun tb T e => ⟨rfl, a, tb, width, _, T, M1, rfl, .refl _, by rw [e]; exact q⟩⟩⟩) e1 s1 d1
/-- the same, of a list that is written later -/
theorem ev_machineM {Z : Cq} {Γ : Gam} {M : Mem} {Q : Dt → Mem → Prop} {tr : TA} (h : ArD Z tr Γ M fun ds M1 => ∃ width ties l, ds = [.int width, .ref l] ∧ ties.length ≤ 900 ∧ M1 = [(l, .lst (ties.map tieD))] ∧ Q (machD Z.K width ties) M1) :
    EvD Z (tFrz (tMake (He.ga Z.K "Machine") (toSp Z.K (S_Machine_init Z.K)) [] E0 tr)) Γ M Q :=
  ev_frzM <| ev_make fun F W H σ g s R k => h F W H σ g s R fun ds M1 vs W1 H1 ⟨width, ties, l, ed, hl, em, q⟩ e1 s1 d1 => k ds M1 vs W1 H1 (fun a => by
    subst ed em
    exact ⟨[(a, .ins (He.ga Z.K "Machine") []), (l, .lst (ties.map tieD))], [], by rw [List.append_nil]; exact List.perm_append_comm, a, width, ties, hl, .inr ⟨l, rfl, rfl, fun tb T e => ⟨rfl, a, tb, width, _, T, [(l, .lst (ties.map tieD))], rfl, by rw [List.append_nil], by rw [e]; exact q⟩⟩⟩) e1 s1 d1
end
end Lw
end

section
set_option Elab.async false
set_option linter.all false
set_option maxRecDepth 100000
set_option maxHeartbeats 4000000
namespace Lw
open PySem PySem.Spec PyProof.Rows L2 Evl
open C8 (pe_gc)
variable {P : Program} {w : World} {K : PySem.W.Frag} {mg : Str → Option Value} {base : Heap}
/-! Machine.__init__ -/
abbrev s_Machine_init : Stmt := (inClass (top 34) 0)
theorem sc_Machine_init : FnScope ["self", "width", "ties", "source", "frame", "target"] ["self", "width", "ties"] (defScope s_Machine_init) := ⟨rfl, rfl, rfl, by decide +kernel, rfl, by decide +kernel, by decide +kernel⟩
def t_Machine_init (K : PySem.W.Frag) (w : World) (E : XK) : TS :=
    tSeq (sFld K (tVar 0) (tVar 1) "width")
    (tSeq (sFld K (tVar 0) (tC (.int 0)) "total")
    (tSeq (sFld K (tVar 0) (tDNewT) "table")
    (tFor (iAny K (tVar 2)) (gTup K 3 (gCons (gName 3) (gCons (gName 4) (gCons (gName 5) (gNil))))) (tDrop (tMeth (He.ga K "Machine") "tie" (toSp K (S_Machine_tie K)) [] E0 (tVar 0) (tCons (tVar 3) (tCons (tVar 4) (tCons (tVar 5) (tNil)))))))))
theorem der_Machine_init (T : Txt K mg) (c_Machine_tie : MtB P w K mg base 1 "Machine" "tie" (S_Machine_tie K)) {f : Addr} (cdv : Value) (A : Around) (outer : List Env) (s : Shared) (H : Hp) (E : XK) (hr : Room 1 (A.deeper (envOfC "Machine.__init__" (defScope s_Machine_init) s.heap.objs.size f cdv))) :
    PSs (cxOf (L2.CX P w) P w K mg base ["self", "width", "ties", "source", "frame", "target"] "Machine.__init__" (defScope s_Machine_init) f cdv A outer s H E) (defBody s_Machine_init) (t_Machine_init K w E) := by
  have tk := tk_of (P := P) (w := w) (K := K) (mg := mg) (base := base) (N := ["self", "width", "ties", "source", "frame", "target"]) (qual := "Machine.__init__") (scope := defScope s_Machine_init) (f := f) (cdv := cdv) (A := A) (outer := outer) (s := s) (H := H) (E := E)
  have po := po_of (P := P) (w := w) (K := K) (mg := mg) (base := base) (N := ["self", "width", "ties", "source", "frame", "target"]) (qual := "Machine.__init__") (scope := defScope s_Machine_init) (f := f) (cdv := cdv) (A := A) (outer := outer) (s := s) (H := H) (E := E)
  have hu1 := hu1_of hr
  have hu64 := hu64_of hr
  have hu65 := hu65_of hr
  unfold t_Machine_init
  exact pss_cons (ps_fld (pv 0) (pv 1) rfl)
    (pss_cons (ps_fld (pv 0) (pe_int) rfl)
    (pss_cons (ps_fld (pv 0) (pe_dnewT) rfl)
    (pss_one (ps_for po rfl (pi_any (pv 2)) (pg_tup rfl (pgs_cons (pg_name (i := 3) sc_Machine_init.nd rfl (by first | exact .inl rfl | exact .inr rfl)) (pgs_cons (pg_name (i := 4) sc_Machine_init.nd rfl (by first | exact .inl rfl | exact .inr rfl)) (pgs_cons (pg_name (i := 5) sc_Machine_init.nd rfl (by first | exact .inl rfl | exact .inr rfl)) (pgs_nil))))) (pss_one (ps_expr (pe_mthD c_Machine_tie hr (by decide) (pv 0) (pa_cons (pv 3) (pa_cons (pv 4) (pa_cons (pv 5) (pa_nil)))) rfl rfl rfl)))))))
end Lw
end

section
set_option Elab.async false
set_option linter.all false
set_option maxRecDepth 100000
set_option maxHeartbeats 4000000
namespace Lw
open PySem PySem.Spec PyProof.Rows L2 Evl
section
variable {K : PySem.W.Frag} {w : World} {E : XK} {X : Addr → List (Str × Dt) → Mem → Prop} {Q : Dt → Mem → Prop}
theorem putA_mem {β : Type} {k : List Int} {g : Option β → β} : ∀ {l : List (List Int × β)} {p : List Int × β}, p ∈ putA k g l → p ∈ l ∨ (p = (k, g none)) ∨ ∃ v, (k, v) ∈ l ∧ p = (k, g (some v))
  | [], p, h => .inr (.inl (List.mem_singleton.mp h))
  | (k', v) :: r, p, h => by
    unfold putA at h
    by_cases e : k' = k
    · rw [if_pos e] at h
      subst e
      rcases List.mem_cons.mp h with rfl | h
      · exact .inr (.inr ⟨v, List.mem_cons_self, rfl⟩)
      · exact .inl (List.mem_cons_of_mem _ h)
    · rw [if_neg e] at h
      rcases List.mem_cons.mp h with rfl | h
      · exact .inl List.mem_cons_self
      · rcases putA_mem h with z | z | ⟨u, z1, z2⟩
        · exact .inl (List.mem_cons_of_mem _ z)
        · exact .inr (.inl z)
        · exact .inr (.inr ⟨u, List.mem_cons_of_mem _ z1, z2⟩)
theorem putA_len {β : Type} {k : List Int} {g : Option β → β} : ∀ {l : List (List Int × β)}, (putA k g l).length ≤ l.length + 1
  | [] => Nat.le_refl _
  | (k', v) :: r => by
    unfold putA
    by_cases e : k' = k
    · rw [if_pos e]
      simp
    · rw [if_neg e]
      have := putA_len (k := k) (g := g) (l := r)
      simp only [List.length_cons]
      omega
def sizeR (n : Nat) (r : Row) : Prop := r.length ≤ n ∧ ∀ y ∈ r, y.2.length ≤ n
def sizeS (n : Nat) (t : Tab) : Prop := t.length ≤ n ∧ ∀ x ∈ t, sizeR n x.2
theorem addTg_len {t : List Int} {ts : List (List Int)} : (addTg t ts).length ≤ ts.length + 1 := by
  unfold addTg
  split
  · omega
  · rw [List.length_append]
    exact Nat.le_refl _
theorem sizeR_add {n : Nat} {r : Row} {f t : List Int} (h : sizeR n r) : sizeR (n + 1) (addRow f t r) := by
  refine ⟨Nat.le_trans putA_len (Nat.succ_le_succ h.1), fun y hy => ?_⟩
  rcases putA_mem hy with z | rfl | ⟨v, z, rfl⟩
  · exact Nat.le_succ_of_le (h.2 y z)
  · exact Nat.le_trans (addTg_len (ts := [])) (Nat.succ_le_succ (Nat.zero_le n))
  · exact Nat.le_trans addTg_len (Nat.succ_le_succ (h.2 _ z))
theorem sizeS_add {n : Nat} {t : Tab} {x : Trip} (h : sizeS n t) : sizeS (n + 1) (addTie x t) := by
  refine ⟨Nat.le_trans putA_len (Nat.succ_le_succ h.1), fun y hy => ?_⟩
  rcases putA_mem hy with z | rfl | ⟨v, z, rfl⟩
  · exact ⟨Nat.le_succ_of_le (h.2 y z).1, fun q hq => Nat.le_succ_of_le ((h.2 y z).2 q hq)⟩
  · exact sizeR_add ⟨Nat.zero_le _, fun y hy => by cases hy⟩
  · exact sizeR_add (h.2 _ z)
theorem tabOf_snoc (l : List Trip) (x : Trip) : tabOf (l ++ [x]) = stepT (tabOf l) x := by
  unfold tabOf
  rw [List.foldl_append]
  rfl
theorem tabOf_take {ties : List Trip} {i : Nat} {x : Trip} (h : ties[i]? = some x) : tabOf (ties.take (i + 1)) = stepT (tabOf (ties.take i)) x := by
  rw [List.take_succ, h]
  exact tabOf_snoc _ _
theorem sizeS_mono {n m : Nat} {t : Tab} (h : sizeS n t) (l : n ≤ m) : sizeS m t := ⟨Nat.le_trans h.1 l, fun x hx => ⟨Nat.le_trans (h.2 x hx).1 l, fun y hy => Nat.le_trans ((h.2 x hx).2 y hy) l⟩⟩
theorem sizeS_of : ∀ (n : Nat) (ties : List Trip), ties.length = n → sizeS n (tabOf ties).1
  | 0, ties, h => by
    rw [List.eq_nil_of_length_eq_zero h]
    exact ⟨Nat.le_refl _, fun x hx => by cases hx⟩
  | n + 1, ties, h => by
    have hne : ties ≠ [] := fun e => by rw [e] at h; cases h
    rw [← List.dropLast_concat_getLast hne, tabOf_snoc]
    exact sizeS_add (sizeS_of n _ (by rw [List.length_dropLast]; omega))
theorem sizeT_of {n : Nat} {T : TabA} (h : sizeS n (stripT T)) : sizeT n T := by
  refine ⟨by have := h.1; unfold stripT at this; rwa [List.length_map] at this, fun x hx => ?_⟩
  have h2 := h.2 (x.1, stripR x.2.2) (List.mem_map.mpr ⟨x, hx, rfl⟩)
  refine ⟨by have := h2.1; unfold stripR at this; rwa [List.length_map] at this, fun y hy => ?_⟩
  exact h2.2 (y.1, y.2.2) (List.mem_map.mpr ⟨y, hy, rfl⟩)
theorem rd_Machine_init (c : Clss K) {ds : List Dt} {M : Mem} (h : S_Machine_init K ds M Q X) : RnD ⟨K, E, X⟩ (t_Machine_init K w E) (startG ["self", "width", "ties", "source", "frame", "target"] ds) M (retE Q) := by
  obtain ⟨a, width, ties, hl, h | h⟩ := h
  · obtain ⟨rfl, rfl, q⟩ := h
    unfold t_Machine_init
    refine rn_seq <| rn_fld c.cMachine c.nWidth <| ev_var (d := .int width) rfl <| ev_var (d := .ref a) rfl ⟨a, [], [], rfl, .refl _, by decide, ?_⟩
    refine rn_seq <| rn_fld c.cMachine c.nTotal <| ev_int <| ev_var (d := .ref a) rfl ⟨a, _, [], rfl, .refl _, by show 1 < 1000; decide, ?_⟩
    refine rn_seq <| rn_fld c.cMachine c.nTable <| ev_dnewT fun tb => ev_var (d := .ref a) rfl ⟨a, _, [(tb, .dT [])], rfl, .refl _, by show 2 < 1000; decide, ?_⟩
    refine rn_for <| it_any <| ev_var (d := .lst (ties.map tieD)) rfl ⟨_, rfl, fun i Γ' M' => ∃ T x y z, stripT T = (tabOf (ties.take i)).1 ∧ M' = memM K a tb width (tabOf (ties.take i)).2 T ∧ Γ' = [some (.ref a), some (.int width), some (.lst (ties.map tieD)), x, y, z], ⟨[], none, none, none, rfl, rfl, rfl⟩, ?_, ?_⟩
    · rintro i d Γ' M' hd ⟨T, x, y, z, e, rfl, rfl⟩
      rw [List.getElem?_map] at hd
      obtain ⟨⟨s, f, t⟩, hi, rfl⟩ := Option.map_eq_some_iff.mp hd
      have hlt := (List.getElem?_eq_some_iff.mp hi).1
      have sz : sizeT 1000 T := by
        refine sizeT_of (sizeS_mono (n := i) ?_ (by omega))
        rw [e]
        exact sizeS_of i _ (by rw [List.length_take]; omega)
      refine gt_tup rfl <| gs_cons <| gt_name <| gs_cons <| gt_name <| gs_cons <| gt_name <| gs_nil ?_
      refine rn_drop <| ev_methM <| ev_var (d := .ref a) rfl ⟨a, _, rfl, List.mem_cons_self, rfl, ar_cons <| ev_var (d := tupI s) rfl <| ar_cons <| ev_var (d := tupI f) rfl <| ar_cons <| ev_var (d := tupI t) rfl <| ar_nil ⟨memM K a tb width (tabOf (ties.take i)).2 T, [], by rw [List.append_nil], a, tb, width, _, T, s, f, t, rfl, rfl, sz, fun b T' e' => ?_⟩⟩
      have ht := tabOf_take hi
      refine ⟨T', _, _, _, ?_, (List.append_nil _).trans ?_, rfl⟩
      · rw [e', e, ht]
        rfl
      · rw [ht, e]
        rfl
    · rintro Γ' M' ⟨T, x, y, z, e, rfl, rfl⟩
      rw [List.length_map, List.take_length] at e ⊢
      exact q tb T e
  · obtain ⟨h, rfl, rfl, q⟩ := h
    unfold t_Machine_init
    refine rn_seq <| rn_fld c.cMachine c.nWidth <| ev_var (d := .int width) rfl <| ev_var (d := .ref a) rfl ⟨a, [], [(h, .lst (ties.map tieD))], rfl, .refl _, by decide, ?_⟩
    refine rn_seq <| rn_fld c.cMachine c.nTotal <| ev_int <| ev_var (d := .ref a) rfl ⟨a, _, [(h, .lst (ties.map tieD))], rfl, .refl _, by show 1 < 1000; decide, ?_⟩
    refine rn_seq <| rn_fld c.cMachine c.nTable <| ev_dnewT fun tb => ev_var (d := .ref a) rfl ⟨a, _, [(h, .lst (ties.map tieD)), (tb, .dT [])], rfl, .refl _, by show 2 < 1000; decide, ?_⟩
    refine rn_perm (M' := memM K a tb width 0 [] ++ [(h, .lst (ties.map tieD))]) (List.Perm.cons _ (List.Perm.swap _ _ _)) ?_
    refine rn_forM <| ev_var (d := .ref h) rfl ⟨h, ties.map tieD, rfl, fun i Γ' M' => ∃ T x y z, stripT T = (tabOf (ties.take i)).1 ∧ M' = memM K a tb width (tabOf (ties.take i)).2 T ++ [(h, .lst (ties.map tieD))] ∧ Γ' = [some (.ref a), some (.int width), some (.ref h), x, y, z], ?_, ⟨[], none, none, none, rfl, rfl, rfl⟩, ?_, ?_⟩
    · rintro i Γ' M' ⟨T, x, y, z, e, rfl, rfl⟩
      exact List.mem_append_right _ List.mem_cons_self
    · rintro i d Γ' M' hd ⟨T, x, y, z, e, rfl, rfl⟩
      rw [List.getElem?_map] at hd
      obtain ⟨⟨s, f, t⟩, hi, rfl⟩ := Option.map_eq_some_iff.mp hd
      have hlt := (List.getElem?_eq_some_iff.mp hi).1
      have sz : sizeT 1000 T := by
        refine sizeT_of (sizeS_mono (n := i) ?_ (by omega))
        rw [e]
        exact sizeS_of i _ (by rw [List.length_take]; omega)
      refine gt_tup rfl <| gs_cons <| gt_name <| gs_cons <| gt_name <| gs_cons <| gt_name <| gs_nil ?_
      refine rn_drop <| ev_methM <| ev_var (d := .ref a) rfl ⟨a, _, rfl, List.mem_append_left _ List.mem_cons_self, rfl, ar_cons <| ev_var (d := tupI s) rfl <| ar_cons <| ev_var (d := tupI f) rfl <| ar_cons <| ev_var (d := tupI t) rfl <| ar_nil ⟨memM K a tb width (tabOf (ties.take i)).2 T, [(h, .lst (ties.map tieD))], .refl _, a, tb, width, _, T, s, f, t, rfl, rfl, sz, fun b T' e' => ?_⟩⟩
      have ht := tabOf_take hi
      refine ⟨T', _, _, _, ?_, congrArg (· ++ [(h, MO.lst (ties.map tieD))]) ?_, rfl⟩
      · rw [e', e, ht]
        rfl
      · rw [ht, e]
        rfl
    · rintro Γ' M' ⟨T, x, y, z, e, rfl, rfl⟩
      rw [List.length_map, List.take_length] at e ⊢
      exact q tb T e
end
end Lw
end

section
set_option Elab.async false
set_option linter.all false
set_option maxRecDepth 100000
set_option maxHeartbeats 4000000
namespace Lw
open PySem PySem.Spec PyProof.Rows L2 Evl

/-! ### what a known machine tells -/
structure TabWf (t : Tab) : Prop where
  nd : (t.map (·.1)).Nodup
  ndr : ∀ p ∈ t, (p.2.map (·.1)).Nodup
  sz : sizeS 1000 t
def pairsR (r : Row) : List (List Int × List Int) := r.flatMap fun q => q.2.map fun t => (q.1, t)
def pairD (p : List Int × List Int) : Dt := .tup [tupI p.1, tupI p.2]
def flatT (t : Tab) : List Trip := t.flatMap fun p => (pairsR p.2).map fun q => (p.1, q.1, q.2)
def headsT (width : Int) (t : Tab) : List (List Int × List Int) := t.flatMap fun p => if (p.1.length : Int) = width then p.2.map fun q => (p.1, q.1) else []
def mach (K : PySem.W.Frag) (width n : Int) (t : Tab) : Dt := .ins (He.ga K "Machine") (machF width n t)
inductive R_ties_from (K : PySem.W.Frag) : List Dt → Dt → Prop
  | mk (width n : Int) (t : Tab) (s : List Int) (r : Row) (h : (s, r) ∈ t) (wf : TabWf t) : R_ties_from K [mach K width n t, tupI s] (.lst ((pairsR r).map pairD))
def S_Machine_ties_from (K : PySem.W.Frag) := relS (R_ties_from K)
inductive R_rows (K : PySem.W.Frag) : List Dt → Dt → Prop
  | mk (width n : Int) (t : Tab) (wf : TabWf t) (hl : (flatT t).length ≤ 1000) : R_rows K [mach K width n t] (.lst (sortD ((flatT t).map tieD)))
def S_Machine_rows (K : PySem.W.Frag) := relS (R_rows K)
inductive R_heads (K : PySem.W.Frag) : List Dt → Dt → Prop
  | mk (width n : Int) (t : Tab) (wf : TabWf t) (hl : (headsT width t).length ≤ 1000) : R_heads K [mach K width n t] (.lst (sortD ((headsT width t).map pairD)))
def S_Machine_heads (K : PySem.W.Frag) := relS (R_heads K)
def benD (p : List Int × Int) : Dt := .tup [tupI p.1, .int p.2]
def htsF (m : Dt) (ps : List (List Int × Int)) : List (Str × Dt) := [("machine", m), ("beneath", .lst (ps.map benD))]
inductive R_Heights_init : List Dt → List (Str × Dt) → Prop
  | mk (m : Dt) (ps : List (List Int × Int)) (h : ps.length ≤ 1000) : R_Heights_init [m, .lst (ps.map benD)] (htsF m ps)
def S_Heights_init (K : PySem.W.Frag) := initS (He.ga K "Heights") R_Heights_init
inductive R_Ring_init : List Dt → List (Str × Dt) → Prop
  | mk (l r : Dt) : R_Ring_init [l, r] [("lead", l), ("loop", r)]
def S_Ring_init (K : PySem.W.Frag) := initS (He.ga K "Ring") R_Ring_init
/-! lines of papers -/
def tieW (t : Trip) : List Str := ["tie", partT t.1, partT t.2.1, partT t.2.2]
def benW (p : List Int × Int) : List Str := ["beneath", partT p.1, numT p.2]
def runLs (word : Str) (ms : List (Int × Str)) (st : Int) : List (List Str) := [word, numT st] :: ms.map askW
def machLs (width : Int) (ties : List Trip) : List (List Str) := ["machine", numT width] :: ties.map tieW
def tiesOk (ties : List Trip) : Prop := (∀ t ∈ ties, numsOk t.1 ∧ numsOk t.2.1 ∧ numsOk t.2.2) ∧ ties.length ≤ 900
def pairsOk (ps : List (List Int × Int)) : Prop := (∀ p ∈ ps, numsOk p.1 ∧ cntOk p.2) ∧ ps.length ≤ 1000
inductive R_machine_from (K : PySem.W.Frag) : List Dt → Dt → Prop
  | mk (width : Int) (ties : List Trip) (post : List (List Str)) (h1 : cntOk width) (h2 : tiesOk ties) (h3 : Other "tie" post) : R_machine_from K [linesD (machLs width ties ++ post)] (.tup [machD K width ties, .int (ties.length : Nat)])
def S_machine_from (K : PySem.W.Frag) := relS (R_machine_from K)
def ringD (l r : Dt) (K : PySem.W.Frag) : Dt := .ins (He.ga K "Ring") [("lead", l), ("loop", r)]
def htsD (m : Dt) (ps : List (List Int × Int)) (K : PySem.W.Frag) : Dt := .ins (He.ga K "Heights") (htsF m ps)
inductive PaperR (K : PySem.W.Frag) : List (List Str) → Dt → Prop
  | run (ms : List (Int × Str)) (st : Int) (h1 : cntOk st) (h2 : momsOk ms) : PaperR K (runLs "run" ms st) (runD K ms st)
  | ring (ms ms2 : List (Int × Str)) (st st2 : Int) (h1 : cntOk st) (h2 : momsOk ms) (h3 : cntOk st2) (h4 : momsOk ms2) : PaperR K (runLs "ring" ms st ++ runLs "loop" ms2 st2) (ringD (runD K ms st) (runD K ms2 st2) K)
  | mach (width : Int) (ties : List Trip) (h1 : cntOk width) (h2 : tiesOk ties) : PaperR K (machLs width ties) (machD K width ties)
  | hts (width : Int) (ties : List Trip) (ps : List (List Int × Int)) (h1 : cntOk width) (h2 : tiesOk ties) (h3 : pairsOk ps) (h4 : ps ≠ []) : PaperR K (machLs width ties ++ ps.map benW) (htsD (machD K width ties) ps K)
def lineT (l : List Str) : Str := Txt.join " " l
def textT (ls : List (List Str)) : Str := Txt.join "\n" (ls.map lineT)
inductive R_read_paper (K : PySem.W.Frag) : List Dt → Dt → Prop
  | mk (ls : List (List Str)) (d : Dt) (h : PaperR K ls d) : R_read_paper K [.str (textT ls)] d
def S_read_paper (K : PySem.W.Frag) := relS (R_read_paper K)
def textsD (ls : List (List Str)) : Dt := .lst ((ls.map lineT).map Dt.str)
inductive R_run_lines (K : PySem.W.Frag) : List Dt → Dt → Prop
  | mk (ms : List (Int × Str)) (st : Int) (word : Str) (h1 : cntOk st) (h2 : momsOk ms) (h3 : word.length ≤ 10) : R_run_lines K [runD K ms st, .str word] (textsD (runLs word ms st))
def S_run_lines (K : PySem.W.Frag) := relS (R_run_lines K)
/-- what rows tells, as ties -/
def RowsAre (t : Tab) (once : List Trip) : Prop := TabWf t ∧ (flatT t).length ≤ 1000 ∧ sortD ((flatT t).map tieD) = once.map tieD
def S_machine_lines (K : PySem.W.Frag) : SD := fun ds M Q _ => M = [] ∧ ∃ width n t once, ds = [mach K width n t] ∧ cntOk width ∧ tiesOk once ∧ RowsAre t once ∧ ∀ p, Q (.ref p) [(p, .lst (((machLs width once).map lineT).map Dt.str))]
inductive R_print_paper (K : PySem.W.Frag) : List Dt → Dt → Prop
  | run (ms : List (Int × Str)) (st : Int) (h1 : cntOk st) (h2 : momsOk ms) : R_print_paper K [runD K ms st] (.str (textT (runLs "run" ms st)))
  | ring (ms ms2 : List (Int × Str)) (st st2 : Int) (h1 : cntOk st) (h2 : momsOk ms) (h3 : cntOk st2) (h4 : momsOk ms2) : R_print_paper K [ringD (runD K ms st) (runD K ms2 st2) K] (.str (textT (runLs "ring" ms st ++ runLs "loop" ms2 st2)))
  | mach (width n : Int) (t : Tab) (once : List Trip) (h1 : cntOk width) (h2 : tiesOk once) (h3 : RowsAre t once) : R_print_paper K [mach K width n t] (.str (textT (machLs width once)))
  | hts (width n : Int) (t : Tab) (once : List Trip) (ps : List (List Int × Int)) (h1 : cntOk width) (h2 : tiesOk once) (h3 : RowsAre t once) (h5 : pairsOk ps) : R_print_paper K [htsD (mach K width n t) ps K] (.str (textT (machLs width once ++ ps.map benW)))
def S_print_paper (K : PySem.W.Frag) := relS (R_print_paper K)
structure Isis (K : PySem.W.Frag) : Prop where
  iRun : C8.InsC K (He.ga K "Run")
  iRing : C8.InsC K (He.ga K "Ring")
  iHeights : C8.InsC K (He.ga K "Heights")
  iMachine : C8.InsC K (He.ga K "Machine")
  ringRun : PySem.W.kitOne K (.ref (He.ga K "Ring")) (.ref (He.ga K "Run")) = some false
  machRun : PySem.W.kitOne K (.ref (He.ga K "Machine")) (.ref (He.ga K "Run")) = some false
  machRing : PySem.W.kitOne K (.ref (He.ga K "Machine")) (.ref (He.ga K "Ring")) = some false
  machHts : PySem.W.kitOne K (.ref (He.ga K "Machine")) (.ref (He.ga K "Heights")) = some false
  htsRun : PySem.W.kitOne K (.ref (He.ga K "Heights")) (.ref (He.ga K "Run")) = some false
  htsRing : PySem.W.kitOne K (.ref (He.ga K "Heights")) (.ref (He.ga K "Ring")) = some false
end Lw
end

section
set_option Elab.async false
set_option linter.all false
set_option maxRecDepth 100000
set_option maxHeartbeats 4000000
namespace Lw
open PySem PySem.Spec PyProof.Rows L2 Evl
open C8 (pe_gc)
variable {P : Program} {w : World} {K : PySem.W.Frag} {mg : Str → Option Value} {base : Heap}
/-! Machine.ties_from -/
abbrev s_Machine_ties_from : Stmt := (inClass (top 34) 2)
theorem sc_Machine_ties_from : FnScope ["self", "source", "row", "frame", "target"] ["self", "source"] (defScope s_Machine_ties_from) := ⟨rfl, rfl, rfl, by decide +kernel, rfl, by decide +kernel, by decide +kernel⟩
def t_Machine_ties_from (K : PySem.W.Frag) (w : World) (E : XK) : TS :=
    tSeq (tAsg (tDGet2 (tFld K (tVar 0) "table") (tVar 1) (tDNewT)) (gName 2))
    (tRet (tLc2 (iAny K (tVar 2)) (gName 3) (tYes) (iAny K (tOp (rIxA K w) (tVar 2) (tVar 3))) (gName 4) (tYes) (tTup (tCons (tVar 3) (tCons (tVar 4) (tNil)))) [3, 4] [4]))
theorem der_Machine_ties_from (T : Txt K mg) {f : Addr} (cdv : Value) (A : Around) (outer : List Env) (s : Shared) (H : Hp) (E : XK) (hr : Room 0 (A.deeper (envOfC "Machine.ties_from" (defScope s_Machine_ties_from) s.heap.objs.size f cdv))) :
    PSs (cxOf (L2.CX P w) P w K mg base ["self", "source", "row", "frame", "target"] "Machine.ties_from" (defScope s_Machine_ties_from) f cdv A outer s H E) (defBody s_Machine_ties_from) (t_Machine_ties_from K w E) := by
  have tk := tk_of (P := P) (w := w) (K := K) (mg := mg) (base := base) (N := ["self", "source", "row", "frame", "target"]) (qual := "Machine.ties_from") (scope := defScope s_Machine_ties_from) (f := f) (cdv := cdv) (A := A) (outer := outer) (s := s) (H := H) (E := E)
  have po := po_of (P := P) (w := w) (K := K) (mg := mg) (base := base) (N := ["self", "source", "row", "frame", "target"]) (qual := "Machine.ties_from") (scope := defScope s_Machine_ties_from) (f := f) (cdv := cdv) (A := A) (outer := outer) (s := s) (H := H) (E := E)
  have hu1 := hu1_of hr
  have hu64 := hu64_of hr
  have hu65 := hu65_of hr
  unfold t_Machine_ties_from
  exact pss_cons (ps_set (i := 2) sc_Machine_ties_from.nd rfl (by first | exact .inl rfl | exact .inr rfl) (pe_dget2 hu1 (pe_fld (pv 0) rfl) (pv 1) (pe_dnewT) ⟨rfl, rfl, rfl, rfl⟩))
    (pss_one (ps_ret (pe_lc2 (own := [("frame", 3), ("target", 4)]) (vs1 := [4]) rfl sc_Machine_ties_from.nd (pi_any (pv 2)) (blkOk_by (own := [("frame", 3), ("target", 4)]) (N := ["self", "source", "row", "frame", "target"]) (sc := defScope s_Machine_ties_from) (by decide +kernel)) (by decide) (fun _ _ _ _ _ => pg_name (i := 3) sc_Machine_ties_from.nd rfl (by first | exact .inl rfl | exact .inr rfl)) (fun _ _ _ _ _ => pts_nil) (fun _ _ _ _ _ => pi_any (pe_ix (ix_A hu1) (pv 2) (pv 3) (fun _ _ => rfl))) (fun _ _ _ _ _ => pg_name (i := 4) sc_Machine_ties_from.nd rfl (by first | exact .inl rfl | exact .inr rfl)) (fun _ _ _ _ _ => pts_nil) (fun _ _ _ _ _ => pe_tup (pa_cons (pv 3) (pa_cons (pv 4) (pa_nil)))))))
/-! Machine.rows -/
abbrev s_Machine_rows : Stmt := (inClass (top 34) 3)
theorem sc_Machine_rows : FnScope ["self", "source", "frame", "target"] ["self"] (defScope s_Machine_rows) := ⟨rfl, rfl, rfl, by decide +kernel, rfl, by decide +kernel, by decide +kernel⟩
def t_Machine_rows (K : PySem.W.Frag) (w : World) (E : XK) : TS :=
    tRet (tCB (rSortedA K) (tCons (tLc2 (iAny K (tFld K (tVar 0) "table")) (gName 1) (tYes) (iAny K (tMeth (He.ga K "Machine") "ties_from" (toSp K (S_Machine_ties_from K)) [] E0 (tVar 0) (tCons (tVar 1) (tNil)))) (gTup K 2 (gCons (gName 2) (gCons (gName 3) (gNil)))) (tYes) (tTup (tCons (tVar 1) (tCons (tVar 2) (tCons (tVar 3) (tNil))))) [1, 2, 3] [2, 3]) (tNil)))
theorem der_Machine_rows (T : Txt K mg) (c_Machine_ties_from : MtB P w K mg base 1 "Machine" "ties_from" (S_Machine_ties_from K)) {f : Addr} (cdv : Value) (A : Around) (outer : List Env) (s : Shared) (H : Hp) (E : XK) (hr : Room 1 (A.deeper (envOfC "Machine.rows" (defScope s_Machine_rows) s.heap.objs.size f cdv))) :
    PSs (cxOf (L2.CX P w) P w K mg base ["self", "source", "frame", "target"] "Machine.rows" (defScope s_Machine_rows) f cdv A outer s H E) (defBody s_Machine_rows) (t_Machine_rows K w E) := by
  have tk := tk_of (P := P) (w := w) (K := K) (mg := mg) (base := base) (N := ["self", "source", "frame", "target"]) (qual := "Machine.rows") (scope := defScope s_Machine_rows) (f := f) (cdv := cdv) (A := A) (outer := outer) (s := s) (H := H) (E := E)
  have po := po_of (P := P) (w := w) (K := K) (mg := mg) (base := base) (N := ["self", "source", "frame", "target"]) (qual := "Machine.rows") (scope := defScope s_Machine_rows) (f := f) (cdv := cdv) (A := A) (outer := outer) (s := s) (H := H) (E := E)
  have hu1 := hu1_of hr
  have hu64 := hu64_of hr
  have hu65 := hu65_of hr
  unfold t_Machine_rows
  exact pss_one (ps_ret (pe_callB (call_sortedA hu65) (by rfl) T.b_sorted (by decide +kernel) (pa_cons (pe_lc2 (own := [("source", 1), ("frame", 2), ("target", 3)]) (vs1 := [2, 3]) rfl sc_Machine_rows.nd (pi_any (pe_fld (pv 0) rfl)) (blkOk_by (own := [("source", 1), ("frame", 2), ("target", 3)]) (N := ["self", "source", "frame", "target"]) (sc := defScope s_Machine_rows) (by decide +kernel)) (by decide) (fun _ _ _ _ _ => pg_name (i := 1) sc_Machine_rows.nd rfl (by first | exact .inl rfl | exact .inr rfl)) (fun _ _ _ _ _ => pts_nil) (fun _ _ _ _ _ => pi_any (pe_mthD c_Machine_ties_from hr (by decide) (pv 0) (pa_cons (pv 1) (pa_nil)) rfl rfl rfl)) (fun _ _ _ _ _ => pg_tup rfl (pgs_cons (pg_name (i := 2) sc_Machine_rows.nd rfl (by first | exact .inl rfl | exact .inr rfl)) (pgs_cons (pg_name (i := 3) sc_Machine_rows.nd rfl (by first | exact .inl rfl | exact .inr rfl)) (pgs_nil)))) (fun _ _ _ _ _ => pts_nil) (fun _ _ _ _ _ => pe_tup (pa_cons (pv 1) (pa_cons (pv 2) (pa_cons (pv 3) (pa_nil)))))) (pa_nil))))
/-! Machine.heads -/
abbrev s_Machine_heads : Stmt := (inClass (top 34) 4)
theorem sc_Machine_heads : FnScope ["self", "source", "frame"] ["self"] (defScope s_Machine_heads) := ⟨rfl, rfl, rfl, by decide +kernel, rfl, by decide +kernel, by decide +kernel⟩
def t_Machine_heads (K : PySem.W.Frag) (w : World) (E : XK) : TS :=
    tRet (tCB (rSortedA K) (tCons (tLc2 (iAny K (tFld K (tVar 0) "table")) (gName 1) (tTest (tOp (rEqA K) (tCB (rLenA K) (tCons (tVar 1) (tNil))) (tFld K (tVar 0) "width"))) (iAny K (tOp (rIxA K w) (tFld K (tVar 0) "table") (tVar 1))) (gName 2) (tYes) (tTup (tCons (tVar 1) (tCons (tVar 2) (tNil)))) [1, 2] [2]) (tNil)))
theorem der_Machine_heads (T : Txt K mg) {f : Addr} (cdv : Value) (A : Around) (outer : List Env) (s : Shared) (H : Hp) (E : XK) (hr : Room 0 (A.deeper (envOfC "Machine.heads" (defScope s_Machine_heads) s.heap.objs.size f cdv))) :
    PSs (cxOf (L2.CX P w) P w K mg base ["self", "source", "frame"] "Machine.heads" (defScope s_Machine_heads) f cdv A outer s H E) (defBody s_Machine_heads) (t_Machine_heads K w E) := by
  have tk := tk_of (P := P) (w := w) (K := K) (mg := mg) (base := base) (N := ["self", "source", "frame"]) (qual := "Machine.heads") (scope := defScope s_Machine_heads) (f := f) (cdv := cdv) (A := A) (outer := outer) (s := s) (H := H) (E := E)
  have po := po_of (P := P) (w := w) (K := K) (mg := mg) (base := base) (N := ["self", "source", "frame"]) (qual := "Machine.heads") (scope := defScope s_Machine_heads) (f := f) (cdv := cdv) (A := A) (outer := outer) (s := s) (H := H) (E := E)
  have hu1 := hu1_of hr
  have hu64 := hu64_of hr
  have hu65 := hu65_of hr
  unfold t_Machine_heads
  exact pss_one (ps_ret (pe_callB (call_sortedA hu65) (by rfl) T.b_sorted (by decide +kernel) (pa_cons (pe_lc2 (own := [("source", 1), ("frame", 2)]) (vs1 := [2]) rfl sc_Machine_heads.nd (pi_any (pe_fld (pv 0) rfl)) (blkOk_by (own := [("source", 1), ("frame", 2)]) (N := ["self", "source", "frame"]) (sc := defScope s_Machine_heads) (by decide +kernel)) (by decide) (fun _ _ _ _ _ => pg_name (i := 1) sc_Machine_heads.nd rfl (by first | exact .inl rfl | exact .inr rfl)) (fun _ _ _ _ _ => pts_one (pt_cmpR (op_eqA hu64) (pe_callB call_lenA (by rfl) T.b_len (by decide +kernel) (pa_cons (pv 1) (pa_nil))) (pe_fld (pv 0) rfl) (nomark _))) (fun _ _ _ _ _ => pi_any (pe_ix (ix_A hu1) (pe_fld (pv 0) rfl) (pv 1) (fun _ _ => rfl))) (fun _ _ _ _ _ => pg_name (i := 2) sc_Machine_heads.nd rfl (by first | exact .inl rfl | exact .inr rfl)) (fun _ _ _ _ _ => pts_nil) (fun _ _ _ _ _ => pe_tup (pa_cons (pv 1) (pa_cons (pv 2) (pa_nil))))) (pa_nil))))
/-! Ring.__init__ -/
abbrev s_Ring_init : Stmt := (inClass (top 36) 0)
theorem sc_Ring_init : FnScope ["self", "lead", "loop"] ["self", "lead", "loop"] (defScope s_Ring_init) := ⟨rfl, rfl, rfl, by decide +kernel, rfl, by decide +kernel, by decide +kernel⟩
def t_Ring_init (K : PySem.W.Frag) (w : World) (E : XK) : TS :=
    tSeq (sFld K (tVar 0) (tVar 1) "lead")
    (sFld K (tVar 0) (tVar 2) "loop")
theorem der_Ring_init (T : Txt K mg) {f : Addr} (cdv : Value) (A : Around) (outer : List Env) (s : Shared) (H : Hp) (E : XK) (hr : Room 0 (A.deeper (envOfC "Ring.__init__" (defScope s_Ring_init) s.heap.objs.size f cdv))) :
    PSs (cxOf (L2.CX P w) P w K mg base ["self", "lead", "loop"] "Ring.__init__" (defScope s_Ring_init) f cdv A outer s H E) (defBody s_Ring_init) (t_Ring_init K w E) := by
  have tk := tk_of (P := P) (w := w) (K := K) (mg := mg) (base := base) (N := ["self", "lead", "loop"]) (qual := "Ring.__init__") (scope := defScope s_Ring_init) (f := f) (cdv := cdv) (A := A) (outer := outer) (s := s) (H := H) (E := E)
  have po := po_of (P := P) (w := w) (K := K) (mg := mg) (base := base) (N := ["self", "lead", "loop"]) (qual := "Ring.__init__") (scope := defScope s_Ring_init) (f := f) (cdv := cdv) (A := A) (outer := outer) (s := s) (H := H) (E := E)
  have hu1 := hu1_of hr
  have hu64 := hu64_of hr
  have hu65 := hu65_of hr
  unfold t_Ring_init
  exact pss_cons (ps_fld (pv 0) (pv 1) rfl)
    (pss_one (ps_fld (pv 0) (pv 2) rfl))
/-! Heights.__init__ -/
abbrev s_Heights_init : Stmt := (inClass (top 39) 0)
theorem sc_Heights_init : FnScope ["self", "machine", "beneath", "state", "number"] ["self", "machine", "beneath"] (defScope s_Heights_init) := ⟨rfl, rfl, rfl, by decide +kernel, rfl, by decide +kernel, by decide +kernel⟩
def t_Heights_init (K : PySem.W.Frag) (w : World) (E : XK) : TS :=
    tSeq (sFld K (tVar 0) (tVar 1) "machine")
    (sFld K (tVar 0) (tLc (iAny K (tVar 2)) (gTup K 2 (gCons (gName 3) (gCons (gName 4) (gNil)))) (tYes) (tTup (tCons (tVar 3) (tCons (tVar 4) (tNil)))) [3, 4]) "beneath")
theorem der_Heights_init (T : Txt K mg) {f : Addr} (cdv : Value) (A : Around) (outer : List Env) (s : Shared) (H : Hp) (E : XK) (hr : Room 0 (A.deeper (envOfC "Heights.__init__" (defScope s_Heights_init) s.heap.objs.size f cdv))) :
    PSs (cxOf (L2.CX P w) P w K mg base ["self", "machine", "beneath", "state", "number"] "Heights.__init__" (defScope s_Heights_init) f cdv A outer s H E) (defBody s_Heights_init) (t_Heights_init K w E) := by
  have tk := tk_of (P := P) (w := w) (K := K) (mg := mg) (base := base) (N := ["self", "machine", "beneath", "state", "number"]) (qual := "Heights.__init__") (scope := defScope s_Heights_init) (f := f) (cdv := cdv) (A := A) (outer := outer) (s := s) (H := H) (E := E)
  have po := po_of (P := P) (w := w) (K := K) (mg := mg) (base := base) (N := ["self", "machine", "beneath", "state", "number"]) (qual := "Heights.__init__") (scope := defScope s_Heights_init) (f := f) (cdv := cdv) (A := A) (outer := outer) (s := s) (H := H) (E := E)
  have hu1 := hu1_of hr
  have hu64 := hu64_of hr
  have hu65 := hu65_of hr
  unfold t_Heights_init
  exact pss_cons (ps_fld (pv 0) (pv 1) rfl)
    (pss_one (ps_fld (pv 0) (pe_lc (own := [("state", 3), ("number", 4)]) rfl sc_Heights_init.nd (pi_any (pv 2)) (blkOk_by (own := [("state", 3), ("number", 4)]) (N := ["self", "machine", "beneath", "state", "number"]) (sc := defScope s_Heights_init) (by decide +kernel)) (fun _ _ _ _ _ => pg_tup rfl (pgs_cons (pg_name (i := 3) sc_Heights_init.nd rfl (by first | exact .inl rfl | exact .inr rfl)) (pgs_cons (pg_name (i := 4) sc_Heights_init.nd rfl (by first | exact .inl rfl | exact .inr rfl)) (pgs_nil)))) (fun _ _ _ _ _ => pts_nil) (fun _ _ _ _ _ => pe_tup (pa_cons (pv 3) (pa_cons (pv 4) (pa_nil))))) rfl))
/-! machine_from -/
abbrev s_machine_from : Stmt := (top 47)
theorem sc_machine_from : FnScope ["lines", "width", "ties"] ["lines"] (defScope s_machine_from) := ⟨rfl, rfl, rfl, by decide +kernel, rfl, by decide +kernel, by decide +kernel⟩
def t_machine_from (K : PySem.W.Frag) (w : World) (E : XK) : TS :=
    tSeq (tAsg (tOp (rIxA K w) (tCall (toSp K (S_values_at K)) [] E0 (tCons (tVar 0) (tCons (tC (.int 0)) (tCons (tC (.str "machine")) (tNil))))) (tC (.int 0))) (gName 1))
    (tSeq (tAsg (tCall (toSp K (S_rows_from K)) [] E0 (tCons (tVar 0) (tCons (tC (.int 1)) (tCons (tC (.str "tie")) (tNil))))) (gName 2))
    (tRet (tTup (tCons (tFrz (tMake (He.ga K "Machine") (toSp K (S_Machine_init K)) [] E0 (tCons (tVar 1) (tCons (tVar 2) (tNil))))) (tCons (tCB (rLenA K) (tCons (tVar 2) (tNil))) (tNil))))))
theorem der_machine_from (T : Txt K mg) (c_values_at : FnB P w K mg base 4 "values_at" (S_values_at K)) (c_rows_from : FnB P w K mg base 5 "rows_from" (S_rows_from K)) (m_Machine : MkB P w K mg base 2 "Machine" (S_Machine_init K)) {f : Addr} (cdv : Value) (A : Around) (outer : List Env) (s : Shared) (H : Hp) (E : XK) (hr : Room 5 (A.deeper (envOfC "machine_from" (defScope s_machine_from) s.heap.objs.size f cdv))) :
    PSs (cxOf (L2.CX P w) P w K mg base ["lines", "width", "ties"] "machine_from" (defScope s_machine_from) f cdv A outer s H E) (defBody s_machine_from) (t_machine_from K w E) := by
  have tk := tk_of (P := P) (w := w) (K := K) (mg := mg) (base := base) (N := ["lines", "width", "ties"]) (qual := "machine_from") (scope := defScope s_machine_from) (f := f) (cdv := cdv) (A := A) (outer := outer) (s := s) (H := H) (E := E)
  have po := po_of (P := P) (w := w) (K := K) (mg := mg) (base := base) (N := ["lines", "width", "ties"]) (qual := "machine_from") (scope := defScope s_machine_from) (f := f) (cdv := cdv) (A := A) (outer := outer) (s := s) (H := H) (E := E)
  have hu1 := hu1_of hr
  have hu64 := hu64_of hr
  have hu65 := hu65_of hr
  unfold t_machine_from
  exact pss_cons (ps_set (i := 1) sc_machine_from.nd rfl (by first | exact .inl rfl | exact .inr rfl) (pe_ix (ix_A hu1) (pe_fn c_values_at hr (by decide) (by rfl) (pa_cons (pv 0) (pa_cons (pe_int) (pa_cons (pe_str) (pa_nil))))) (pe_int) (fun _ _ => rfl)))
    (pss_cons (ps_set (i := 2) sc_machine_from.nd rfl (by first | exact .inl rfl | exact .inr rfl) (pe_fn c_rows_from hr (by decide) (by rfl) (pa_cons (pv 0) (pa_cons (pe_int) (pa_cons (pe_str) (pa_nil))))))
    (pss_one (ps_ret (pe_tup (pa_cons (pe_frz (pe_mkD m_Machine hr (by decide) (by rfl) (pa_cons (pv 1) (pa_cons (pv 2) (pa_nil))))) (pa_cons (pe_callB call_lenA (by rfl) T.b_len (by decide +kernel) (pa_cons (pv 2) (pa_nil))) (pa_nil)))))))
/-! read_paper -/
abbrev s_read_paper : Stmt := (top 48)
theorem sc_read_paper : FnScope ["text", "lines", "paper", "read", "line", "lead", "loop", "many", "beneath"] ["text"] (defScope s_read_paper) := ⟨rfl, rfl, rfl, by decide +kernel, rfl, by decide +kernel, by decide +kernel⟩
def t_read_paper (K : PySem.W.Frag) (w : World) (E : XK) : TS :=
    tSeq (tAsg (tLc (iAny K (tM1 (rSplitA) (tVar 0) (tC (.str "\n")))) (gName 4) (tYes) (tM1 (rSplitA) (tVar 4) (tC (.str " "))) [4]) (gName 1))
    (tSeq (tIfS (tTest (tOp (rEqA K) (tOp (rIxA K w) (tOp (rIxA K w) (tVar 1) (tC (.int 0))) (tC (.int 0))) (tC (.str "run")))) (tSeq (tAsg (tCall (toSp K (S_run_from K)) [] E0 (tCons (tVar 1) (tCons (tC (.int 0)) (tCons (tC (.str "run")) (tNil))))) (gName 2))
    (tAsg (tOp (rAddA K) (tC (.int 1)) (tCB (rLenA K) (tCons (tFld K (tVar 2) "moments") (tNil)))) (gName 3))) (tIfS (tTest (tOp (rEqA K) (tOp (rIxA K w) (tOp (rIxA K w) (tVar 1) (tC (.int 0))) (tC (.int 0))) (tC (.str "ring")))) (tSeq (tAsg (tCall (toSp K (S_run_from K)) [] E0 (tCons (tVar 1) (tCons (tC (.int 0)) (tCons (tC (.str "ring")) (tNil))))) (gName 5))
    (tSeq (tAsg (tCall (toSp K (S_run_from K)) [] E0 (tCons (tVar 1) (tCons (tOp (rAddA K) (tC (.int 1)) (tCB (rLenA K) (tCons (tFld K (tVar 5) "moments") (tNil)))) (tCons (tC (.str "loop")) (tNil))))) (gName 6))
    (tSeq (tAsg (tMake (He.ga K "Ring") (toSp K (S_Ring_init K)) [] E0 (tCons (tVar 5) (tCons (tVar 6) (tNil)))) (gName 2))
    (tAsg (tOp (rAddA K) (tOp (rAddA K) (tC (.int 2)) (tCB (rLenA K) (tCons (tFld K (tVar 5) "moments") (tNil)))) (tCB (rLenA K) (tCons (tFld K (tVar 6) "moments") (tNil)))) (gName 3))))) (tSeq (tAsg (tCall (toSp K (S_machine_from K)) [] E0 (tCons (tVar 1) (tNil))) (gTup K 2 (gCons (gName 2) (gCons (gName 7) (gNil)))))
    (tSeq (tAsg (tCall (toSp K (S_rows_from K)) [] E0 (tCons (tVar 1) (tCons (tOp (rAddA K) (tC (.int 1)) (tVar 7)) (tCons (tC (.str "beneath")) (tNil))))) (gName 8))
    (tSeq (tAsg (tOp (rAddA K) (tOp (rAddA K) (tC (.int 1)) (tVar 7)) (tCB (rLenA K) (tCons (tVar 8) (tNil)))) (gName 3))
    (tIfS (tTest (tOp (rGtA) (tCB (rLenA K) (tCons (tVar 8) (tNil))) (tC (.int 0)))) (tAsg (tMake (He.ga K "Heights") (toSp K (S_Heights_init K)) [] E0 (tCons (tVar 2) (tCons (tVar 8) (tNil)))) (gName 2)) (tNext)))))))
    (tSeq (tIfS (tTest (tOp (rLtA) (tVar 3) (tCB (rLenA K) (tCons (tVar 1) (tNil))))) (tNever) (tNext))
    (tRet (tVar 2))))
theorem der_read_paper (T : Txt K mg) (c_run_from : FnB P w K mg base 6 "run_from" (S_run_from K)) (m_Ring : MkB P w K mg base 1 "Ring" (S_Ring_init K)) (c_machine_from : FnB P w K mg base 6 "machine_from" (S_machine_from K)) (c_rows_from : FnB P w K mg base 5 "rows_from" (S_rows_from K)) (m_Heights : MkB P w K mg base 1 "Heights" (S_Heights_init K)) {f : Addr} (cdv : Value) (A : Around) (outer : List Env) (s : Shared) (H : Hp) (E : XK) (hr : Room 6 (A.deeper (envOfC "read_paper" (defScope s_read_paper) s.heap.objs.size f cdv))) :
    PSs (cxOf (L2.CX P w) P w K mg base ["text", "lines", "paper", "read", "line", "lead", "loop", "many", "beneath"] "read_paper" (defScope s_read_paper) f cdv A outer s H E) (defBody s_read_paper) (t_read_paper K w E) := by
  have tk := tk_of (P := P) (w := w) (K := K) (mg := mg) (base := base) (N := ["text", "lines", "paper", "read", "line", "lead", "loop", "many", "beneath"]) (qual := "read_paper") (scope := defScope s_read_paper) (f := f) (cdv := cdv) (A := A) (outer := outer) (s := s) (H := H) (E := E)
  have po := po_of (P := P) (w := w) (K := K) (mg := mg) (base := base) (N := ["text", "lines", "paper", "read", "line", "lead", "loop", "many", "beneath"]) (qual := "read_paper") (scope := defScope s_read_paper) (f := f) (cdv := cdv) (A := A) (outer := outer) (s := s) (H := H) (E := E)
  have hu1 := hu1_of hr
  have hu64 := hu64_of hr
  have hu65 := hu65_of hr
  unfold t_read_paper
  exact pss_cons (ps_setLc (i := 1) (own := [("line", 4)]) rfl sc_read_paper.nd rfl rfl (sw_true rfl rfl rfl (by decide +kernel)) (pi_any (pe_split (pv 0) (pe_str))) (blkOk_by (own := [("line", 4)]) (N := ["text", "lines", "paper", "read", "line", "lead", "loop", "many", "beneath"]) (sc := defScope s_read_paper) (by decide +kernel)) (fun _ _ _ _ _ => pg_name (i := 4) sc_read_paper.nd rfl (by first | exact .inl rfl | exact .inr rfl)) (fun _ _ _ _ _ => pts_nil) (fun _ _ _ _ _ => pe_split (pv 4) (pe_str)))
    (pss_cons (ps_if (pt_cmpR (op_eqA hu64) (pe_ix (ix_A hu1) (pe_ix (ix_A hu1) (pv 1) (pe_int) (fun _ _ => rfl)) (pe_int) (fun _ _ => rfl)) (pe_str) (nomark _)) (pss_cons (ps_set (i := 2) sc_read_paper.nd rfl (by first | exact .inl rfl | exact .inr rfl) (pe_fn c_run_from hr (by decide) (by rfl) (pa_cons (pv 1) (pa_cons (pe_int) (pa_cons (pe_str) (pa_nil))))))
    (pss_one (ps_set (i := 3) sc_read_paper.nd rfl (by first | exact .inl rfl | exact .inr rfl) (pe_op op_addA (pe_int) (pe_callB call_lenA (by rfl) T.b_len (by decide +kernel) (pa_cons (pe_fld (pv 2) rfl) (pa_nil))))))) (pss_one (ps_if (pt_cmpR (op_eqA hu64) (pe_ix (ix_A hu1) (pe_ix (ix_A hu1) (pv 1) (pe_int) (fun _ _ => rfl)) (pe_int) (fun _ _ => rfl)) (pe_str) (nomark _)) (pss_cons (ps_set (i := 5) sc_read_paper.nd rfl (by first | exact .inl rfl | exact .inr rfl) (pe_fn c_run_from hr (by decide) (by rfl) (pa_cons (pv 1) (pa_cons (pe_int) (pa_cons (pe_str) (pa_nil))))))
    (pss_cons (ps_set (i := 6) sc_read_paper.nd rfl (by first | exact .inl rfl | exact .inr rfl) (pe_fn c_run_from hr (by decide) (by rfl) (pa_cons (pv 1) (pa_cons (pe_op op_addA (pe_int) (pe_callB call_lenA (by rfl) T.b_len (by decide +kernel) (pa_cons (pe_fld (pv 5) rfl) (pa_nil)))) (pa_cons (pe_str) (pa_nil))))))
    (pss_cons (ps_set (i := 2) sc_read_paper.nd rfl (by first | exact .inl rfl | exact .inr rfl) (pe_mkD m_Ring hr (by decide) (by rfl) (pa_cons (pv 5) (pa_cons (pv 6) (pa_nil)))))
    (pss_one (ps_set (i := 3) sc_read_paper.nd rfl (by first | exact .inl rfl | exact .inr rfl) (pe_op op_addA (pe_op op_addA (pe_int) (pe_callB call_lenA (by rfl) T.b_len (by decide +kernel) (pa_cons (pe_fld (pv 5) rfl) (pa_nil)))) (pe_callB call_lenA (by rfl) T.b_len (by decide +kernel) (pa_cons (pe_fld (pv 6) rfl) (pa_nil))))))))) (pss_cons (ps_asg (pe_fn c_machine_from hr (by decide) (by rfl) (pa_cons (pv 1) (pa_nil))) (pg_tup rfl (pgs_cons (pg_name (i := 2) sc_read_paper.nd rfl (by first | exact .inl rfl | exact .inr rfl)) (pgs_cons (pg_name (i := 7) sc_read_paper.nd rfl (by first | exact .inl rfl | exact .inr rfl)) (pgs_nil)))))
    (pss_cons (ps_set (i := 8) sc_read_paper.nd rfl (by first | exact .inl rfl | exact .inr rfl) (pe_fn c_rows_from hr (by decide) (by rfl) (pa_cons (pv 1) (pa_cons (pe_op op_addA (pe_int) (pv 7)) (pa_cons (pe_str) (pa_nil))))))
    (pss_cons (ps_set (i := 3) sc_read_paper.nd rfl (by first | exact .inl rfl | exact .inr rfl) (pe_op op_addA (pe_op op_addA (pe_int) (pv 7)) (pe_callB call_lenA (by rfl) T.b_len (by decide +kernel) (pa_cons (pv 8) (pa_nil)))))
    (pss_one (ps_if (pt_cmpR op_gtA (pe_callB call_lenA (by rfl) T.b_len (by decide +kernel) (pa_cons (pv 8) (pa_nil))) (pe_int) (nomark _)) (pss_one (ps_set (i := 2) sc_read_paper.nd rfl (by first | exact .inl rfl | exact .inr rfl) (pe_mkD m_Heights hr (by decide) (by rfl) (pa_cons (pv 2) (pa_cons (pv 8) (pa_nil)))))) (pss_nil)))))))))
    (pss_cons (ps_if (pt_cmpR op_ltA (pv 3) (pe_callB call_lenA (by rfl) T.b_len (by decide +kernel) (pa_cons (pv 1) (pa_nil))) (nomark _)) (pss_one (ps_never)) (pss_nil))
    (pss_one (ps_ret (pv 2)))))
/-! run_lines -/
abbrev s_run_lines : Stmt := (top 49)
theorem sc_run_lines : FnScope ["run", "word", "time", "name"] ["run", "word"] (defScope s_run_lines) := ⟨rfl, rfl, rfl, by decide +kernel, rfl, by decide +kernel, by decide +kernel⟩
def t_run_lines (K : PySem.W.Frag) (w : World) (E : XK) : TS :=
    tRet (tOp (rAddA K) (tLst (tCons (tCall (toSp K (S_joined K)) [] E0 (tCons (tTup (tCons (tVar 1) (tCons (tFld K (tVar 0) "steps") (tNil)))) (tNil))) (tNil))) (tLc (iAny K (tFld K (tVar 0) "moments")) (gTup K 2 (gCons (gName 2) (gCons (gName 3) (gNil)))) (tYes) (tCall (toSp K (S_joined K)) [] E0 (tCons (tTup (tCons (tC (.str "ask")) (tCons (tVar 2) (tCons (tVar 3) (tNil))))) (tNil))) [2, 3]))
theorem der_run_lines (T : Txt K mg) (c_joined : FnB P w K mg base 1 "joined" (S_joined K)) {f : Addr} (cdv : Value) (A : Around) (outer : List Env) (s : Shared) (H : Hp) (E : XK) (hr : Room 1 (A.deeper (envOfC "run_lines" (defScope s_run_lines) s.heap.objs.size f cdv))) :
    PSs (cxOf (L2.CX P w) P w K mg base ["run", "word", "time", "name"] "run_lines" (defScope s_run_lines) f cdv A outer s H E) (defBody s_run_lines) (t_run_lines K w E) := by
  have tk := tk_of (P := P) (w := w) (K := K) (mg := mg) (base := base) (N := ["run", "word", "time", "name"]) (qual := "run_lines") (scope := defScope s_run_lines) (f := f) (cdv := cdv) (A := A) (outer := outer) (s := s) (H := H) (E := E)
  have po := po_of (P := P) (w := w) (K := K) (mg := mg) (base := base) (N := ["run", "word", "time", "name"]) (qual := "run_lines") (scope := defScope s_run_lines) (f := f) (cdv := cdv) (A := A) (outer := outer) (s := s) (H := H) (E := E)
  have hu1 := hu1_of hr
  have hu64 := hu64_of hr
  have hu65 := hu65_of hr
  unfold t_run_lines
  exact pss_one (ps_ret (pe_op op_addA (pe_lst (pa_cons (pe_fn c_joined hr (by decide) (by rfl) (pa_cons (pe_tup (pa_cons (pv 1) (pa_cons (pe_fld (pv 0) rfl) (pa_nil)))) (pa_nil))) (pa_nil))) (pe_lc (own := [("time", 2), ("name", 3)]) rfl sc_run_lines.nd (pi_any (pe_fld (pv 0) rfl)) (blkOk_by (own := [("time", 2), ("name", 3)]) (N := ["run", "word", "time", "name"]) (sc := defScope s_run_lines) (by decide +kernel)) (fun _ _ _ _ _ => pg_tup rfl (pgs_cons (pg_name (i := 2) sc_run_lines.nd rfl (by first | exact .inl rfl | exact .inr rfl)) (pgs_cons (pg_name (i := 3) sc_run_lines.nd rfl (by first | exact .inl rfl | exact .inr rfl)) (pgs_nil)))) (fun _ _ _ _ _ => pts_nil) (fun _ _ _ _ _ => pe_fn c_joined hr (by decide) (by rfl) (pa_cons (pe_tup (pa_cons (pe_str) (pa_cons (pv 2) (pa_cons (pv 3) (pa_nil))))) (pa_nil))))))
/-! machine_lines -/
abbrev s_machine_lines : Stmt := (top 50)
theorem sc_machine_lines : FnScope ["machine", "lines", "tie", "numbers"] ["machine"] (defScope s_machine_lines) := ⟨rfl, rfl, rfl, by decide +kernel, rfl, by decide +kernel, by decide +kernel⟩
def t_machine_lines (K : PySem.W.Frag) (w : World) (E : XK) : TS :=
    tSeq (tAsg (tLst (tCons (tCall (toSp K (S_joined K)) [] E0 (tCons (tTup (tCons (tC (.str "machine")) (tCons (tFld K (tVar 0) "width") (tNil)))) (tNil))) (tNil))) (gName 1))
    (tSeq (tFor (iAny K (tMeth (He.ga K "Machine") "rows" (toSp K (S_Machine_rows K)) [] E0 (tVar 0) tNil)) (gName 2) (tDrop (tBM K "list" rAppend (tVar 1) (tCons (tCall (toSp K (S_joined K)) [] E0 (tCons (tOp (rAddA K) (tLst (tCons (tC (.str "tie")) (tNil))) (tLc (iAny K (tVar 2)) (gName 3) (tYes) (tCall (toSp K (S_numbers_text K)) [] E0 (tCons (tVar 3) (tNil))) [3])) (tNil))) (tNil)))))
    (tRet (tVar 1)))
theorem der_machine_lines (T : Txt K mg) (c_joined : FnB P w K mg base 1 "joined" (S_joined K)) (c_Machine_rows : MtB P w K mg base 2 "Machine" "rows" (S_Machine_rows K)) (c_numbers_text : FnB P w K mg base 1 "numbers_text" (S_numbers_text K)) {f : Addr} (cdv : Value) (A : Around) (outer : List Env) (s : Shared) (H : Hp) (E : XK) (hr : Room 2 (A.deeper (envOfC "machine_lines" (defScope s_machine_lines) s.heap.objs.size f cdv))) :
    PSs (cxOf (L2.CX P w) P w K mg base ["machine", "lines", "tie", "numbers"] "machine_lines" (defScope s_machine_lines) f cdv A outer s H E) (defBody s_machine_lines) (t_machine_lines K w E) := by
  have tk := tk_of (P := P) (w := w) (K := K) (mg := mg) (base := base) (N := ["machine", "lines", "tie", "numbers"]) (qual := "machine_lines") (scope := defScope s_machine_lines) (f := f) (cdv := cdv) (A := A) (outer := outer) (s := s) (H := H) (E := E)
  have po := po_of (P := P) (w := w) (K := K) (mg := mg) (base := base) (N := ["machine", "lines", "tie", "numbers"]) (qual := "machine_lines") (scope := defScope s_machine_lines) (f := f) (cdv := cdv) (A := A) (outer := outer) (s := s) (H := H) (E := E)
  have hu1 := hu1_of hr
  have hu64 := hu64_of hr
  have hu65 := hu65_of hr
  unfold t_machine_lines
  exact pss_cons (ps_set (i := 1) sc_machine_lines.nd rfl (by first | exact .inl rfl | exact .inr rfl) (pe_lst (pa_cons (pe_fn c_joined hr (by decide) (by rfl) (pa_cons (pe_tup (pa_cons (pe_str) (pa_cons (pe_fld (pv 0) rfl) (pa_nil)))) (pa_nil))) (pa_nil))))
    (pss_cons (ps_for po rfl (pi_any (pe_mthD0 c_Machine_rows hr (by decide) (pv 0) rfl)) (pg_name (i := 2) sc_machine_lines.nd rfl (by first | exact .inl rfl | exact .inr rfl)) (pss_one (ps_expr (pe_bm PySem.F.plainAttrs_list PySem.F.slot_list_append PySem.F.type_list_append mt_append (pv 1) (pa_cons (pe_fn c_joined hr (by decide) (by rfl) (pa_cons (pe_op op_addA (pe_lst (pa_cons (pe_str) (pa_nil))) (pe_lc (own := [("numbers", 3)]) rfl sc_machine_lines.nd (pi_any (pv 2)) (blkOk_by (own := [("numbers", 3)]) (N := ["machine", "lines", "tie", "numbers"]) (sc := defScope s_machine_lines) (by decide +kernel)) (fun _ _ _ _ _ => pg_name (i := 3) sc_machine_lines.nd rfl (by first | exact .inl rfl | exact .inr rfl)) (fun _ _ _ _ _ => pts_nil) (fun _ _ _ _ _ => pe_fn c_numbers_text hr (by decide) (by rfl) (pa_cons (pv 3) (pa_nil))))) (pa_nil))) (pa_nil))))))
    (pss_one (ps_ret (pv 1))))
/-! print_paper -/
abbrev s_print_paper : Stmt := (top 51)
theorem sc_print_paper : FnScope ["paper", "lines", "state", "number"] ["paper"] (defScope s_print_paper) := ⟨rfl, rfl, rfl, by decide +kernel, rfl, by decide +kernel, by decide +kernel⟩
def t_print_paper (K : PySem.W.Frag) (w : World) (E : XK) : TS :=
    tSeq (tIfS (tB (tCB (rIsi K) (tCons (tVar 0) (tCons (tC (.ref (He.ga K "Run"))) (tNil))))) (tRet (tM1 (rJoinA K) (tC (.str "\n")) (tCall (toSp K (S_run_lines K)) [] E0 (tCons (tVar 0) (tCons (tC (.str "run")) (tNil)))))) (tNext))
    (tSeq (tIfS (tB (tCB (rIsi K) (tCons (tVar 0) (tCons (tC (.ref (He.ga K "Ring"))) (tNil))))) (tRet (tM1 (rJoinA K) (tC (.str "\n")) (tOp (rAddA K) (tCall (toSp K (S_run_lines K)) [] E0 (tCons (tFld K (tVar 0) "lead") (tCons (tC (.str "ring")) (tNil)))) (tCall (toSp K (S_run_lines K)) [] E0 (tCons (tFld K (tVar 0) "loop") (tCons (tC (.str "loop")) (tNil))))))) (tNext))
    (tSeq (tIfS (tB (tCB (rIsi K) (tCons (tVar 0) (tCons (tC (.ref (He.ga K "Heights"))) (tNil))))) (tSeq (tAsg (tCall (toSp K (S_machine_lines K)) [] E0 (tCons (tFld K (tVar 0) "machine") (tNil))) (gName 1))
    (tSeq (tFor (iAny K (tFld K (tVar 0) "beneath")) (gTup K 2 (gCons (gName 2) (gCons (gName 3) (gNil)))) (tDrop (tBM K "list" rAppend (tVar 1) (tCons (tCall (toSp K (S_joined K)) [] E0 (tCons (tTup (tCons (tC (.str "beneath")) (tCons (tCall (toSp K (S_numbers_text K)) [] E0 (tCons (tVar 2) (tNil))) (tCons (tVar 3) (tNil))))) (tNil))) (tNil)))))
    (tRet (tM1 (rJoinA K) (tC (.str "\n")) (tVar 1))))) (tNext))
    (tRet (tM1 (rJoinA K) (tC (.str "\n")) (tCall (toSp K (S_machine_lines K)) [] E0 (tCons (tVar 0) (tNil)))))))
theorem der_print_paper (T : Txt K mg) (c_run_lines : FnB P w K mg base 2 "run_lines" (S_run_lines K)) (c_machine_lines : FnB P w K mg base 3 "machine_lines" (S_machine_lines K)) (c_numbers_text : FnB P w K mg base 1 "numbers_text" (S_numbers_text K)) (c_joined : FnB P w K mg base 1 "joined" (S_joined K)) {f : Addr} (cdv : Value) (A : Around) (outer : List Env) (s : Shared) (H : Hp) (E : XK) (hr : Room 3 (A.deeper (envOfC "print_paper" (defScope s_print_paper) s.heap.objs.size f cdv))) :
    PSs (cxOf (L2.CX P w) P w K mg base ["paper", "lines", "state", "number"] "print_paper" (defScope s_print_paper) f cdv A outer s H E) (defBody s_print_paper) (t_print_paper K w E) := by
  have tk := tk_of (P := P) (w := w) (K := K) (mg := mg) (base := base) (N := ["paper", "lines", "state", "number"]) (qual := "print_paper") (scope := defScope s_print_paper) (f := f) (cdv := cdv) (A := A) (outer := outer) (s := s) (H := H) (E := E)
  have po := po_of (P := P) (w := w) (K := K) (mg := mg) (base := base) (N := ["paper", "lines", "state", "number"]) (qual := "print_paper") (scope := defScope s_print_paper) (f := f) (cdv := cdv) (A := A) (outer := outer) (s := s) (H := H) (E := E)
  have hu1 := hu1_of hr
  have hu64 := hu64_of hr
  have hu65 := hu65_of hr
  unfold t_print_paper
  exact pss_cons (ps_if (pt_val (pe_callB call_isi (by rfl) T.b_isinstance (by decide +kernel) (pa_cons (pv 0) (pa_cons (pe_gc (by rfl) T.g_Run) (pa_nil))))) (pss_one (ps_ret (pe_join (pe_str) (pe_fn c_run_lines hr (by decide) (by rfl) (pa_cons (pv 0) (pa_cons (pe_str) (pa_nil))))))) (pss_nil))
    (pss_cons (ps_if (pt_val (pe_callB call_isi (by rfl) T.b_isinstance (by decide +kernel) (pa_cons (pv 0) (pa_cons (pe_gc (by rfl) T.g_Ring) (pa_nil))))) (pss_one (ps_ret (pe_join (pe_str) (pe_op op_addA (pe_fn c_run_lines hr (by decide) (by rfl) (pa_cons (pe_fld (pv 0) rfl) (pa_cons (pe_str) (pa_nil)))) (pe_fn c_run_lines hr (by decide) (by rfl) (pa_cons (pe_fld (pv 0) rfl) (pa_cons (pe_str) (pa_nil)))))))) (pss_nil))
    (pss_cons (ps_if (pt_val (pe_callB call_isi (by rfl) T.b_isinstance (by decide +kernel) (pa_cons (pv 0) (pa_cons (pe_gc (by rfl) T.g_Heights) (pa_nil))))) (pss_cons (ps_set (i := 1) sc_print_paper.nd rfl (by first | exact .inl rfl | exact .inr rfl) (pe_fn c_machine_lines hr (by decide) (by rfl) (pa_cons (pe_fld (pv 0) rfl) (pa_nil))))
    (pss_cons (ps_for po rfl (pi_any (pe_fld (pv 0) rfl)) (pg_tup rfl (pgs_cons (pg_name (i := 2) sc_print_paper.nd rfl (by first | exact .inl rfl | exact .inr rfl)) (pgs_cons (pg_name (i := 3) sc_print_paper.nd rfl (by first | exact .inl rfl | exact .inr rfl)) (pgs_nil)))) (pss_one (ps_expr (pe_bm PySem.F.plainAttrs_list PySem.F.slot_list_append PySem.F.type_list_append mt_append (pv 1) (pa_cons (pe_fn c_joined hr (by decide) (by rfl) (pa_cons (pe_tup (pa_cons (pe_str) (pa_cons (pe_fn c_numbers_text hr (by decide) (by rfl) (pa_cons (pv 2) (pa_nil))) (pa_cons (pv 3) (pa_nil))))) (pa_nil))) (pa_nil))))))
    (pss_one (ps_ret (pe_join (pe_str) (pv 1)))))) (pss_nil))
    (pss_one (ps_ret (pe_join (pe_str) (pe_fn c_machine_lines hr (by decide) (by rfl) (pa_cons (pv 0) (pa_nil))))))))
end Lw
end

section
set_option Elab.async false
set_option linter.all false
set_option maxRecDepth 100000
set_option maxHeartbeats 4000000
namespace Lw
open PySem PySem.Spec PyProof.Rows L2 Evl
section
variable {K : PySem.W.Frag} {w : World} {E : XK} {X : Addr → List (Str × Dt) → Mem → Prop} {Q : Dt → Mem → Prop}
theorem tt_yes {Z : Cq} {Γ : Gam} {M : Mem} {QT : Bool → Mem → Prop} (q : QT true M) : TtD Z tYes Γ M QT := fun F W H σ g s R k => k true M W H q (Ex.refl W) s
theorem key_back (ns : List Int) : Dt.tup ((keyI ns).map kD) = tupI ns := keyD_I ns
theorem getA_mem {β : Type} {k : List Int} {v : β} : ∀ {l : List (List Int × β)}, (l.map (·.1)).Nodup → (k, v) ∈ l → getA k l = some v
  | [], _, h => by cases h
  | (k', u) :: r, nd, h => by
    rw [List.map_cons, List.nodup_cons] at nd
    unfold getA
    rcases List.mem_cons.mp h with e | h
    · cases e
      rw [if_pos rfl]
    · rw [if_neg fun e => nd.1 (List.mem_map.mpr ⟨(k, v), h, e.symm⟩)]
      exact getA_mem nd.2 h
theorem valD_mem {α : Type} {g : α → List Int} {v : α → Dt} {x : α} : ∀ {l : List α}, (l.map g).Nodup → x ∈ l → valD (l.map fun y => (keyI (g y), v y)) (keyI (g x)) = some (v x)
  | [], _, h => by cases h
  | y :: r, nd, h => by
    rw [List.map_cons, List.nodup_cons] at nd
    rw [List.map_cons, valD_cons]
    rcases List.mem_cons.mp h with e | h
    · subst e
      rw [if_pos rfl]
    · rw [if_neg fun e => nd.1 (List.mem_map.mpr ⟨x, h, (keyI_inj e).symm⟩)]
      exact valD_mem nd.2 h
theorem flat_bound {α β : Type} (f : α → List β) (n : Nat) : ∀ (l : List α), (∀ x ∈ l, (f x).length ≤ n) → (l.flatMap f).length ≤ l.length * n
  | [], _ => Nat.zero_le _
  | x :: l, h => by
    rw [List.flatMap_cons, List.length_append, List.length_cons, Nat.succ_mul]
    have h1 := h x List.mem_cons_self
    have h2 := flat_bound f n l fun y hy => h y (List.mem_cons_of_mem _ hy)
    omega
theorem pairsR_len {t : Tab} {s : List Int} {r : Row} (wf : TabWf t) (h : (s, r) ∈ t) : (pairsR r).length ≤ 1000000 := by
  have sz := wf.sz.2 _ h
  have := flat_bound (fun q : List Int × List (List Int) => q.2.map fun t => (q.1, t)) 1000 r fun x hx => by
    rw [List.length_map]
    exact sz.2 x hx
  have h1 := sz.1
  unfold pairsR
  have : r.length * 1000 ≤ 1000 * 1000 := Nat.mul_le_mul_right _ h1
  omega
theorem sl_le {n : Nat} (h : n ≤ 16777216) : n ≤ sizeLine := by
  rw [show sizeLine = 16777216 from sizeLine_eq]
  exact h
theorem rd_Machine_ties_from (c : Clss K) {ds : List Dt} {M : Mem} (h : S_Machine_ties_from K ds M Q X) : RnD ⟨K, E, X⟩ (t_Machine_ties_from K w E) (startG ["self", "source", "row", "frame", "target"] ds) M (retE Q) := by
  obtain ⟨rfl, d, hr, q⟩ := h
  cases hr with
  | mk width n t s r hm wf =>
    unfold t_Machine_ties_from
    have hv : valD (tabK t) (keyI s) = some (.dT (rowK r)) := valD_mem (g := fun p : List Int × Row => p.1) (v := fun p => Dt.dT (rowK p.2)) (x := (s, r)) wf.nd hm
    refine rn_seq <| rn_asg <| ev_dget2 <| ev_fld c.cMachine c.nTable <| ev_var rfl ⟨machF width n t, _, rfl, rfl, tabK t, rfl, ev_var (d := keyD (keyI s)) (by rw [keyD_I]; rfl) ⟨keyI s, rfl, ev_dnewT fun p => ?_⟩⟩
    rw [hv]
    refine gt_name <| rn_forget (a := p) (mo := .dT []) (Mr := []) (.refl _) ?_
    have eL : (r.map fun q => q.2.map fun t => pairD (q.1, t)).flatten = (pairsR r).map pairD := by
      unfold pairsR
      rw [List.map_flatMap, ← List.flatMap_def]
      simp only [List.map_map]
      rfl
    refine rn_ret <| ev_lc2 (vs := [3, 4]) (vs1 := [4]) (r.map fun q => q.2.map fun t => pairD (q.1, t)) (gfix_name (i := 3) (vs := [3, 4]) (by decide)) (gfix_name (i := 4) (vs := [4]) (by decide)) <| it_any <| ev_var (d := .dT (rowK r)) rfl ⟨_, rfl, ?_, ?_, fun i d l hd hl => ?_, ?_⟩
    · unfold rowK
      rw [List.length_map, List.length_map, List.length_map]
    · rw [eL, List.length_map]
      exact sl_le (by have := pairsR_len wf hm; omega)
    · unfold rowK at hd
      rw [List.map_map, List.getElem?_map] at hd
      obtain ⟨⟨f, ts⟩, hi, rfl⟩ := Option.map_eq_some_iff.mp hd
      rw [List.getElem?_map, hi] at hl
      cases hl
      have hv2 : valD (rowK r) (keyI f) = some (.dT (tgK ts)) := valD_mem (g := fun p : List Int × List (List Int) => p.1) (v := fun p => Dt.dT (tgK p.2)) (x := (f, ts)) (wf.ndr _ hm) (List.mem_of_getElem? hi)
      refine gt_name ⟨rfl, tt_yes ⟨rfl, ifT <| it_any <| ev_op <| ev_var (d := .dT (rowK r)) rfl <| ev_var (d := keyD (keyI f)) rfl <| od_ixDT hv2 ⟨_, rfl, rfl, ?_, fun j e y he hy => ?_⟩⟩⟩
      · unfold tgK
        rw [List.length_map, List.length_map, List.length_map]
      · unfold tgK at he
        rw [List.map_map, List.getElem?_map] at he
        obtain ⟨t', ht, rfl⟩ := Option.map_eq_some_iff.mp he
        rw [List.getElem?_map, ht] at hy
        cases hy
        exact gt_name ⟨rfl, ev_tup <| ar_cons <| ev_var (d := keyD (keyI f)) rfl <| ar_cons <| ev_var (d := keyD (keyI t')) rfl <| ar_nil ⟨two_le, by rw [keyD_I, keyD_I]; rfl, rfl⟩⟩
    · rw [eL]
      exact q
theorem three_le : ∀ {a b c : Dt}, ([a, b, c] : List Dt).length ≤ sizeLine := fun {a b c} => sl_le (by show 3 ≤ 16777216; decide)
/-! data that sort -/
theorem py_ints : ∀ ns : List Int, Dt.pys (ns.map Dt.int) = ns.map PyData.int
  | [] => by rw [List.map_nil, Dt.pys]; rfl
  | n :: ns => by rw [List.map_cons, Dt.pys, py_ints ns, Dt.py]; rfl
theorem isPy_ints : ∀ ns : List Int, Dt.arePy (ns.map Dt.int) = true
  | [] => by rw [List.map_nil, Dt.arePy]
  | n :: ns => by rw [List.map_cons, Dt.arePy, isPy_ints ns, Dt.isPy]; rfl
theorem py_tup (ns : List Int) : (tupI ns).py = .tuple (ns.map PyData.int) := by
  unfold tupI
  rw [Dt.py, py_ints]
theorem isPy_tup (ns : List Int) : (tupI ns).isPy = true := by
  unfold tupI
  rw [Dt.isPy, isPy_ints]
theorem alike_ints : ∀ a b : List Int, PySem.W.alikeAll (a.map PyData.int) (b.map PyData.int) = true
  | [], b => by rw [List.map_nil, PySem.W.alikeAll]
  | x :: a, [] => by rw [List.map_nil, List.map_cons, PySem.W.alikeAll]
  | x :: a, y :: b => by rw [List.map_cons, List.map_cons, PySem.W.alikeAll, alike_ints a b, PySem.W.alike]; rfl
theorem alike_tup (a b : List Int) : PySem.W.alike (.tuple (a.map PyData.int)) (.tuple (b.map PyData.int)) = true := by
  rw [PySem.W.alike]
  exact alike_ints a b
theorem depth_ints : ∀ a : List Int, PyData.depthAll (a.map PyData.int) ≤ 1
  | [] => by
    rw [List.map_nil, PyData.depthAll]
    decide
  | x :: a => by
    rw [List.map_cons, PyData.depthAll, PyData.depth]
    have := depth_ints a
    omega
end
end Lw
end

section
set_option Elab.async false
set_option linter.all false
set_option maxRecDepth 100000
set_option maxHeartbeats 4000000
namespace Lw
open PySem PySem.Spec PyProof.Rows L2 Evl
section
variable {K : PySem.W.Frag} {w : World} {E : XK} {X : Addr → List (Str × Dt) → Mem → Prop} {Q : Dt → Mem → Prop}
def intsP (ns : List Int) : PyData := .tuple (ns.map PyData.int)
theorem py_tie (t : Trip) : (tieD t).py = .tuple [intsP t.1, intsP t.2.1, intsP t.2.2] := by
  unfold tieD
  rw [Dt.py, Dt.pys, Dt.pys, Dt.pys, Dt.pys, py_tup, py_tup, py_tup]
  rfl
theorem py_pair (t : List Int × List Int) : (pairD t).py = .tuple [intsP t.1, intsP t.2] := by
  unfold pairD
  rw [Dt.py, Dt.pys, Dt.pys, Dt.pys, py_tup, py_tup]
  rfl
theorem isPy_tie (t : Trip) : (tieD t).isPy = true := by
  unfold tieD
  rw [Dt.isPy, Dt.arePy, Dt.arePy, Dt.arePy, Dt.arePy, isPy_tup, isPy_tup, isPy_tup]
  rfl
theorem isPy_pair (t : List Int × List Int) : (pairD t).isPy = true := by
  unfold pairD
  rw [Dt.isPy, Dt.arePy, Dt.arePy, Dt.arePy, isPy_tup, isPy_tup]
  rfl
theorem arePy_map {α : Type} {f : α → Dt} (h : ∀ a, (f a).isPy = true) : ∀ l : List α, Dt.arePy (l.map f) = true
  | [] => by rw [List.map_nil, Dt.arePy]
  | a :: l => by
    rw [List.map_cons, Dt.arePy, arePy_map h l, h a]
    rfl
theorem pys_map {α : Type} (f : α → Dt) : ∀ l : List α, Dt.pys (l.map f) = l.map fun a => (f a).py
  | [] => by rw [List.map_nil, Dt.pys]; rfl
  | a :: l => by
    rw [List.map_cons, Dt.pys, pys_map f l]
    rfl
theorem alike_tie (a b : Trip) : PySem.W.alike (tieD a).py (tieD b).py = true := by
  rw [py_tie, py_tie, PySem.W.alike, PySem.W.alikeAll, PySem.W.alikeAll, PySem.W.alikeAll, PySem.W.alikeAll]
  unfold intsP
  rw [alike_tup, alike_tup, alike_tup]
  rfl
theorem alike_pair (a b : List Int × List Int) : PySem.W.alike (pairD a).py (pairD b).py = true := by
  rw [py_pair, py_pair, PySem.W.alike, PySem.W.alikeAll, PySem.W.alikeAll, PySem.W.alikeAll]
  unfold intsP
  rw [alike_tup, alike_tup]
  rfl
theorem depth_tup (a : List Int) : (intsP a).depth ≤ 2 := by
  unfold intsP
  rw [PyData.depth]
  have := depth_ints a
  omega
theorem depth_tie (t : Trip) : (tieD t).py.depth ≤ 3 := by
  rw [py_tie, PyData.depth, PyData.depthAll, PyData.depthAll, PyData.depthAll, PyData.depthAll]
  have h1 := depth_tup t.1
  have h2 := depth_tup t.2.1
  have h3 := depth_tup t.2.2
  omega
theorem depth_pair (t : List Int × List Int) : (pairD t).py.depth ≤ 3 := by
  rw [py_pair, PyData.depth, PyData.depthAll, PyData.depthAll, PyData.depthAll]
  have h1 := depth_tup t.1
  have h2 := depth_tup t.2
  omega
theorem all_alike {α : Type} {f : α → Dt} (h : ∀ a b, PySem.W.alike (f a).py (f b).py = true) (l : List α) : PySem.W.AllAlike ((l.map f).map Dt.py) := fun d hd d' hd' => by
  rw [List.map_map] at hd hd'
  obtain ⟨a, _, rfl⟩ := List.mem_map.mp hd
  obtain ⟨b, _, rfl⟩ := List.mem_map.mp hd'
  exact h a b
theorem sorted_ties {Z : Cq} {M : Mem} {Q : Dt → Mem → Prop} {l : List Trip} (hl : l.length ≤ 1000) (q : Q (.lst (sortD (l.map tieD))) M) : ClD Z (rSortedA Z.K) [.lst (l.map tieD)] M Q := by
  refine cd_sorted (arePy_map isPy_tie l) (fun d hd => ?_) (all_alike alike_tie l) (.inl fun d hd => ?_) (by rw [List.length_map]; exact sl_le (by omega)) q
  · obtain ⟨t, _, rfl⟩ := List.mem_map.mp hd
    have := depth_tie t
    omega
  · rw [List.map_map] at hd
    obtain ⟨t, _, rfl⟩ := List.mem_map.mp hd
    exact ⟨_, _, py_tie t⟩
theorem sorted_pairs {Z : Cq} {M : Mem} {Q : Dt → Mem → Prop} {l : List (List Int × List Int)} (hl : l.length ≤ 1000) (q : Q (.lst (sortD (l.map pairD))) M) : ClD Z (rSortedA Z.K) [.lst (l.map pairD)] M Q := by
  refine cd_sorted (arePy_map isPy_pair l) (fun d hd => ?_) (all_alike alike_pair l) (.inl fun d hd => ?_) (by rw [List.length_map]; exact sl_le (by omega)) q
  · obtain ⟨t, _, rfl⟩ := List.mem_map.mp hd
    have := depth_pair t
    omega
  · rw [List.map_map] at hd
    obtain ⟨t, _, rfl⟩ := List.mem_map.mp hd
    exact ⟨_, _, py_pair t⟩
theorem rd_Machine_rows (c : Clss K) {ds : List Dt} {M : Mem} (h : S_Machine_rows K ds M Q X) : RnD ⟨K, E, X⟩ (t_Machine_rows K w E) (startG ["self", "source", "frame", "target"] ds) M (retE Q) := by
  obtain ⟨rfl, d, hr, q⟩ := h
  cases hr with
  | mk width n t wf hl =>
    unfold t_Machine_rows
    have eL : (t.map fun p => ((pairsR p.2).map fun q => tieD (p.1, q.1, q.2))).flatten = (flatT t).map tieD := by
      unfold flatT
      rw [List.map_flatMap, ← List.flatMap_def]
      simp only [List.map_map]
      rfl
    refine rn_ret <| ev_cb <| ar_cons <| ev_lc2 (vs := [1, 2, 3]) (vs1 := [2, 3]) (t.map fun p => ((pairsR p.2).map fun q => tieD (p.1, q.1, q.2))) (gfix_name (i := 1) (vs := [1, 2, 3]) (by decide)) (gfix_t (gfix_cons (gfix_name (i := 2) (vs := [2, 3]) (by decide)) (gfix_cons (gfix_name (i := 3) (vs := [2, 3]) (by decide)) gfix_nil))) <| it_any <| ev_fld c.cMachine c.nTable <| ev_var rfl ⟨machF width n t, _, rfl, rfl, _, rfl, ?_, ?_, fun i d l hd hl2 => ?_, ?_⟩
    · unfold tabK
      rw [List.length_map, List.length_map, List.length_map]
    · rw [eL, List.length_map]
      exact sl_le (by omega)
    · unfold tabK at hd
      rw [List.map_map, List.getElem?_map] at hd
      obtain ⟨⟨s, r⟩, hi, rfl⟩ := Option.map_eq_some_iff.mp hd
      rw [List.getElem?_map, hi] at hl2
      cases hl2
      refine gt_name ⟨rfl, tt_yes ⟨rfl, ifT <| it_any <| ev_mrel <| ev_var (d := mach K width n t) rfl ⟨machF width n t, rfl, rfl, ar_cons <| ev_var (d := keyD (keyI s)) rfl <| ar_nil ⟨_, by rw [keyD_I]; exact .mk width n t s r (List.mem_of_getElem? hi) wf, _, rfl, rfl, ?_, fun j e y he hy => ?_⟩⟩⟩⟩
      · rw [List.length_map, List.length_map]
      · rw [List.getElem?_map] at he hy
        obtain ⟨⟨f', t'⟩, ht, rfl⟩ := Option.map_eq_some_iff.mp he
        rw [ht] at hy
        cases hy
        exact gt_tup rfl <| gs_cons <| gt_name <| gs_cons <| gt_name <| gs_nil ⟨rfl, ev_tup <| ar_cons <| ev_var (d := keyD (keyI s)) rfl <| ar_cons <| ev_var (d := tupI f') rfl <| ar_cons <| ev_var (d := tupI t') rfl <| ar_nil ⟨three_le, by rw [keyD_I]; rfl, rfl⟩⟩
    · rw [eL]
      exact ar_nil (sorted_ties hl q)
theorem rd_Machine_heads (c : Clss K) {ds : List Dt} {M : Mem} (h : S_Machine_heads K ds M Q X) : RnD ⟨K, E, X⟩ (t_Machine_heads K w E) (startG ["self", "source", "frame"] ds) M (retE Q) := by
  obtain ⟨rfl, d, hr, q⟩ := h
  cases hr with
  | mk width n t wf hl =>
    unfold t_Machine_heads
    have eL : (t.map fun p => ((if (p.1.length : Int) = width then p.2.map fun q => (p.1, q.1) else []).map pairD)).flatten = (headsT width t).map pairD := by
      unfold headsT
      rw [List.map_flatMap, ← List.flatMap_def]
    refine rn_ret <| ev_cb <| ar_cons <| ev_lc2 (vs := [1, 2]) (vs1 := [2]) (t.map fun p => ((if (p.1.length : Int) = width then p.2.map fun q => (p.1, q.1) else []).map pairD)) (gfix_name (i := 1) (vs := [1, 2]) (by decide)) (gfix_name (i := 2) (vs := [2]) (by decide)) <| it_any <| ev_fld c.cMachine c.nTable <| ev_var rfl ⟨machF width n t, _, rfl, rfl, _, rfl, ?_, ?_, fun i d l hd hl2 => ?_, ?_⟩
    · unfold tabK
      rw [List.length_map, List.length_map, List.length_map]
    · rw [eL, List.length_map]
      exact sl_le (by omega)
    · unfold tabK at hd
      rw [List.map_map, List.getElem?_map] at hd
      obtain ⟨⟨s, r⟩, hi, rfl⟩ := Option.map_eq_some_iff.mp hd
      rw [List.getElem?_map, hi] at hl2
      cases hl2
      have hm := List.mem_of_getElem? hi
      refine gt_name ⟨rfl, tt_test <| ev_op <| ev_cb <| ar_cons <| ev_var (d := tupI s) (by rw [← keyD_I]; rfl) <| ar_nil <| cd_lenT <| ev_fld c.cMachine c.nWidth <| ev_var rfl ⟨machF width n t, _, rfl, rfl, od_eqI ⟨_, rfl, rfl, ifD (fun h => ?_) fun h => ?_⟩⟩⟩
      · have hv : valD (tabK t) (keyI s) = some (.dT (rowK r)) := valD_mem (g := fun p : List Int × Row => p.1) (v := fun p => Dt.dT (rowK p.2)) (x := (s, r)) wf.nd hm
        rw [List.length_map] at h
        show ItD _ _ _ _ _
        refine it_any <| ev_op <| ev_fld c.cMachine c.nTable <| ev_var rfl ⟨machF width n t, _, rfl, rfl, ev_var (d := keyD (keyI s)) rfl <| od_ixDT hv ⟨_, rfl, rfl, ?_, fun j e y he hy => ?_⟩⟩
        · show _ = ((if (s.length : Int) = width then r.map fun q => (s, q.1) else []).map pairD).length
          rw [if_pos h]
          unfold rowK
          rw [List.length_map, List.length_map, List.length_map, List.length_map]
        · have hy2 : ((if (s.length : Int) = width then r.map fun q => (s, q.1) else []).map pairD)[j]? = some y := hy
          rw [if_pos h, List.map_map, List.getElem?_map] at hy2
          unfold rowK at he
          rw [List.map_map, List.getElem?_map] at he
          obtain ⟨⟨f', ts⟩, ht, rfl⟩ := Option.map_eq_some_iff.mp he
          rw [ht] at hy2
          cases hy2
          exact gt_name ⟨rfl, ev_tup <| ar_cons <| ev_var (d := keyD (keyI s)) rfl <| ar_cons <| ev_var (d := keyD (keyI f')) rfl <| ar_nil ⟨two_le, by rw [keyD_I, keyD_I]; rfl, rfl⟩⟩
      · rw [List.length_map] at h
        show (if (s.length : Int) = width then r.map fun q => (s, q.1) else []).map pairD = []
        rw [if_neg h]
        rfl
    · rw [eL]
      exact ar_nil (sorted_pairs hl q)
theorem rd_Ring_init (c : Clss K) {ds : List Dt} {M : Mem} (h : S_Ring_init K ds M Q X) : RnD ⟨K, E, X⟩ (t_Ring_init K w E) (startG ["self", "lead", "loop"] ds) M (retE Q) := by
  obtain ⟨a, es, fs, rfl, rfl, hr, q⟩ := h
  cases hr with
  | mk l r =>
    unfold t_Ring_init
    refine rn_seq <| rn_fld c.cRing c.nLead <| ev_var (d := l) rfl <| ev_var (d := .ref a) rfl ⟨a, [], [], rfl, .refl _, by decide, ?_⟩
    exact rn_fld c.cRing c.nLoop <| ev_var (d := r) rfl <| ev_var (d := .ref a) rfl ⟨a, _, [], rfl, .refl _, by show 1 < 1000; decide, q⟩
theorem rd_Heights_init (c : Clss K) {ds : List Dt} {M : Mem} (h : S_Heights_init K ds M Q X) : RnD ⟨K, E, X⟩ (t_Heights_init K w E) (startG ["self", "machine", "beneath", "state", "number"] ds) M (retE Q) := by
  obtain ⟨a, es, fs, rfl, rfl, hr, q⟩ := h
  cases hr with
  | mk m ps hl =>
    unfold t_Heights_init
    refine rn_seq <| rn_fld c.cHeights c.nMach <| ev_var (d := m) rfl <| ev_var (d := .ref a) rfl ⟨a, [], [], rfl, .refl _, by decide, ?_⟩
    refine rn_fld c.cHeights c.nBeneath <| ev_map (vs := [3, 4]) (fun e => e) (gfix_t (gfix_cons (gfix_name (i := 3) (vs := [3, 4]) (by decide)) (gfix_cons (gfix_name (i := 4) (vs := [3, 4]) (by decide)) gfix_nil))) <| it_any <| ev_var (d := .lst (ps.map benD)) rfl ⟨_, rfl, by rw [List.length_map]; exact sl_le (by omega), fun i d hd => ?_, ?_⟩
    · rw [List.getElem?_map] at hd
      obtain ⟨⟨s, n⟩, _, rfl⟩ := Option.map_eq_some_iff.mp hd
      exact gt_tup rfl <| gs_cons <| gt_name <| gs_cons <| gt_name <| gs_nil <| ev_tup <| ar_cons <| ev_var (d := tupI s) rfl <| ar_cons <| ev_var (d := .int n) rfl <| ar_nil ⟨two_le, rfl, rfl⟩
    · refine ev_var (d := .ref a) rfl ⟨a, _, [], rfl, .refl _, by show 1 < 1000; decide, ?_⟩
      rw [List.map_id']
      exact q
theorem tie_block {ts : List Trip} (h : ∀ t ∈ ts, numsOk t.1 ∧ numsOk t.2.1 ∧ numsOk t.2.2) : BlockR "tie" ["numbers", "numbers", "numbers"] (ts.map tieW) (ts.map tieD) := by
  induction ts with
  | nil => exact .nil
  | cons p r ih =>
    have h1 := h p List.mem_cons_self
    exact .cons (.cons (.num p.1 h1.1) (.cons (.num p.2.1 h1.2.1) (.cons (.num p.2.2 h1.2.2) .nil))) (ih fun x hx => h x (List.mem_cons_of_mem _ hx))
theorem ben_block {ps : List (List Int × Int)} (h : ∀ p ∈ ps, numsOk p.1 ∧ cntOk p.2) : BlockR "beneath" ["numbers", "count"] (ps.map benW) (ps.map benD) := by
  induction ps with
  | nil => exact .nil
  | cons p r ih =>
    have h1 := h p List.mem_cons_self
    exact .cons (.cons (.num p.1 h1.1) (.cons (.cnt p.2 h1.2) .nil)) (ih fun x hx => h x (List.mem_cons_of_mem _ hx))
theorem rd_machine_from {ds : List Dt} {M : Mem} (h : S_machine_from K ds M Q X) : RnD ⟨K, E, X⟩ (t_machine_from K w E) (startG ["lines", "width", "ties"] ds) M (retE Q) := by
  obtain ⟨rfl, d, hr, q⟩ := h
  cases hr with
  | mk width ties post h1 h2 h3 =>
    unfold t_machine_from
    refine rn_seq <| rn_asg <| ev_op <| ev_rel <| ar_cons <| ev_var rfl <| ar_cons <| ev_int <| ar_cons <| ev_str <| ar_nil ⟨_, .mk (machLs width ties ++ post) 0 "machine" ["count"] [numT width] [.int width] rfl (by decide) (.cons (.cnt width h1) .nil), ev_int <| od_ixL (d := .int width) (atI_nat (n := 0) rfl) <| gt_name ?_⟩
    refine rn_seq <| rn_asg <| ev_rel <| ar_cons <| ev_var rfl <| ar_cons <| ev_int <| ar_cons <| ev_str <| ar_nil ⟨.lst (ties.map tieD), .mk [["machine", numT width]] (ties.map tieW) post "tie" _ _ (tie_block h2.1) (by decide) h3 (by rw [List.length_map]; have := h2.2; omega), gt_name ?_⟩
    refine rn_ret <| ev_tup <| ar_cons <| ev_machine <| ar_cons <| ev_var (d := .int width) rfl <| ar_cons <| ev_var (d := .lst (ties.map tieD)) rfl <| ar_nil ⟨width, ties, rfl, h2.2, ar_cons <| ev_cb <| ar_cons <| ev_var (d := .lst (ties.map tieD)) rfl <| ar_nil <| cd_lenL <| ar_nil ⟨two_le, ?_⟩⟩
    rw [List.length_map]
    exact q
end
end Lw
end

section
set_option Elab.async false
set_option linter.all false
set_option maxRecDepth 100000
set_option maxHeartbeats 4000000
namespace Lw
open PySem PySem.Spec PyProof.Rows L2 Evl
section
variable {K : PySem.W.Frag} {w : World} {E : XK} {X : Addr → List (Str × Dt) → Mem → Prop} {Q : Dt → Mem → Prop}
/-! ### texts of lines of words -/
def wordOk (x : Str) : Prop := 10 ∉ x.cps.toList ∧ 32 ∉ x.cps.toList ∧ x.length ≤ 1000 ∧ ∀ c ∈ x.cps.toList, c < 128
def lineOk (l : List Str) : Prop := l ≠ [] ∧ l.length ≤ 4 ∧ ∀ x ∈ l, wordOk x
def linesOk (ls : List (List Str)) : Prop := ls ≠ [] ∧ ls.length ≤ 3000 ∧ ∀ l ∈ ls, lineOk l
theorem line_split {l : List Str} (h : lineOk l) : Txt.split (lineT l) " " = l := sj blank_one (by decide +kernel) h.1 fun p hp => (h.2.2 p hp).2.1
theorem line_len {l : List Str} (h : lineOk l) : (lineT l).length ≤ 4004 := by
  unfold lineT
  refine Nat.le_trans (join_len _ _) ?_
  have h1 := sum_le (l.map (·.length)) 1000 fun x hx => by
    obtain ⟨y, hy, rfl⟩ := List.mem_map.mp hx
    exact (h.2.2 y hy).2.2.1
  have h3 : (" " : Str).length = 1 := by decide +kernel
  have h4 := h.2.1
  rw [h3]
  simp only [List.length_map] at h1 ⊢
  have : l.length * 1000 ≤ 4 * 1000 := Nat.mul_le_mul_right _ h4
  omega
theorem text_split {ls : List (List Str)} (h : linesOk ls) : Txt.split (textT ls) "\n" = ls.map lineT := by
  refine sj nl_one (by decide +kernel) (by simpa using h.1) fun p hp hc => ?_
  obtain ⟨l, hl, rfl⟩ := List.mem_map.mp hp
  rcases join_mem hc with z | ⟨x, hx, z⟩
  · rw [blank_one] at z
    cases List.mem_singleton.mp z
  · exact ((h.2.2 l hl).2.2 x hx).1 z
theorem text_len {ls : List (List Str)} (h : ls.length ≤ 3000 ∧ ∀ l ∈ ls, lineOk l) : (textT ls).length ≤ 12100000 := by
  unfold textT
  refine Nat.le_trans (join_len _ _) ?_
  have h1 := sum_le ((ls.map lineT).map (·.length)) 4004 fun x hx => by
    obtain ⟨y, hy, rfl⟩ := List.mem_map.mp hx
    obtain ⟨l, hl, rfl⟩ := List.mem_map.mp hy
    exact line_len (h.2 l hl)
  have h3 : ("\n" : Str).length = 1 := by decide +kernel
  have h4 := h.1
  rw [h3]
  simp only [List.length_map] at h1 ⊢
  have : ls.length * 4004 ≤ 3000 * 4004 := Nat.mul_le_mul_right _ h4
  omega
theorem join_fits {ls : List (List Str)} (h : ls.length ≤ 3000 ∧ ∀ l ∈ ls, lineOk l) : ((ls.map lineT).map (·.length)).sum + (ls.map lineT).length * ("\n" : Str).length ≤ 16777216 := by
  have h1 := sum_le ((ls.map lineT).map (·.length)) 4004 fun x hx => by
    obtain ⟨y, hy, rfl⟩ := List.mem_map.mp hx
    obtain ⟨l, hl, rfl⟩ := List.mem_map.mp hy
    exact line_len (h.2 l hl)
  have h3 : ("\n" : Str).length = 1 := by decide +kernel
  have h4 := h.1
  rw [h3]
  simp only [List.length_map] at h1 ⊢
  have : ls.length * 4004 ≤ 3000 * 4004 := Nat.mul_le_mul_right _ h4
  omega
/-! the words of papers -/
theorem num_ascii {n : Int} (h : numOk n) : ∀ c ∈ (numT n).cps.toList, c < 128 := fun c hc => by
  by_cases z : n = -1
  · subst z
    rw [numT_neg] at hc
    have : ∀ c ∈ ("-1" : Str).cps.toList, c < 128 := by decide +kernel
    exact this c hc
  · have := (numT_cnt ⟨by have := h.1; omega, h.2⟩).2.2.1 c hc
    omega
theorem part_ascii {ns : List Int} (h : numsOk ns) : ∀ c ∈ (partT ns).cps.toList, c < 128 := fun c hc => by
  by_cases z : ns = []
  · subst z
    have : ∀ c ∈ (partT []).cps.toList, c < 128 := by decide +kernel
    exact this c hc
  · rw [part_cons z] at hc
    rcases join_mem hc with q | ⟨p, q1, q2⟩
    · rw [comma_one] at q
      have := List.mem_singleton.mp q
      omega
    · obtain ⟨n, hn, rfl⟩ := List.mem_map.mp q1
      exact num_ascii (h.1 n hn) c q2
theorem num_word {n : Int} (h : cntOk n) : wordOk (numT n) := ⟨numT_free (by omega), numT_free (by omega), by have := (numT_cnt h).2.1; omega, num_ascii ⟨by have := h.1; omega, h.2⟩⟩
theorem part_word {ns : List Int} (h : numsOk ns) : wordOk (partT ns) := ⟨part_free (.inl rfl), part_free (.inr rfl), by have := part_len h; omega, part_ascii h⟩
theorem name_word {x : Str} (h : isNameB x = true) : wordOk x := by
  unfold isNameB at h
  rw [Bool.and_eq_true] at h
  have h1 := of_decide_eq_true h.1
  have h2 : ∀ c ∈ x.cps.toList, c ∈ lettersT.cps.toList := fun c hc => of_decide_eq_true (List.all_eq_true.mp h.2 c hc)
  exact ⟨fun z => absurd (h2 10 z) (by decide +kernel), fun z => absurd (h2 32 z) (by decide +kernel), by omega, fun c hc => by
    have h3 : ∀ c ∈ lettersT.cps.toList, c < 128 := by decide +kernel
    exact h3 c (h2 c hc)⟩
theorem lit_word (x : Str) (h : (decide (10 ∉ x.cps.toList) && (decide (32 ∉ x.cps.toList) && (decide (x.length ≤ 1000) && x.cps.toList.all fun c => decide (c < 128)))) = true) : wordOk x := by
  rw [Bool.and_eq_true, Bool.and_eq_true, Bool.and_eq_true] at h
  exact ⟨of_decide_eq_true h.1, of_decide_eq_true h.2.1, of_decide_eq_true h.2.2.1, fun c hc => of_decide_eq_true (List.all_eq_true.mp h.2.2.2 c hc)⟩
theorem two_line {a b : Str} (h1 : wordOk a) (h2 : wordOk b) : lineOk [a, b] := ⟨by simp, by simp, fun x hx => by
  rcases List.mem_cons.mp hx with rfl | hx
  · exact h1
  · obtain rfl := List.mem_singleton.mp hx
    exact h2⟩
theorem three_line {a b c : Str} (h1 : wordOk a) (h2 : wordOk b) (h3 : wordOk c) : lineOk [a, b, c] := ⟨by simp, by simp, fun x hx => by
  rcases List.mem_cons.mp hx with rfl | hx
  · exact h1
  · rcases List.mem_cons.mp hx with rfl | hx
    · exact h2
    · obtain rfl := List.mem_singleton.mp hx
      exact h3⟩
theorem four_line {a b c d : Str} (h1 : wordOk a) (h2 : wordOk b) (h3 : wordOk c) (h4 : wordOk d) : lineOk [a, b, c, d] := ⟨by simp, by simp, fun x hx => by
  rcases List.mem_cons.mp hx with rfl | hx
  · exact h1
  · rcases List.mem_cons.mp hx with rfl | hx
    · exact h2
    · rcases List.mem_cons.mp hx with rfl | hx
      · exact h3
      · obtain rfl := List.mem_singleton.mp hx
        exact h4⟩
theorem run_line {word : Str} {ms : List (Int × Str)} {st : Int} (hw : wordOk word) (h1 : cntOk st) (h2 : momsOk ms) : ∀ l ∈ runLs word ms st, lineOk l := fun l hl => by
  rcases List.mem_cons.mp hl with rfl | hl
  · exact two_line hw (num_word h1)
  · obtain ⟨p, hp, rfl⟩ := List.mem_map.mp hl
    exact three_line (lit_word _ (by decide +kernel)) (num_word (h2.1 p hp).1) (name_word (h2.1 p hp).2)
theorem mach_line {width : Int} {ties : List Trip} (h1 : cntOk width) (h2 : tiesOk ties) : ∀ l ∈ machLs width ties, lineOk l := fun l hl => by
  rcases List.mem_cons.mp hl with rfl | hl
  · exact two_line (lit_word _ (by decide +kernel)) (num_word h1)
  · obtain ⟨p, hp, rfl⟩ := List.mem_map.mp hl
    have := h2.1 p hp
    exact four_line (lit_word _ (by decide +kernel)) (part_word this.1) (part_word this.2.1) (part_word this.2.2)
theorem ben_line {ps : List (List Int × Int)} (h : pairsOk ps) : ∀ l ∈ ps.map benW, lineOk l := fun l hl => by
  obtain ⟨p, hp, rfl⟩ := List.mem_map.mp hl
  exact three_line (lit_word _ (by decide +kernel)) (part_word (h.1 p hp).1) (num_word (h.1 p hp).2)
theorem run_len {word : Str} {ms : List (Int × Str)} {st : Int} : (runLs word ms st).length = ms.length + 1 := by
  unfold runLs
  rw [List.length_cons, List.length_map]
theorem mach_len {width : Int} {ties : List Trip} : (machLs width ties).length = ties.length + 1 := by
  unfold machLs
  rw [List.length_cons, List.length_map]
theorem paper_ok {ls : List (List Str)} {d : Dt} (h : PaperR K ls d) : linesOk ls := by
  cases h with
  | run ms st h1 h2 => exact ⟨by simp [runLs], by rw [run_len]; have := h2.2; omega, run_line (lit_word _ (by decide +kernel)) h1 h2⟩
  | ring ms ms2 st st2 h1 h2 h3 h4 =>
    refine ⟨by simp [runLs], by rw [List.length_append, run_len, run_len]; have := h2.2; have := h4.2; omega, fun l hl => ?_⟩
    rcases List.mem_append.mp hl with hl | hl
    · exact run_line (lit_word _ (by decide +kernel)) h1 h2 l hl
    · exact run_line (lit_word _ (by decide +kernel)) h3 h4 l hl
  | mach width ties h1 h2 => exact ⟨by simp [machLs], by rw [mach_len]; have := h2.2; omega, mach_line h1 h2⟩
  | hts width ties ps h1 h2 h3 h4 =>
    refine ⟨by simp [machLs], by rw [List.length_append, mach_len, List.length_map]; have := h2.2; have := h3.2; omega, fun l hl => ?_⟩
    rcases List.mem_append.mp hl with hl | hl
    · exact mach_line h1 h2 l hl
    · exact ben_line h3 l hl
def splitD : Dt → Dt
  | .str x => .lst ((Txt.split x " ").map Dt.str)
  | d => d
theorem split_lines {ls : List (List Str)} (h : ∀ l ∈ ls, lineOk l) : ((ls.map lineT).map Dt.str).map splitD = ls.map lineD := by
  rw [List.map_map, List.map_map]
  refine List.map_congr_left fun l hl => ?_
  show Dt.lst ((Txt.split (lineT l) " ").map Dt.str) = _
  rw [line_split (h l hl)]
  rfl
theorem other_nil {x : Str} : Other x [] := fun l r e => by cases e
theorem other_cons {x y : Str} {l : List Str} {r : List (List Str)} (h : y ≠ x) : Other x ((y :: l) :: r) := fun l' r' e => by
  cases e
  exact ⟨y, l, rfl, h⟩
theorem rd_read_paper (c : Clss K) {ds : List Dt} {M : Mem} (h : S_read_paper K ds M Q X) : RnD ⟨K, E, X⟩ (t_read_paper K w E) (startG ["text", "lines", "paper", "read", "line", "lead", "loop", "many", "beneath"] ds) M (retE Q) := by
  obtain ⟨rfl, d, hr, q⟩ := h
  cases hr with
  | mk ls d hp =>
    have ok := paper_ok hp
    unfold t_read_paper
    refine rn_seq <| rn_asg <| ev_map (vs := [4]) splitD (gfix_name (i := 4) (vs := [4]) (by decide)) <| it_any <| ev_split <| ev_var (d := .str (textT ls)) rfl ⟨textT ls, rfl, ev_str ⟨"\n", rfl, by decide +kernel, sl_le (by have := text_len ok.2; omega), _, rfl, ?_, fun i d hd => ?_, ?_⟩⟩
    · rw [text_split ok, List.length_map, List.length_map]
      exact sl_le (by have := ok.2.1; omega)
    · rw [text_split ok, List.map_map, List.getElem?_map] at hd
      obtain ⟨l, hl, rfl⟩ := Option.map_eq_some_iff.mp hd
      have hl2 := ok.2.2 l (List.mem_of_getElem? hl)
      exact gt_name <| ev_split <| ev_var (d := .str (lineT l)) rfl ⟨lineT l, rfl, ev_str ⟨" ", rfl, by decide +kernel, sl_le (by have := line_len hl2; omega), rfl, rfl⟩⟩
    · rw [text_split ok, split_lines ok.2.2]
      refine gt_name ?_
      show RnD _ _ [some (.str (textT ls)), some (linesD ls), none, none, none, none, none, none, none] [] _
      cases hp with
      | run ms st h1 h2 =>
        have hz : ((runLs "run" ms st).map lineD).length = ms.length + 1 := by rw [List.length_map, run_len]
        refine rn_seq <| rn_if <| tt_test <| ev_op <| ev_op <| ev_op <| ev_var (d := linesD (runLs "run" ms st)) rfl <| ev_int <| od_ixL (d := lineD ["run", numT st]) (atI_nat (n := 0) rfl) <| ev_int <| od_ixL (d := .str "run") (atI_nat (n := 0) rfl) <| ev_str <| od_eqS ⟨_, rfl, ifD (fun _ => ?_) fun z => absurd rfl z⟩
        refine rn_seq <| rn_asg <| ev_rel <| ar_cons <| ev_var (d := linesD (runLs "run" ms st)) rfl <| ar_cons <| ev_int <| ar_cons <| ev_str <| ar_nil ⟨runD K ms st, by have := R_run_from.mk (K := K) [] [] "run" ms st h1 h2 other_nil (.inl rfl); rw [List.append_nil] at this; exact this, gt_name ?_⟩
        refine rn_asg <| ev_op <| ev_int <| ev_cb <| ar_cons <| ev_fld c.cRun c.nMoments <| ev_var rfl ⟨runF ms st, _, rfl, rfl, ar_nil <| cd_lenT <| od_addI <| gt_name ?_⟩
        refine rn_seq <| rn_if <| tt_test <| ev_op <| ev_var rfl <| ev_cb <| ar_cons <| ev_var (d := linesD (runLs "run" ms st)) rfl <| ar_nil <| cd_lenL <| od_lt ⟨_, rfl, ifD (fun z => ?_) fun _ => rn_next <| rn_ret <| ev_var rfl q⟩
        rw [hz, List.length_map] at z
        omega
      | ring ms ms2 st st2 h1 h2 h3 h4 =>
        have hz : ((runLs "ring" ms st ++ runLs "loop" ms2 st2).map lineD).length = ms.length + 1 + (ms2.length + 1) := by rw [List.length_map, List.length_append, run_len, run_len]
        refine rn_seq <| rn_if <| tt_test <| ev_op <| ev_op <| ev_op <| ev_var (d := linesD (runLs "ring" ms st ++ runLs "loop" ms2 st2)) rfl <| ev_int <| od_ixL (d := lineD ["ring", numT st]) (atI_nat (n := 0) rfl) <| ev_int <| od_ixL (d := .str "ring") (atI_nat (n := 0) rfl) <| ev_str <| od_eqS ⟨_, rfl, ifD (fun z => absurd z (by decide +kernel)) fun _ => ?_⟩
        refine rn_if <| tt_test <| ev_op <| ev_op <| ev_op <| ev_var (d := linesD (runLs "ring" ms st ++ runLs "loop" ms2 st2)) rfl <| ev_int <| od_ixL (d := lineD ["ring", numT st]) (atI_nat (n := 0) rfl) <| ev_int <| od_ixL (d := .str "ring") (atI_nat (n := 0) rfl) <| ev_str <| od_eqS ⟨_, rfl, ifD (fun _ => ?_) fun z => absurd rfl z⟩
        refine rn_seq <| rn_asg <| ev_rel <| ar_cons <| ev_var (d := linesD (runLs "ring" ms st ++ runLs "loop" ms2 st2)) rfl <| ar_cons <| ev_int <| ar_cons <| ev_str <| ar_nil ⟨runD K ms st, R_run_from.mk (K := K) [] (runLs "loop" ms2 st2) "ring" ms st h1 h2 (other_cons (by decide +kernel)) (.inr (.inl rfl)), gt_name ?_⟩
        refine rn_seq <| rn_asg <| ev_rel <| ar_cons <| ev_var (d := linesD (runLs "ring" ms st ++ runLs "loop" ms2 st2)) rfl <| ar_cons <| ev_op <| ev_int <| ev_cb <| ar_cons <| ev_fld c.cRun c.nMoments <| ev_var rfl ⟨runF ms st, _, rfl, rfl, ar_nil <| cd_lenT <| od_addI <| ar_cons <| ev_str <| ar_nil ⟨runD K ms2 st2, ?_, gt_name ?_⟩⟩
        · have := R_run_from.mk (K := K) (runLs "ring" ms st) [] "loop" ms2 st2 h3 h4 other_nil (.inr (.inr rfl))
          rw [List.append_nil, run_len] at this
          rw [List.length_map, show (1 : Int) + ((ms.length : Nat) : Int) = ((ms.length + 1 : Nat) : Int) by omega]
          exact this
        refine rn_seq <| rn_asg <| ev_init <| ar_cons <| ev_var rfl <| ar_cons <| ev_var rfl <| ar_nil ⟨_, .mk _ _, gt_name ?_⟩
        refine rn_asg <| ev_op <| ev_op <| ev_int <| ev_cb <| ar_cons <| ev_fld c.cRun c.nMoments <| ev_var rfl ⟨runF ms st, _, rfl, rfl, ar_nil <| cd_lenT <| od_addI <| ev_cb <| ar_cons <| ev_fld c.cRun c.nMoments <| ev_var rfl ⟨runF ms2 st2, _, rfl, rfl, ar_nil <| cd_lenT <| od_addI <| gt_name ?_⟩⟩
        refine rn_seq <| rn_if <| tt_test <| ev_op <| ev_var rfl <| ev_cb <| ar_cons <| ev_var (d := linesD (runLs "ring" ms st ++ runLs "loop" ms2 st2)) rfl <| ar_nil <| cd_lenL <| od_lt ⟨_, rfl, ifD (fun z => ?_) fun _ => rn_next <| rn_ret <| ev_var rfl q⟩
        rw [hz, List.length_map, List.length_map] at z
        omega
      | mach width ties h1 h2 =>
        have hz : ((machLs width ties).map lineD).length = ties.length + 1 := by rw [List.length_map, mach_len]
        refine rn_seq <| rn_if <| tt_test <| ev_op <| ev_op <| ev_op <| ev_var (d := linesD (machLs width ties)) rfl <| ev_int <| od_ixL (d := lineD ["machine", numT width]) (atI_nat (n := 0) rfl) <| ev_int <| od_ixL (d := .str "machine") (atI_nat (n := 0) rfl) <| ev_str <| od_eqS ⟨_, rfl, ifD (fun z => absurd z (by decide +kernel)) fun _ => ?_⟩
        refine rn_if <| tt_test <| ev_op <| ev_op <| ev_op <| ev_var (d := linesD (machLs width ties)) rfl <| ev_int <| od_ixL (d := lineD ["machine", numT width]) (atI_nat (n := 0) rfl) <| ev_int <| od_ixL (d := .str "machine") (atI_nat (n := 0) rfl) <| ev_str <| od_eqS ⟨_, rfl, ifD (fun z => absurd z (by decide +kernel)) fun _ => ?_⟩
        refine rn_seq <| rn_asg <| ev_rel <| ar_cons <| ev_var (d := linesD (machLs width ties)) rfl <| ar_nil ⟨_, by have := R_machine_from.mk (K := K) width ties [] h1 h2 other_nil; rw [List.append_nil] at this; exact this, gt_tup rfl <| gs_cons <| gt_name <| gs_cons <| gt_name <| gs_nil ?_⟩
        refine rn_seq <| rn_asg <| ev_rel <| ar_cons <| ev_var (d := linesD (machLs width ties)) rfl <| ar_cons <| ev_op <| ev_int <| ev_var rfl <| od_addI <| ar_cons <| ev_str <| ar_nil ⟨.lst [], ?_, gt_name ?_⟩
        · have := R_rows_from.mk (machLs width ties) [] [] "beneath" ["numbers", "count"] [] .nil (by decide) other_nil (by decide)
          rw [List.append_nil, List.append_nil, mach_len] at this
          rw [show (1 : Int) + ((ties.length : Nat) : Int) = ((ties.length + 1 : Nat) : Int) by omega]
          exact this
        refine rn_seq <| rn_asg <| ev_op <| ev_op <| ev_int <| ev_var rfl <| od_addI <| ev_cb <| ar_cons <| ev_var rfl <| ar_nil <| cd_lenL <| od_addI <| gt_name ?_
        refine rn_if <| tt_test <| ev_op <| ev_cb <| ar_cons <| ev_var rfl <| ar_nil <| cd_lenL <| ev_int <| od_gt ⟨_, rfl, ifD (fun z => absurd z (by decide)) fun _ => rn_next ?_⟩
        refine rn_seq <| rn_if <| tt_test <| ev_op <| ev_var rfl <| ev_cb <| ar_cons <| ev_var (d := linesD (machLs width ties)) rfl <| ar_nil <| cd_lenL <| od_lt ⟨_, rfl, ifD (fun z => ?_) fun _ => rn_next <| rn_ret <| ev_var rfl q⟩
        rw [hz] at z
        simp only [List.length_nil] at z
        omega
      | hts width ties ps h1 h2 h3 h4 =>
        have hz : ((machLs width ties ++ ps.map benW).map lineD).length = ties.length + 1 + ps.length := by rw [List.length_map, List.length_append, mach_len, List.length_map]
        have ho : Other "tie" (ps.map benW) := by
          cases ps with
          | nil => exact other_nil
          | cons p r => exact other_cons (by decide +kernel)
        have hpos : 0 < ps.length := List.length_pos_iff.mpr h4
        refine rn_seq <| rn_if <| tt_test <| ev_op <| ev_op <| ev_op <| ev_var (d := linesD (machLs width ties ++ ps.map benW)) rfl <| ev_int <| od_ixL (d := lineD ["machine", numT width]) (atI_nat (n := 0) rfl) <| ev_int <| od_ixL (d := .str "machine") (atI_nat (n := 0) rfl) <| ev_str <| od_eqS ⟨_, rfl, ifD (fun z => absurd z (by decide +kernel)) fun _ => ?_⟩
        refine rn_if <| tt_test <| ev_op <| ev_op <| ev_op <| ev_var (d := linesD (machLs width ties ++ ps.map benW)) rfl <| ev_int <| od_ixL (d := lineD ["machine", numT width]) (atI_nat (n := 0) rfl) <| ev_int <| od_ixL (d := .str "machine") (atI_nat (n := 0) rfl) <| ev_str <| od_eqS ⟨_, rfl, ifD (fun z => absurd z (by decide +kernel)) fun _ => ?_⟩
        refine rn_seq <| rn_asg <| ev_rel <| ar_cons <| ev_var (d := linesD (machLs width ties ++ ps.map benW)) rfl <| ar_nil ⟨_, R_machine_from.mk (K := K) width ties (ps.map benW) h1 h2 ho, gt_tup rfl <| gs_cons <| gt_name <| gs_cons <| gt_name <| gs_nil ?_⟩
        refine rn_seq <| rn_asg <| ev_rel <| ar_cons <| ev_var (d := linesD (machLs width ties ++ ps.map benW)) rfl <| ar_cons <| ev_op <| ev_int <| ev_var rfl <| od_addI <| ar_cons <| ev_str <| ar_nil ⟨.lst (ps.map benD), ?_, gt_name ?_⟩
        · have := R_rows_from.mk (machLs width ties) (ps.map benW) [] "beneath" ["numbers", "count"] _ (ben_block h3.1) (by decide) other_nil (by rw [List.length_map]; exact h3.2)
          rw [List.append_nil, mach_len] at this
          rw [show (1 : Int) + ((ties.length : Nat) : Int) = ((ties.length + 1 : Nat) : Int) by omega]
          exact this
        refine rn_seq <| rn_asg <| ev_op <| ev_op <| ev_int <| ev_var rfl <| od_addI <| ev_cb <| ar_cons <| ev_var rfl <| ar_nil <| cd_lenL <| od_addI <| gt_name ?_
        refine rn_if <| tt_test <| ev_op <| ev_cb <| ar_cons <| ev_var rfl <| ar_nil <| cd_lenL <| ev_int <| od_gt ⟨_, rfl, ifD (fun _ => ?_) fun z => absurd (by rw [List.length_map]; omega) z⟩
        refine rn_asg <| ev_init <| ar_cons <| ev_var rfl <| ar_cons <| ev_var rfl <| ar_nil ⟨_, .mk _ ps h3.2, gt_name ?_⟩
        refine rn_seq <| rn_if <| tt_test <| ev_op <| ev_var rfl <| ev_cb <| ar_cons <| ev_var (d := linesD (machLs width ties ++ ps.map benW)) rfl <| ar_nil <| cd_lenL <| od_lt ⟨_, rfl, ifD (fun z => ?_) fun _ => rn_next <| rn_ret <| ev_var rfl q⟩
        rw [hz, List.length_map] at z
        omega
end
end Lw
end

section
set_option Elab.async false
set_option linter.all false
set_option maxRecDepth 100000
set_option maxHeartbeats 4000000
namespace Lw
open PySem PySem.Spec PyProof.Rows L2 Evl
section
variable {K : PySem.W.Frag} {w : World} {E : XK} {X : Addr → List (Str × Dt) → Mem → Prop} {Q : Dt → Mem → Prop}
def intOf : Dt → Int
  | .int n => n
  | _ => 0
theorem intOf_map (ns : List Int) : (ns.map Dt.int).map intOf = ns := by
  rw [List.map_map]
  exact List.map_id' ns
def momL : Dt → Dt
  | .tup [.int t, .str n] => .str (lineT ["ask", numT t, n])
  | d => d
def numL : Dt → Dt
  | .tup ds => .str (partT (ds.map intOf))
  | d => d
theorem strs_ok {es : List Dt} {l : List Str} (h : es.map strT = l) (ho : ∀ e ∈ es, strOk e) (hl : es.length ≤ 1000) {d : Dt} (h0 : d = .tup es ∨ d = .lst es) : R_joined [d] (.str (lineT l)) := by
  subst h
  exact .mk es d h0 ho hl
theorem str_ok {x : Str} (h : wordOk x) : strOk (.str x) := .inl ⟨x, rfl, h.2.2.1⟩
theorem int_ok {n : Int} (h : cntOk n) : strOk (.int n) := .inr ⟨n, rfl, by have := h.1; omega, h.2⟩
theorem rd_run_lines (c : Clss K) {ds : List Dt} {M : Mem} (h : S_run_lines K ds M Q X) : RnD ⟨K, E, X⟩ (t_run_lines K w E) (startG ["run", "word", "time", "name"] ds) M (retE Q) := by
  obtain ⟨rfl, d, hr, q⟩ := h
  cases hr with
  | mk ms st word h1 h2 h3 =>
    unfold t_run_lines
    refine rn_ret <| ev_op <| ev_lst <| ar_cons <| ev_rel <| ar_cons <| ev_tup <| ar_cons <| ev_var (d := .str word) rfl <| ar_cons <| ev_fld c.cRun c.nSteps <| ev_var rfl ⟨runF ms st, .int st, rfl, rfl, ar_nil ⟨two_le, ar_nil ⟨_, strs_ok (l := [word, numT st]) rfl (fun e he => ?_) (by simp) (.inl rfl), ar_nil ⟨sl_le (by simp), ?_⟩⟩⟩⟩
    · rcases List.mem_cons.mp he with rfl | he
      · exact .inl ⟨word, rfl, by omega⟩
      · obtain rfl := List.mem_singleton.mp he
        exact int_ok h1
    · refine ev_map (vs := [2, 3]) momL (gfix_t (gfix_cons (gfix_name (i := 2) (vs := [2, 3]) (by decide)) (gfix_cons (gfix_name (i := 3) (vs := [2, 3]) (by decide)) gfix_nil))) <| it_any <| ev_fld c.cRun c.nMoments <| ev_var rfl ⟨runF ms st, _, rfl, rfl, _, rfl, moms_size h2.2, fun i d hd => ?_, od_addL ?_ ?_⟩
      · rw [List.getElem?_map] at hd
        obtain ⟨⟨t, n⟩, hi, rfl⟩ := Option.map_eq_some_iff.mp hd
        have hp := h2.1 _ (List.mem_of_getElem? hi)
        refine gt_tup rfl <| gs_cons <| gt_name <| gs_cons <| gt_name <| gs_nil <| ev_rel <| ar_cons <| ev_tup <| ar_cons <| ev_str <| ar_cons <| ev_var (d := .int t) rfl <| ar_cons <| ev_var (d := .str n) rfl <| ar_nil ⟨three_le, ar_nil ⟨_, strs_ok (l := ["ask", numT t, n]) rfl (fun e he => ?_) (by simp) (.inl rfl), rfl, rfl⟩⟩
        rcases List.mem_cons.mp he with rfl | he
        · exact str_ok (lit_word _ (by decide +kernel))
        · rcases List.mem_cons.mp he with rfl | he
          · exact int_ok hp.1
          · obtain rfl := List.mem_singleton.mp he
            exact str_ok (name_word hp.2)
      · rw [List.length_map, List.length_map]
        exact sl_le (by have := h2.2; simp only [List.length_cons, List.length_nil]; omega)
      · have e : [Dt.str (lineT [word, numT st])] ++ (ms.map momD).map momL = ((runLs word ms st).map lineT).map Dt.str := by
          unfold runLs
          rw [List.map_cons, List.map_cons, List.map_map, List.map_map, List.map_map]
          rfl
        rw [e]
        exact q
theorem rd_machine_lines (c : Clss K) {ds : List Dt} {M : Mem} (h : S_machine_lines K ds M Q X) : RnD ⟨K, E, X⟩ (t_machine_lines K w E) (startG ["machine", "lines", "tie", "numbers"] ds) M (retE Q) := by
  obtain ⟨rfl, width, n, t, once, rfl, h1, h2, ⟨wf, hl, hs⟩, q⟩ := h
  unfold t_machine_lines
  refine rn_seq <| rn_asg <| ev_lstM <| ar_cons <| ev_rel <| ar_cons <| ev_tup <| ar_cons <| ev_str <| ar_cons <| ev_fld c.cMachine c.nWidth <| ev_var rfl ⟨machF width n t, .int width, rfl, rfl, ar_nil ⟨two_le, ar_nil ⟨_, strs_ok (l := ["machine", numT width]) rfl (fun e he => ?_) (by simp) (.inl rfl), ar_nil ⟨sl_le (by simp), fun p => gt_name ?_⟩⟩⟩⟩
  · rcases List.mem_cons.mp he with rfl | he
    · exact str_ok (lit_word _ (by decide +kernel))
    · obtain rfl := List.mem_singleton.mp he
      exact int_ok h1
  · refine rn_seq <| rn_for <| it_any <| ev_mrel <| ev_var (d := mach K width n t) rfl ⟨machF width n t, rfl, rfl, ar_nil ⟨_, .mk width n t wf hl, _, rfl, ?_⟩⟩
    rw [hs]
    refine ⟨fun i Γ' M' => M' = [(p, .lst (Dt.str (lineT ["machine", numT width]) :: (once.take i).map fun t => Dt.str (lineT (tieW t))))] ∧ ∃ a b, Γ' = [some (mach K width n t), some (.ref p), a, b], ⟨rfl, none, none, rfl⟩, ?_, ?_⟩
    · rintro i d Γ' M' hd ⟨rfl, a, b, rfl⟩
      rw [List.getElem?_map] at hd
      obtain ⟨⟨x, y, z⟩, hi, rfl⟩ := Option.map_eq_some_iff.mp hd
      have hok := h2.1 _ (List.mem_of_getElem? hi)
      have hlt := (List.getElem?_eq_some_iff.mp hi).1
      refine gt_name <| rn_drop <| ev_append (n := 0) (ds := _) <| ev_var (d := .ref p) rfl ⟨rfl, rfl, ar_cons <| ev_rel <| ar_cons <| ev_op <| ev_lst <| ar_cons <| ev_str <| ar_nil ⟨sl_le (by simp), ev_map (vs := [3]) numL (gfix_name (i := 3) (vs := [3]) (by decide)) <| it_any <| ev_var (d := tieD (x, y, z)) rfl ⟨[tupI x, tupI y, tupI z], rfl, three_le, fun j e he => ?_, od_addL (sl_le (by simp)) <| ar_nil ⟨_, strs_ok (l := tieW (x, y, z)) ?_ (fun e he => ?_) (by simp) (.inr rfl), ar_nil ⟨_, _, rfl, rfl, ?_, ?_⟩⟩⟩⟩⟩
      · have fin : ∀ ns : List Int, numsOk ns → GtD (Cq.quiet ⟨K, E, X⟩) (gName 3) (tupI ns) (wipeG [some (mach K width n t), some (.ref p), some (tieD (x, y, z)), b] [3]) [(p, .lst (Dt.str (lineT ["machine", numT width]) :: (once.take i).map fun t => Dt.str (lineT (tieW t))))] fun Γ2 M2 => EvD (Cq.quiet ⟨K, E, X⟩) (tCall (toSp K (S_numbers_text K)) [] E0 (tCons (tVar 3) tNil)) Γ2 M2 fun e M3 => e = numL (tupI ns) ∧ M3 = [(p, .lst (Dt.str (lineT ["machine", numT width]) :: (once.take i).map fun t => Dt.str (lineT (tieW t))))] := fun ns hn =>
          gt_name <| ev_rel <| ar_cons <| ev_var (d := tupI ns) rfl <| ar_nil ⟨_, .mk ns hn, by show Dt.str (partT ns) = Dt.str (partT ((ns.map Dt.int).map intOf)); rw [intOf_map], rfl⟩
        match j, he with
        | 0, he => cases he; exact fin x hok.1
        | 1, he => cases he; exact fin y hok.2.1
        | 2, he => cases he; exact fin z hok.2.2
      · show (["tie", partT ((x.map Dt.int).map intOf), partT ((y.map Dt.int).map intOf), partT ((z.map Dt.int).map intOf)] : List Str) = _
        rw [intOf_map, intOf_map, intOf_map]
        rfl
      · have he2 : e ∈ [Dt.str "tie", Dt.str (partT ((x.map Dt.int).map intOf)), Dt.str (partT ((y.map Dt.int).map intOf)), Dt.str (partT ((z.map Dt.int).map intOf))] := he
        rw [intOf_map, intOf_map, intOf_map] at he2
        rcases List.mem_cons.mp he2 with rfl | he2
        · exact str_ok (lit_word _ (by decide +kernel))
        · rcases List.mem_cons.mp he2 with rfl | he2
          · exact str_ok (part_word hok.1)
          · rcases List.mem_cons.mp he2 with rfl | he2
            · exact str_ok (part_word hok.2.1)
            · obtain rfl := List.mem_singleton.mp he2
              exact str_ok (part_word hok.2.2)
      · simp only [List.length_cons, List.length_map, List.length_take]
        refine Nat.lt_of_lt_of_le ?_ (sl_le (Nat.le_refl 16777216))
        have := h2.2
        omega
      · refine ⟨?_, _, _, rfl⟩
        show [(p, MO.lst ((Dt.str (lineT ["machine", numT width]) :: (once.take i).map fun t => Dt.str (lineT (tieW t))) ++ [Dt.str (lineT (tieW (x, y, z)))]))] = _
        rw [take_at hi, List.map_append]
        rfl
    · rintro Γ' M' ⟨rfl, a, b, rfl⟩
      refine rn_ret <| ev_var rfl ?_
      rw [List.length_map, List.take_length]
      have := q p
      unfold machLs at this
      rw [List.map_cons, List.map_cons, List.map_map, List.map_map] at this
      exact this
theorem join_textD {Z : Cq} {Γ : Gam} {M : Mem} {Q : Dt → Mem → Prop} {te : TE} {ls : List (List Str)} (h : ls.length ≤ 3000 ∧ ∀ l ∈ ls, lineOk l) (he : EvD Z te Γ M fun y M2 => y = textsD ls ∧ Q (.str (textT ls)) M2) : EvD Z (tM1 (rJoinA Z.K) (tC (.str "\n")) te) Γ M Q :=
  ev_join <| ev_str ⟨"\n", rfl, ev_mono he fun d M' ⟨e, q⟩ => ⟨ls.map lineT, e, join_fits h, q⟩⟩
theorem rd_print_paper (c : Clss K) (I : Isis K) {ds : List Dt} {M : Mem} (h : S_print_paper K ds M Q X) : RnD ⟨K, E, X⟩ (t_print_paper K w E) (startG ["paper", "lines", "state", "number"] ds) M (retE Q) := by
  obtain ⟨rfl, d, hr, q⟩ := h
  unfold t_print_paper
  cases hr with
  | run ms st h1 h2 =>
    refine rn_seq <| rn_if <| tt_B <| ev_cb <| ar_cons <| ev_var (d := runD K ms st) rfl <| ar_cons <| ev_adr <| ar_nil <| cd_isi I.iRun I.iRun.me ⟨_, rfl, ifT <| rn_ret <| join_textD ⟨by rw [run_len]; have := h2.2; omega, run_line (lit_word _ (by decide +kernel)) h1 h2⟩ <| ev_rel <| ar_cons <| ev_var rfl <| ar_cons <| ev_str <| ar_nil ⟨_, .mk ms st "run" h1 h2 (by decide +kernel), rfl, q⟩⟩
  | ring ms ms2 st st2 h1 h2 h3 h4 =>
    refine rn_seq <| rn_if <| tt_B <| ev_cb <| ar_cons <| ev_var (d := ringD (runD K ms st) (runD K ms2 st2) K) rfl <| ar_cons <| ev_adr <| ar_nil <| cd_isi I.iRing I.ringRun ⟨_, rfl, ifF <| rn_next ?_⟩
    refine rn_seq <| rn_if <| tt_B <| ev_cb <| ar_cons <| ev_var (d := ringD (runD K ms st) (runD K ms2 st2) K) rfl <| ar_cons <| ev_adr <| ar_nil <| cd_isi I.iRing I.iRing.me ⟨_, rfl, ifT ?_⟩
    refine rn_ret <| join_textD (ls := runLs "ring" ms st ++ runLs "loop" ms2 st2) ⟨by rw [List.length_append, run_len, run_len]; have := h2.2; have := h4.2; omega, fun l hl => ?_⟩ <| ev_op <| ev_rel <| ar_cons <| ev_fld c.cRing c.nLead <| ev_var rfl ⟨_, _, rfl, rfl, ar_cons <| ev_str <| ar_nil ⟨_, .mk ms st "ring" h1 h2 (by decide +kernel), ev_rel <| ar_cons <| ev_fld c.cRing c.nLoop <| ev_var rfl ⟨_, _, rfl, rfl, ar_cons <| ev_str <| ar_nil ⟨_, .mk ms2 st2 "loop" h3 h4 (by decide +kernel), od_addL ?_ ⟨?_, q⟩⟩⟩⟩⟩
    · rcases List.mem_append.mp hl with hl | hl
      · exact run_line (lit_word _ (by decide +kernel)) h1 h2 l hl
      · exact run_line (lit_word _ (by decide +kernel)) h3 h4 l hl
    · rw [List.length_map, List.length_map, List.length_map, List.length_map, run_len, run_len]
      exact sl_le (by have := h2.2; have := h4.2; omega)
    · unfold textsD
      rw [List.map_append, List.map_append]
  | mach width n t once h1 h2 h3 =>
    refine rn_seq <| rn_if <| tt_B <| ev_cb <| ar_cons <| ev_var (d := mach K width n t) rfl <| ar_cons <| ev_adr <| ar_nil <| cd_isi I.iMachine I.machRun ⟨_, rfl, ifF <| rn_next ?_⟩
    refine rn_seq <| rn_if <| tt_B <| ev_cb <| ar_cons <| ev_var (d := mach K width n t) rfl <| ar_cons <| ev_adr <| ar_nil <| cd_isi I.iMachine I.machRing ⟨_, rfl, ifF <| rn_next ?_⟩
    refine rn_seq <| rn_if <| tt_B <| ev_cb <| ar_cons <| ev_var (d := mach K width n t) rfl <| ar_cons <| ev_adr <| ar_nil <| cd_isi I.iMachine I.machHts ⟨_, rfl, ifF <| rn_next ?_⟩
    refine rn_ret <| join_textD ⟨by rw [mach_len]; have := h2.2; omega, mach_line h1 h2⟩ <| ev_know <| ev_call <| ar_cons <| ev_var rfl <| ar_nil ⟨[], [], .refl _, rfl, width, n, t, once, rfl, h1, h2, h3, fun p => ⟨p, _, _, [], rfl, .refl _, .lst _, rfl, q⟩⟩
  | hts width n t once ps h1 h2 h3 h5 =>
    have hall : (machLs width once ++ ps.map benW).length ≤ 3000 ∧ ∀ l ∈ machLs width once ++ ps.map benW, lineOk l := ⟨by rw [List.length_append, mach_len, List.length_map]; have := h2.2; have := h5.2; omega, fun l hl => by
      rcases List.mem_append.mp hl with hl | hl
      · exact mach_line h1 h2 l hl
      · exact ben_line h5 l hl⟩
    refine rn_seq <| rn_if <| tt_B <| ev_cb <| ar_cons <| ev_var (d := htsD (mach K width n t) ps K) rfl <| ar_cons <| ev_adr <| ar_nil <| cd_isi I.iHeights I.htsRun ⟨_, rfl, ifF <| rn_next ?_⟩
    refine rn_seq <| rn_if <| tt_B <| ev_cb <| ar_cons <| ev_var (d := htsD (mach K width n t) ps K) rfl <| ar_cons <| ev_adr <| ar_nil <| cd_isi I.iHeights I.htsRing ⟨_, rfl, ifF <| rn_next ?_⟩
    refine rn_seq <| rn_if <| tt_B <| ev_cb <| ar_cons <| ev_var (d := htsD (mach K width n t) ps K) rfl <| ar_cons <| ev_adr <| ar_nil <| cd_isi I.iHeights I.iHeights.me ⟨_, rfl, ifT ?_⟩
    refine rn_seq <| rn_asg <| ev_call <| ar_cons <| ev_fld c.cHeights c.nMach <| ev_var rfl ⟨_, _, rfl, rfl, ar_nil ⟨[], [], .refl _, rfl, width, n, t, once, rfl, h1, h2, h3, fun p => gt_name ?_⟩⟩
    refine rn_seq <| rn_for <| it_any <| ev_fld c.cHeights c.nBeneath <| ev_var rfl ⟨_, _, rfl, rfl, _, rfl, fun i Γ' M' => M' = [(p, .lst (((machLs width once ++ (ps.take i).map benW).map lineT).map Dt.str))] ∧ ∃ a b, Γ' = [some (htsD (mach K width n t) ps K), some (.ref p), a, b], ⟨by simp only [List.take_zero, List.map_nil, List.append_nil], none, none, rfl⟩, ?_, ?_⟩
    · rintro i d Γ' M' hd ⟨rfl, a, b, rfl⟩
      rw [List.getElem?_map] at hd
      obtain ⟨⟨s, m⟩, hi, rfl⟩ := Option.map_eq_some_iff.mp hd
      have hok := h5.1 _ (List.mem_of_getElem? hi)
      refine gt_tup rfl <| gs_cons <| gt_name <| gs_cons <| gt_name <| gs_nil <| rn_drop <| ev_append (n := 0) (ds := _) <| ev_var (d := .ref p) rfl ⟨rfl, rfl, ar_cons <| ev_rel <| ar_cons <| ev_tup <| ar_cons <| ev_str <| ar_cons <| ev_rel <| ar_cons <| ev_var (d := tupI s) rfl <| ar_nil ⟨_, .mk s hok.1, ar_cons <| ev_var (d := .int m) rfl <| ar_nil ⟨three_le, ar_nil ⟨_, strs_ok (l := benW (s, m)) rfl (fun e he => ?_) (by simp) (.inl rfl), ar_nil ⟨_, _, rfl, rfl, ?_, ?_⟩⟩⟩⟩⟩
      · rcases List.mem_cons.mp he with rfl | he
        · exact str_ok (lit_word _ (by decide +kernel))
        · rcases List.mem_cons.mp he with rfl | he
          · exact str_ok (part_word hok.1)
          · obtain rfl := List.mem_singleton.mp he
            exact int_ok hok.2
      · simp only [List.length_map, List.length_append, List.length_take, mach_len]
        refine Nat.lt_of_lt_of_le ?_ (sl_le (Nat.le_refl 16777216))
        have := h2.2
        have := h5.2
        omega
      · refine ⟨?_, _, _, rfl⟩
        show [(p, MO.lst ((((machLs width once ++ (ps.take i).map benW).map lineT).map Dt.str) ++ [Dt.str (lineT (benW (s, m)))]))] = _
        rw [take_at hi, List.map_append (f := benW), ← List.append_assoc, List.map_append (f := lineT) (l₂ := [(s, m)].map benW), List.map_append (f := Dt.str) (l₂ := (([(s, m)].map benW).map lineT))]
        rfl
    · rintro Γ' M' ⟨rfl, a, b, rfl⟩
      refine rn_ret <| join_textD hall <| ev_know <| ev_var rfl ⟨p, _, _, [], rfl, .refl _, .lst _, ?_, q⟩
      rw [List.length_map, List.take_length]
      rfl
end
end Lw
end

section
set_option Elab.async false
set_option linter.all false
set_option maxRecDepth 100000
set_option maxHeartbeats 4000000
namespace Lw
open PySem PySem.Spec PyProof.Rows L2 Evl

/-! ### the law's own defs: what it draws -/
def rowsM (rs : List Int) : MO := .lst (rs.map Dt.int)
def S__law_tape (_ : PySem.W.Frag) : SD := fun ds M Q _ => M = [] ∧ ∃ ns : List Int, ds = [.sq (ns.map Dt.int)] ∧ ns.length ≤ 63 ∧ ∀ p rs, Q (.ref p) [(p, rowsM rs)]
def S__law_draw (_ : PySem.W.Frag) : SD := fun ds M Q _ => ∃ p size rs, ds = [.ref p, .int size] ∧ M = [(p, rowsM rs)] ∧ 0 < size ∧ ∀ r rs', 0 ≤ r → r < size → Q (.int r) [(p, rowsM rs')]
def S__law_number (_ : PySem.W.Frag) : SD := fun ds M Q _ => ∃ p rs, ds = [.ref p] ∧ M = [(p, rowsM rs)] ∧ ∀ n rs', cntOk n → Q (.int n) [(p, rowsM rs')]
def S__law_integers (_ : PySem.W.Frag) : SD := fun ds M Q _ => ∃ (p : Addr) (count : Int) (rs : List Int), ds = [.ref p, .int count] ∧ M = [(p, rowsM rs)] ∧ 0 ≤ count ∧ count ≤ 10 ∧ ∀ ns rs', numsOk ns → (ns.length : Int) = count → Q (tupI ns) [(p, rowsM rs')]
def S__law_name (_ : PySem.W.Frag) : SD := fun ds M Q _ => ∃ p u rs used, ds = [.ref p, .ref u] ∧ M = [(p, rowsM rs), (u, .lst (used.map Dt.str))] ∧ used.length ≤ 100 ∧ (∀ y ∈ used, isNameB y = true) ∧ ∀ x rs', isNameB x = true → Q (.str x) [(p, rowsM rs'), (u, .lst ((used ++ [x]).map Dt.str))]
def statesOk (ss : List (List Int)) : Prop := ss ≠ [] ∧ ss.length ≤ 100 ∧ ∀ s ∈ ss, numsOk s
def S__law_machine (_ : PySem.W.Frag) : SD := fun ds M Q _ => ∃ p rs, ds = [.ref p] ∧ M = [(p, rowsM rs)] ∧ ∀ width ties states rs', cntOk width → tiesOk ties → ties.length ≤ 21 → statesOk states → Q (.lst [.int width, .lst (ties.map tieD), .lst (states.map tupI)]) [(p, rowsM rs')]
def runL (ms : List (Int × Str)) (st : Int) : Dt := .lst [.lst (ms.map momD), .int st]
def S__law_run (_ : PySem.W.Frag) : SD := fun ds M Q _ => ∃ p rs names, ds = [.ref p, .lst (names.map Dt.str)] ∧ M = [(p, rowsM rs)] ∧ names ≠ [] ∧ names.length ≤ 100 ∧ (∀ x ∈ names, isNameB x = true) ∧ ∀ ms st rs', momsOk ms → ms.length ≤ 10 → cntOk st → Q (runL ms st) [(p, rowsM rs')]
section
variable {Z : Cq} {Γ : Gam} {M Mr : Mem} {Q : Dt → Mem → Prop} {tr : TA} {ta : TE} {p : Addr} {rs : List Int}
theorem ev_draw (h : ArD Z tr Γ M fun ds M1 => ∃ p size rs Mr, ds = [.ref p, .int size] ∧ 0 < size ∧ M1.Perm ((p, rowsM rs) :: Mr) ∧ ∀ r rs', 0 ≤ r → r < size → Q (.int r) ((p, rowsM rs') :: Mr)) : EvD Z (tCall (toSp Z.K (S__law_draw Z.K)) [] E0 tr) Γ M Q :=
  ev_call fun F W H σ g s R k => h F W H σ g s R fun ds M1 vs W1 H1 ⟨p, size, rs, Mr, e, h0, pm, q⟩ e1 s1 d1 => k ds M1 vs W1 H1 ⟨[(p, rowsM rs)], Mr, pm, p, size, rs, e, rfl, h0, q⟩ e1 s1 d1
/-- a draw below a written number -/
theorem ev_drawC {n : Int} (hv : Γ[0]? = some (some (.ref p))) (hn : 0 < n) (h : ∀ r rs', 0 ≤ r → r < n → Q (.int r) ((p, rowsM rs') :: Mr)) : EvD Z (tCall (toSp Z.K (S__law_draw Z.K)) [] E0 (tCons (tVar 0) (tCons (tC (.int n)) tNil))) Γ ((p, rowsM rs) :: Mr) Q :=
  ev_draw <| ar_cons <| ev_var hv <| ar_cons <| ev_int <| ar_nil ⟨p, n, rs, Mr, rfl, hn, .refl _, h⟩
theorem ev_number (hv : Γ[0]? = some (some (.ref p))) (h : ∀ n rs', cntOk n → Q (.int n) ((p, rowsM rs') :: Mr)) : EvD Z (tCall (toSp Z.K (S__law_number Z.K)) [] E0 (tCons (tVar 0) tNil)) Γ ((p, rowsM rs) :: Mr) Q :=
  ev_call <| ar_cons <| ev_var hv <| ar_nil ⟨[(p, rowsM rs)], Mr, .refl _, p, rs, rfl, rfl, h⟩
theorem ev_integers (hv : Γ[0]? = some (some (.ref p))) (ha : EvD Z ta Γ ((p, rowsM rs) :: Mr) fun d M1 => ∃ count rs2, d = .int count ∧ 0 ≤ count ∧ count ≤ 10 ∧ M1 = (p, rowsM rs2) :: Mr ∧ ∀ ns rs', numsOk ns → (ns.length : Int) = count → Q (tupI ns) ((p, rowsM rs') :: Mr)) : EvD Z (tCall (toSp Z.K (S__law_integers Z.K)) [] E0 (tCons (tVar 0) (tCons ta tNil))) Γ ((p, rowsM rs) :: Mr) Q :=
  ev_call <| ar_cons <| ev_var hv <| ar_cons <| ev_mono ha fun d M1 ⟨count, rs2, ed, h0, h1, em, q⟩ => by
    subst ed em
    exact ar_nil ⟨[(p, rowsM rs2)], Mr, .refl _, p, count, rs2, rfl, rfl, h0, h1, q⟩
theorem ev_neg {i : Int} (h : EvD Z ta Γ M fun x M1 => x = .int i ∧ Q (.int (-i)) M1) : EvD Z (tUn (rU fun i => .int (-i)) ta) Γ M Q :=
  ev_un <| ev_mono h fun x M1 ⟨e, q⟩ => by
    subst e
    exact fun F W H vx s d1 R k => by
      cases d1
      exact ⟨i, rfl, k _ _ _ _ _ q (Ex.refl W) s (.int _)⟩
theorem range_at {n : Nat} {i : Nat} {d : Dt} (h : ((List.range n).map fun (i : Nat) => Dt.int (i : Int))[i]? = some d) : i < n ∧ d = .int i := by
  rw [List.getElem?_map] at h
  obtain ⟨j, hj, rfl⟩ := Option.map_eq_some_iff.mp h
  have := (List.getElem?_eq_some_iff.mp hj)
  obtain ⟨h1, h2⟩ := this
  rw [List.length_range] at h1
  rw [List.getElem_range] at h2
  subst h2
  exact ⟨h1, rfl⟩
/-- the comprehension's list, written on -/
theorem St.fmem {K : PySem.W.Frag} {W H : Hp} {F : List (Addr × HO)} {xs : List V} {ds : List Dt} (s : St K W H M ((p, .lst xs) :: F)) (d : DVs K W xs ds) : St K W H (M ++ [(p, .lst ds)]) F := by
  have hp := s.frm (p, .lst xs) List.mem_cons_self
  refine ⟨s.ex, fun q hq => ?_, fun q hq => s.frm q (List.mem_cons_of_mem _ hq), fun q hq => s.ntu q (List.mem_cons_of_mem _ hq), ?_⟩
  · rcases List.mem_append.mp hq with hq | hq
    · exact s.mem q hq
    · obtain rfl := List.mem_singleton.mp hq
      exact ⟨hp.1, xs, hp.2, d⟩
  · have nd := s.nd
    rw [List.map_append, List.append_assoc]
    exact nd
end
section
variable {Z : Cq} {Γ : Gam} {M : Mem} {Q : Dt → Mem → Prop} {te : TE} {tt : TT}
/-- the same, the new list is written on -/
theorem ev_lcM {wi : TI} {g : TG} {vs : List Nat} (hg : GFix g vs) (h : ItD Z wi Γ M fun ds M1 => ds.length ≤ sizeLine ∧ ∃ Iv : Nat → List Dt → Mem → Prop, Iv 0 [] M1 ∧
      (∀ (i : Nat) (d : Dt) acc M', ds[i]? = some d → Iv i acc M' → GtD Z.quiet g d (wipeG Γ vs) M' fun Γ2 M2 => TtD Z.quiet tt Γ2 M2 fun b M3 => if b = true then EvD Z.quiet te Γ2 M3 fun e M4 => Iv (i + 1) (acc ++ [e]) M4 else Iv (i + 1) acc M3) ∧
      ∀ acc M' D, Iv ds.length acc M' → Q (.ref D) (M' ++ [(D, .lst acc)])) : EvD Z (tLc wi g tt te vs) Γ M Q := fun F W H σ gk s R k =>
  h F W H σ gk s _ fun ds M1 J W1 H1 ⟨hz, Iv, h0, hs, hd⟩ e1 s1 wk D hD => by
  refine ⟨fun i m H' => m = ds.length - i ∧ i ≤ ds.length ∧ ∃ W' M' accV acc, Ex W1 W' ∧ St Z.K W' H' M' ((D, .lst accV) :: F) ∧ DVs Z.K W' accV acc ∧ acc.length ≤ i ∧ Iv i acc M', ⟨ds.length, rfl, Nat.zero_le _, W1, M1, [], [], Ex.refl W1, s1.hide hD, .nil, Nat.le_refl _, h0⟩, ?_⟩
  rintro i m H' ⟨rfl, hi, W', M', accV, acc, e', s', da, hl, iv⟩
  obtain ⟨go, stop⟩ := wk W' H' M' _ e' s'
  by_cases hlt : i < ds.length
  · obtain ⟨g1, g2⟩ := go i ds[i] (List.getElem?_eq_getElem hlt)
    refine .inr ⟨g1, fun H2 => ∃ W2 M2 accV acc, Ex W1 W2 ∧ St Z.K W2 H2 M2 ((D, .lst accV) :: F) ∧ DVs Z.K W2 accV acc ∧ acc.length ≤ i + 1 ∧ Iv (i + 1) acc M2, fun H2 ⟨W2, M2, a1, a2, a, b, c, l, e⟩ => ⟨ds.length - (i + 1), by omega, rfl, hlt, W2, M2, a1, a2, a, b, c, l, e⟩, fun x H2 y => ?_⟩
    obtain ⟨W2, e2, s2, d2⟩ := g2 x H2 y
    have eW : Ex W W2 := (e1.trans e').trans e2
    have body := hs i ds[i] acc M' (List.getElem?_eq_getElem hlt) iv _ W2 H2 (wipe σ vs) x ⟨(gk.g.mono eW).wipes vs, ExR.quiet⟩ s2 d2
      (fun σ2 H3 => tt σ2 H3 fun b H4 => if b = true then te σ2 H4 fun y H5 => ∃ ac, H5 D = some (.lst ac) ∧ ac.length < sizeLine ∧ ∃ W2 M2 accV acc, Ex W1 W2 ∧ St Z.K W2 (upd H5 D (.lst (ac ++ [y]))) M2 ((D, .lst accV) :: F) ∧ DVs Z.K W2 accV acc ∧ acc.length ≤ i + 1 ∧ Iv (i + 1) acc M2
        else ∃ W2 M2 accV acc, Ex W1 W2 ∧ St Z.K W2 H4 M2 ((D, .lst accV) :: F) ∧ DVs Z.K W2 accV acc ∧ acc.length ≤ i + 1 ∧ Iv (i + 1) acc M2) fun Γ3 M3 σ3 W3 H3 q3 e3 g3 s3 => ?_
    · refine hg x (wipe σ vs) H2 _ _ (fun a b e q => ⟨?_, q⟩) body
      rw [wipe_wipe] at e
      exact e
    · refine q3 _ W3 H3 σ3 g3 s3 _ fun b M4 W4 H4 q4 e4 s4 => ?_
      cases b with
      | true =>
        refine iteT ((show EvD Z.quiet te Γ3 M4 _ from q4) _ W4 H4 σ3 (g3.mono e4) s4 _ fun y M5 vy W5 H5 q5 e5 s5 d5 => ?_)
        obtain ⟨hp, s6⟩ := s5.fset (xs := accV ++ [vy])
        refine ⟨accV, hp, ?_, W5, M5, accV ++ [vy], acc ++ [y], ((((e'.trans e2).trans e3).trans e4).trans e5), s6, (da.mono (((e2.trans e3).trans e4).trans e5)).append (.cons d5 .nil), by rw [List.length_append]; exact Nat.succ_le_succ hl, q5⟩
        rw [da.len]
        omega
      | false => exact iteF ⟨W4, M4, accV, acc, (((e'.trans e2).trans e3).trans e4), s4, da.mono ((e2.trans e3).trans e4), by omega, q4⟩
  · have hl2 : i = ds.length := by omega
    subst hl2
    exact .inl ⟨stop, k _ _ _ _ _ (hd _ _ D iv) (e1.trans e') (s'.fmem da) (.ref D)⟩
end
end Lw
end

section
set_option Elab.async false
set_option linter.all false
set_option maxRecDepth 100000
set_option maxHeartbeats 4000000
namespace Lw
open PySem PySem.Spec PyProof.Rows L2 Evl
open C8 (pe_gc)
variable {P : Program} {w : World} {K : PySem.W.Frag} {mg : Str → Option Value} {base : Heap}
/-! _law_tape -/
abbrev s__law_tape : Stmt := (top 53)
theorem sc__law_tape : FnScope ["script", "rows", "seed", "k", "cell", "turn", "first"] ["script"] (defScope s__law_tape) := ⟨rfl, rfl, rfl, by decide +kernel, rfl, by decide +kernel, by decide +kernel⟩
def t__law_tape (K : PySem.W.Frag) (w : World) (E : XK) : TS :=
    tSeq (tAsg (tLst (tNil)) (gName 1))
    (tSeq (tAsg (tOp (rAddA K) (tOp (rMulA) (tCB (rLenA K) (tCons (tVar 0) (tNil))) (tC (.int 977))) (tC (.int 1))) (gName 2))
    (tSeq (tFor (iRng1 (tCons (tC (.int 63)) (tNil))) (gName 3) (tIfS (tTest (tOp (rLtA) (tVar 3) (tCB (rLenA K) (tCons (tVar 0) (tNil))))) (tAsg (tOp (rModA) (tCB (rIntA) (tCons (tOp (rAddA K) (tOp (rMulA) (tVar 2) (tC (.int 31))) (tOp (rIxA K w) (tVar 0) (tVar 3))) (tNil))) (tC (.int 2147483647))) (gName 2)) (tNext)))
    (tSeq (tFor (iRng1 (tCons (tC (.int 420)) (tNil))) (gName 3) (tSeq (tAsg (tOp (rModA) (tCB (rIntA) (tCons (tOp (rAddA K) (tOp (rAddA K) (tOp (rMulA) (tVar 2) (tC (.int 48271))) (tOp (rMulA) (tC (.int 7)) (tVar 3))) (tC (.int 3))) (tNil))) (tC (.int 2147483647))) (gName 2))
    (tDrop (tBM K "list" rAppend (tVar 1) (tCons (tOp (rDivA) (tVar 2) (tC (.int 13))) (tNil))))))
    (tSeq (tFor (iRng1 (tCons (tC (.int 63)) (tNil))) (gName 3) (tIfS (tTest (tOp (rLtA) (tVar 3) (tCB (rLenA K) (tCons (tVar 0) (tNil))))) (tSeq (tAsg (tOp (rIxA K w) (tVar 0) (tVar 3)) (gName 4))
    (tIfS (tTest (tOp (rGeA) (tVar 4) (tOp (rPowA) (tC (.int 10)) (tC (.int 18))))) (tFor (iRng1 (tCons (tC (.int 24)) (tNil))) (gName 5) (tIfS (tTest (tOp (rGtA) (tVar 4) (tC (.int 0)))) (tSeq (tDrop (tBM K "list" rAppend (tVar 1) (tCons (tOp (rModA) (tCB (rIntA) (tCons (tVar 4) (tNil))) (tC (.int 5040))) (tNil))))
    (tAsg (tOp (rDivA) (tVar 4) (tC (.int 5040))) (gName 4))) (tNext))) (tSeq (tAsg (tOp (rModA) (tCB (rIntA) (tCons (tOp (rAddA K) (tOp (rAddA K) (tOp (rMulA) (tVar 4) (tC (.int 48271))) (tOp (rMulA) (tVar 3) (tC (.int 69621)))) (tC (.int 11))) (tNil))) (tC (.int 2147483647))) (gName 6))
    (tSeq (tDrop (tBM K "list" rAppend (tVar 1) (tCons (tOp (rDivA) (tOp (rModA) (tCB (rIntA) (tCons (tOp (rAddA K) (tOp (rMulA) (tVar 6) (tC (.int 16807))) (tVar 3)) (tNil))) (tC (.int 2147483629))) (tC (.int 7))) (tNil))))
    (tDrop (tBM K "list" rAppend (tVar 1) (tCons (tOp (rDivA) (tOp (rModA) (tCB (rIntA) (tCons (tOp (rAddA K) (tOp (rMulA) (tVar 6) (tC (.int 39373))) (tC (.int 5))) (tNil))) (tC (.int 2147483587))) (tC (.int 11))) (tNil)))))))) (tNext)))
    (tRet (tVar 1))))))
theorem der__law_tape (T : Txt K mg) {f : Addr} (cdv : Value) (A : Around) (outer : List Env) (s : Shared) (H : Hp) (E : XK) (hr : Room 0 (A.deeper (envOfC "_law_tape" (defScope s__law_tape) s.heap.objs.size f cdv))) :
    PSs (cxOf (L2.CX P w) P w K mg base ["script", "rows", "seed", "k", "cell", "turn", "first"] "_law_tape" (defScope s__law_tape) f cdv A outer s H E) (defBody s__law_tape) (t__law_tape K w E) := by
  have tk := tk_of (P := P) (w := w) (K := K) (mg := mg) (base := base) (N := ["script", "rows", "seed", "k", "cell", "turn", "first"]) (qual := "_law_tape") (scope := defScope s__law_tape) (f := f) (cdv := cdv) (A := A) (outer := outer) (s := s) (H := H) (E := E)
  have po := po_of (P := P) (w := w) (K := K) (mg := mg) (base := base) (N := ["script", "rows", "seed", "k", "cell", "turn", "first"]) (qual := "_law_tape") (scope := defScope s__law_tape) (f := f) (cdv := cdv) (A := A) (outer := outer) (s := s) (H := H) (E := E)
  have hu1 := hu1_of hr
  have hu64 := hu64_of hr
  have hu65 := hu65_of hr
  unfold t__law_tape
  exact pss_cons (ps_set (i := 1) sc__law_tape.nd rfl (by first | exact .inl rfl | exact .inr rfl) (pe_lst (pa_nil)))
    (pss_cons (ps_set (i := 2) sc__law_tape.nd rfl (by first | exact .inl rfl | exact .inr rfl) (pe_op op_addA (pe_op op_mulA (pe_callB call_lenA (by rfl) T.b_len (by decide +kernel) (pa_cons (pv 0) (pa_nil))) (pe_int)) (pe_int)))
    (pss_cons (ps_for po rfl (pi_range1 (by rfl) T.b_range (pa_cons (pe_int) (pa_nil))) (pg_name (i := 3) sc__law_tape.nd rfl (by first | exact .inl rfl | exact .inr rfl)) (pss_one (ps_if (pt_cmpR op_ltA (pv 3) (pe_callB call_lenA (by rfl) T.b_len (by decide +kernel) (pa_cons (pv 0) (pa_nil))) (nomark _)) (pss_one (ps_set (i := 2) sc__law_tape.nd rfl (by first | exact .inl rfl | exact .inr rfl) (pe_op op_modA (pe_callTy call_intA (by rfl) T.b_int (by decide +kernel) (pa_cons (pe_op op_addA (pe_op op_mulA (pv 2) (pe_int)) (pe_ix (ix_A hu1) (pv 0) (pv 3) (fun _ _ => rfl))) (pa_nil))) (pe_int)))) (pss_nil))))
    (pss_cons (ps_for po rfl (pi_range1 (by rfl) T.b_range (pa_cons (pe_int) (pa_nil))) (pg_name (i := 3) sc__law_tape.nd rfl (by first | exact .inl rfl | exact .inr rfl)) (pss_cons (ps_set (i := 2) sc__law_tape.nd rfl (by first | exact .inl rfl | exact .inr rfl) (pe_op op_modA (pe_callTy call_intA (by rfl) T.b_int (by decide +kernel) (pa_cons (pe_op op_addA (pe_op op_addA (pe_op op_mulA (pv 2) (pe_int)) (pe_op op_mulA (pe_int) (pv 3))) (pe_int)) (pa_nil))) (pe_int)))
    (pss_one (ps_expr (pe_bm PySem.F.plainAttrs_list PySem.F.slot_list_append PySem.F.type_list_append mt_append (pv 1) (pa_cons (pe_op op_divA (pv 2) (pe_int)) (pa_nil)))))))
    (pss_cons (ps_for po rfl (pi_range1 (by rfl) T.b_range (pa_cons (pe_int) (pa_nil))) (pg_name (i := 3) sc__law_tape.nd rfl (by first | exact .inl rfl | exact .inr rfl)) (pss_one (ps_if (pt_cmpR op_ltA (pv 3) (pe_callB call_lenA (by rfl) T.b_len (by decide +kernel) (pa_cons (pv 0) (pa_nil))) (nomark _)) (pss_cons (ps_set (i := 4) sc__law_tape.nd rfl (by first | exact .inl rfl | exact .inr rfl) (pe_ix (ix_A hu1) (pv 0) (pv 3) (fun _ _ => rfl)))
    (pss_one (ps_if (pt_cmpR op_geA (pv 4) (pe_op op_powA (pe_int) (pe_int)) (nomark _)) (pss_one (ps_for po rfl (pi_range1 (by rfl) T.b_range (pa_cons (pe_int) (pa_nil))) (pg_name (i := 5) sc__law_tape.nd rfl (by first | exact .inl rfl | exact .inr rfl)) (pss_one (ps_if (pt_cmpR op_gtA (pv 4) (pe_int) (nomark _)) (pss_cons (ps_expr (pe_bm PySem.F.plainAttrs_list PySem.F.slot_list_append PySem.F.type_list_append mt_append (pv 1) (pa_cons (pe_op op_modA (pe_callTy call_intA (by rfl) T.b_int (by decide +kernel) (pa_cons (pv 4) (pa_nil))) (pe_int)) (pa_nil))))
    (pss_one (ps_set (i := 4) sc__law_tape.nd rfl (by first | exact .inl rfl | exact .inr rfl) (pe_op op_divA (pv 4) (pe_int))))) (pss_nil))))) (pss_cons (ps_set (i := 6) sc__law_tape.nd rfl (by first | exact .inl rfl | exact .inr rfl) (pe_op op_modA (pe_callTy call_intA (by rfl) T.b_int (by decide +kernel) (pa_cons (pe_op op_addA (pe_op op_addA (pe_op op_mulA (pv 4) (pe_int)) (pe_op op_mulA (pv 3) (pe_int))) (pe_int)) (pa_nil))) (pe_int)))
    (pss_cons (ps_expr (pe_bm PySem.F.plainAttrs_list PySem.F.slot_list_append PySem.F.type_list_append mt_append (pv 1) (pa_cons (pe_op op_divA (pe_op op_modA (pe_callTy call_intA (by rfl) T.b_int (by decide +kernel) (pa_cons (pe_op op_addA (pe_op op_mulA (pv 6) (pe_int)) (pv 3)) (pa_nil))) (pe_int)) (pe_int)) (pa_nil))))
    (pss_one (ps_expr (pe_bm PySem.F.plainAttrs_list PySem.F.slot_list_append PySem.F.type_list_append mt_append (pv 1) (pa_cons (pe_op op_divA (pe_op op_modA (pe_callTy call_intA (by rfl) T.b_int (by decide +kernel) (pa_cons (pe_op op_addA (pe_op op_mulA (pv 6) (pe_int)) (pe_int)) (pa_nil))) (pe_int)) (pe_int)) (pa_nil)))))))))) (pss_nil))))
    (pss_one (ps_ret (pv 1)))))))
/-! _law_draw -/
abbrev s__law_draw : Stmt := (top 54)
theorem sc__law_draw : FnScope ["rows", "size"] ["rows", "size"] (defScope s__law_draw) := ⟨rfl, rfl, rfl, by decide +kernel, rfl, by decide +kernel, by decide +kernel⟩
def t__law_draw (K : PySem.W.Frag) (w : World) (E : XK) : TS :=
    tSeq (tIfS (tTest (tOp (rEqA K) (tCB (rLenA K) (tCons (tVar 0) (tNil))) (tC (.int 0)))) (tRet (tC (.int 0))) (tNext))
    (tRet (tOp (rModA) (tCB (rIntA) (tCons (tBM0 K "list" rPop (tVar 0)) (tNil))) (tVar 1)))
theorem der__law_draw (T : Txt K mg) {f : Addr} (cdv : Value) (A : Around) (outer : List Env) (s : Shared) (H : Hp) (E : XK) (hr : Room 0 (A.deeper (envOfC "_law_draw" (defScope s__law_draw) s.heap.objs.size f cdv))) :
    PSs (cxOf (L2.CX P w) P w K mg base ["rows", "size"] "_law_draw" (defScope s__law_draw) f cdv A outer s H E) (defBody s__law_draw) (t__law_draw K w E) := by
  have tk := tk_of (P := P) (w := w) (K := K) (mg := mg) (base := base) (N := ["rows", "size"]) (qual := "_law_draw") (scope := defScope s__law_draw) (f := f) (cdv := cdv) (A := A) (outer := outer) (s := s) (H := H) (E := E)
  have po := po_of (P := P) (w := w) (K := K) (mg := mg) (base := base) (N := ["rows", "size"]) (qual := "_law_draw") (scope := defScope s__law_draw) (f := f) (cdv := cdv) (A := A) (outer := outer) (s := s) (H := H) (E := E)
  have hu1 := hu1_of hr
  have hu64 := hu64_of hr
  have hu65 := hu65_of hr
  unfold t__law_draw
  exact pss_cons (ps_if (pt_cmpR (op_eqA hu64) (pe_callB call_lenA (by rfl) T.b_len (by decide +kernel) (pa_cons (pv 0) (pa_nil))) (pe_int) (nomark _)) (pss_one (ps_ret (pe_int))) (pss_nil))
    (pss_one (ps_ret (pe_op op_modA (pe_callTy call_intA (by rfl) T.b_int (by decide +kernel) (pa_cons (pe_bm0 PySem.F.plainAttrs_list PySem.F.slot_list_pop PySem.F.type_list_pop mt_pop (pv 0)) (pa_nil))) (pv 1))))
/-! _law_name -/
abbrev s__law_name : Stmt := (top 55)
theorem sc__law_name : FnScope ["rows", "used", "letters", "base", "k", "name"] ["rows", "used"] (defScope s__law_name) := ⟨rfl, rfl, rfl, by decide +kernel, rfl, by decide +kernel, by decide +kernel⟩
def t__law_name (K : PySem.W.Frag) (w : World) (E : XK) : TS :=
    tSeq (tAsg (tC (.str "abcdefghijklmnopqrstuvwxyz")) (gName 2))
    (tSeq (tAsg (tC (.str "")) (gName 3))
    (tSeq (tFor (iRng1 (tCons (tOp (rAddA K) (tC (.int 1)) (tCall (toSp K (S__law_draw K)) [] E0 (tCons (tVar 0) (tCons (tC (.int 8)) (tNil))))) (tNil))) (gName 4) (tAsg (tOp (rAddA K) (tVar 3) (tOp (rIxA K w) (tVar 2) (tCall (toSp K (S__law_draw K)) [] E0 (tCons (tVar 0) (tCons (tC (.int 26)) (tNil)))))) (gName 3)))
    (tSeq (tAsg (tVar 3) (gName 5))
    (tSeq (tFor (iRng1 (tCons (tC (.int 26)) (tNil))) (gName 4) (tIfS (tOr (tTest (tOp (rInA K) (tVar 5) (tVar 1))) (tOr (tTest (tOp (rEqA K) (tVar 5) (tC (.str "main")))) (tTest (tOp (rEqA K) (tVar 5) (tC (.str "any")))))) (tAsg (tOp (rAddA K) (tOp (rIxA K w) (tVar 2) (tVar 4)) (tSl (rSlAll K) (tVar 3) (tNoPart) (tPart (tC (.int 7))))) (gName 5)) (tNext)))
    (tSeq (tDrop (tBM K "list" rAppend (tVar 1) (tCons (tVar 5) (tNil))))
    (tRet (tVar 5)))))))
theorem der__law_name (T : Txt K mg) (c__law_draw : FnB P w K mg base 1 "_law_draw" (S__law_draw K)) {f : Addr} (cdv : Value) (A : Around) (outer : List Env) (s : Shared) (H : Hp) (E : XK) (hr : Room 1 (A.deeper (envOfC "_law_name" (defScope s__law_name) s.heap.objs.size f cdv))) :
    PSs (cxOf (L2.CX P w) P w K mg base ["rows", "used", "letters", "base", "k", "name"] "_law_name" (defScope s__law_name) f cdv A outer s H E) (defBody s__law_name) (t__law_name K w E) := by
  have tk := tk_of (P := P) (w := w) (K := K) (mg := mg) (base := base) (N := ["rows", "used", "letters", "base", "k", "name"]) (qual := "_law_name") (scope := defScope s__law_name) (f := f) (cdv := cdv) (A := A) (outer := outer) (s := s) (H := H) (E := E)
  have po := po_of (P := P) (w := w) (K := K) (mg := mg) (base := base) (N := ["rows", "used", "letters", "base", "k", "name"]) (qual := "_law_name") (scope := defScope s__law_name) (f := f) (cdv := cdv) (A := A) (outer := outer) (s := s) (H := H) (E := E)
  have hu1 := hu1_of hr
  have hu64 := hu64_of hr
  have hu65 := hu65_of hr
  unfold t__law_name
  exact pss_cons (ps_set (i := 2) sc__law_name.nd rfl (by first | exact .inl rfl | exact .inr rfl) (pe_str))
    (pss_cons (ps_set (i := 3) sc__law_name.nd rfl (by first | exact .inl rfl | exact .inr rfl) (pe_str))
    (pss_cons (ps_for po rfl (pi_range1 (by rfl) T.b_range (pa_cons (pe_op op_addA (pe_int) (pe_fn c__law_draw hr (by decide) (by rfl) (pa_cons (pv 0) (pa_cons (pe_int) (pa_nil))))) (pa_nil))) (pg_name (i := 4) sc__law_name.nd rfl (by first | exact .inl rfl | exact .inr rfl)) (pss_one (ps_set (i := 3) sc__law_name.nd rfl (by first | exact .inl rfl | exact .inr rfl) (pe_op op_addA (pv 3) (pe_ix (ix_A hu1) (pv 2) (pe_fn c__law_draw hr (by decide) (by rfl) (pa_cons (pv 0) (pa_cons (pe_int) (pa_nil)))) (fun _ _ => rfl))))))
    (pss_cons (ps_set (i := 5) sc__law_name.nd rfl (by first | exact .inl rfl | exact .inr rfl) (pv 3))
    (pss_cons (ps_for po rfl (pi_range1 (by rfl) T.b_range (pa_cons (pe_int) (pa_nil))) (pg_name (i := 4) sc__law_name.nd rfl (by first | exact .inl rfl | exact .inr rfl)) (pss_one (ps_if (PW.pt (pw_or (pt_cmpR (op_inA hu65) (pv 5) (pv 1) (by rfl)) (pw_or (pt_cmpR (op_eqA hu64) (pv 5) (pe_str) (nomark _)) (pw_or1 (pt_cmpR (op_eqA hu64) (pv 5) (pe_str) (nomark _)))))) (pss_one (ps_set (i := 5) sc__law_name.nd rfl (by first | exact .inl rfl | exact .inr rfl) (pe_op op_addA (pe_ix (ix_A hu1) (pv 2) (pv 4) (fun _ _ => rfl)) (pe_slice sl_all (pv 3) (po_none) (po_some (pe_int)))))) (pss_nil))))
    (pss_cons (ps_expr (pe_bm PySem.F.plainAttrs_list PySem.F.slot_list_append PySem.F.type_list_append mt_append (pv 1) (pa_cons (pv 5) (pa_nil))))
    (pss_one (ps_ret (pv 5))))))))
/-! _law_number -/
abbrev s__law_number : Stmt := (top 56)
theorem sc__law_number : FnScope ["rows", "size"] ["rows"] (defScope s__law_number) := ⟨rfl, rfl, rfl, by decide +kernel, rfl, by decide +kernel, by decide +kernel⟩
def t__law_number (K : PySem.W.Frag) (w : World) (E : XK) : TS :=
    tSeq (tAsg (tCall (toSp K (S__law_draw K)) [] E0 (tCons (tVar 0) (tCons (tC (.int 7)) (tNil)))) (gName 1))
    (tSeq (tIfS (tTest (tOp (rEqA K) (tVar 1) (tC (.int 6)))) (tRet (tOp (rSubA) (tC (.int 99999)) (tCall (toSp K (S__law_draw K)) [] E0 (tCons (tVar 0) (tCons (tC (.int 3)) (tNil)))))) (tNext))
    (tSeq (tIfS (tTest (tOp (rEqA K) (tVar 1) (tC (.int 5)))) (tRet (tOp (rAddA K) (tOp (rMulA) (tCall (toSp K (S__law_draw K)) [] E0 (tCons (tVar 0) (tCons (tC (.int 1000)) (tNil)))) (tC (.int 100))) (tCall (toSp K (S__law_draw K)) [] E0 (tCons (tVar 0) (tCons (tC (.int 100)) (tNil)))))) (tNext))
    (tRet (tCall (toSp K (S__law_draw K)) [] E0 (tCons (tVar 0) (tCons (tOp (rIxA K w) (tLst (tCons (tC (.int 1)) (tCons (tC (.int 2)) (tCons (tC (.int 10)) (tCons (tC (.int 100)) (tCons (tC (.int 1000)) (tNil))))))) (tVar 1)) (tNil)))))))
theorem der__law_number (T : Txt K mg) (c__law_draw : FnB P w K mg base 1 "_law_draw" (S__law_draw K)) {f : Addr} (cdv : Value) (A : Around) (outer : List Env) (s : Shared) (H : Hp) (E : XK) (hr : Room 1 (A.deeper (envOfC "_law_number" (defScope s__law_number) s.heap.objs.size f cdv))) :
    PSs (cxOf (L2.CX P w) P w K mg base ["rows", "size"] "_law_number" (defScope s__law_number) f cdv A outer s H E) (defBody s__law_number) (t__law_number K w E) := by
  have tk := tk_of (P := P) (w := w) (K := K) (mg := mg) (base := base) (N := ["rows", "size"]) (qual := "_law_number") (scope := defScope s__law_number) (f := f) (cdv := cdv) (A := A) (outer := outer) (s := s) (H := H) (E := E)
  have po := po_of (P := P) (w := w) (K := K) (mg := mg) (base := base) (N := ["rows", "size"]) (qual := "_law_number") (scope := defScope s__law_number) (f := f) (cdv := cdv) (A := A) (outer := outer) (s := s) (H := H) (E := E)
  have hu1 := hu1_of hr
  have hu64 := hu64_of hr
  have hu65 := hu65_of hr
  unfold t__law_number
  exact pss_cons (ps_set (i := 1) sc__law_number.nd rfl (by first | exact .inl rfl | exact .inr rfl) (pe_fn c__law_draw hr (by decide) (by rfl) (pa_cons (pv 0) (pa_cons (pe_int) (pa_nil)))))
    (pss_cons (ps_if (pt_cmpR (op_eqA hu64) (pv 1) (pe_int) (nomark _)) (pss_one (ps_ret (pe_op op_subA (pe_int) (pe_fn c__law_draw hr (by decide) (by rfl) (pa_cons (pv 0) (pa_cons (pe_int) (pa_nil))))))) (pss_nil))
    (pss_cons (ps_if (pt_cmpR (op_eqA hu64) (pv 1) (pe_int) (nomark _)) (pss_one (ps_ret (pe_op op_addA (pe_op op_mulA (pe_fn c__law_draw hr (by decide) (by rfl) (pa_cons (pv 0) (pa_cons (pe_int) (pa_nil)))) (pe_int)) (pe_fn c__law_draw hr (by decide) (by rfl) (pa_cons (pv 0) (pa_cons (pe_int) (pa_nil))))))) (pss_nil))
    (pss_one (ps_ret (pe_fn c__law_draw hr (by decide) (by rfl) (pa_cons (pv 0) (pa_cons (pe_ix (ix_A hu1) (pe_lst (pa_cons (pe_int) (pa_cons (pe_int) (pa_cons (pe_int) (pa_cons (pe_int) (pa_cons (pe_int) (pa_nil))))))) (pv 1) (fun _ _ => rfl)) (pa_nil))))))))
/-! _law_integers -/
abbrev s__law_integers : Stmt := (top 57)
theorem sc__law_integers : FnScope ["rows", "count", "found", "k"] ["rows", "count"] (defScope s__law_integers) := ⟨rfl, rfl, rfl, by decide +kernel, rfl, by decide +kernel, by decide +kernel⟩
def t__law_integers (K : PySem.W.Frag) (w : World) (E : XK) : TS :=
    tSeq (tAsg (tLst (tNil)) (gName 2))
    (tSeq (tFor (iRng1 (tCons (tVar 1) (tNil))) (gName 3) (tIfS (tTest (tOp (rEqA K) (tCall (toSp K (S__law_draw K)) [] E0 (tCons (tVar 0) (tCons (tC (.int 4)) (tNil)))) (tC (.int 0)))) (tDrop (tBM K "list" rAppend (tVar 2) (tCons (tUn (rU fun i => .int (-i)) (tC (.int 1))) (tNil)))) (tDrop (tBM K "list" rAppend (tVar 2) (tCons (tCall (toSp K (S__law_number K)) [] E0 (tCons (tVar 0) (tNil))) (tNil))))))
    (tRet (tCB (rTupleA K) (tCons (tVar 2) (tNil)))))
theorem der__law_integers (T : Txt K mg) (c__law_draw : FnB P w K mg base 1 "_law_draw" (S__law_draw K)) (c__law_number : FnB P w K mg base 2 "_law_number" (S__law_number K)) {f : Addr} (cdv : Value) (A : Around) (outer : List Env) (s : Shared) (H : Hp) (E : XK) (hr : Room 2 (A.deeper (envOfC "_law_integers" (defScope s__law_integers) s.heap.objs.size f cdv))) :
    PSs (cxOf (L2.CX P w) P w K mg base ["rows", "count", "found", "k"] "_law_integers" (defScope s__law_integers) f cdv A outer s H E) (defBody s__law_integers) (t__law_integers K w E) := by
  have tk := tk_of (P := P) (w := w) (K := K) (mg := mg) (base := base) (N := ["rows", "count", "found", "k"]) (qual := "_law_integers") (scope := defScope s__law_integers) (f := f) (cdv := cdv) (A := A) (outer := outer) (s := s) (H := H) (E := E)
  have po := po_of (P := P) (w := w) (K := K) (mg := mg) (base := base) (N := ["rows", "count", "found", "k"]) (qual := "_law_integers") (scope := defScope s__law_integers) (f := f) (cdv := cdv) (A := A) (outer := outer) (s := s) (H := H) (E := E)
  have hu1 := hu1_of hr
  have hu64 := hu64_of hr
  have hu65 := hu65_of hr
  unfold t__law_integers
  exact pss_cons (ps_set (i := 2) sc__law_integers.nd rfl (by first | exact .inl rfl | exact .inr rfl) (pe_lst (pa_nil)))
    (pss_cons (ps_for po rfl (pi_range1 (by rfl) T.b_range (pa_cons (pv 1) (pa_nil))) (pg_name (i := 3) sc__law_integers.nd rfl (by first | exact .inl rfl | exact .inr rfl)) (pss_one (ps_if (pt_cmpR (op_eqA hu64) (pe_fn c__law_draw hr (by decide) (by rfl) (pa_cons (pv 0) (pa_cons (pe_int) (pa_nil)))) (pe_int) (nomark _)) (pss_one (ps_expr (pe_bm PySem.F.plainAttrs_list PySem.F.slot_list_append PySem.F.type_list_append mt_append (pv 2) (pa_cons (pe_un un_neg (pe_int)) (pa_nil))))) (pss_one (ps_expr (pe_bm PySem.F.plainAttrs_list PySem.F.slot_list_append PySem.F.type_list_append mt_append (pv 2) (pa_cons (pe_fn c__law_number hr (by decide) (by rfl) (pa_cons (pv 0) (pa_nil))) (pa_nil))))))))
    (pss_one (ps_ret (pe_callTy call_tupleA (by rfl) T.b_tuple (by decide +kernel) (pa_cons (pv 2) (pa_nil))))))
/-! _law_machine -/
abbrev s__law_machine : Stmt := (top 58)
theorem sc__law_machine : FnScope ["rows", "width", "frames", "controls", "odd", "states", "ties", "k", "source", "frame", "control"] ["rows"] (defScope s__law_machine) := ⟨rfl, rfl, rfl, by decide +kernel, rfl, by decide +kernel, by decide +kernel⟩
def t__law_machine (K : PySem.W.Frag) (w : World) (E : XK) : TS :=
    tSeq (tAsg (tCall (toSp K (S__law_draw K)) [] E0 (tCons (tVar 0) (tCons (tC (.int 5)) (tNil)))) (gName 1))
    (tSeq (tAsg (tLc (iRng1 (tCons (tOp (rAddA K) (tC (.int 1)) (tCall (toSp K (S__law_draw K)) [] E0 (tCons (tVar 0) (tCons (tC (.int 3)) (tNil))))) (tNil))) (gName 7) (tYes) (tCall (toSp K (S__law_integers K)) [] E0 (tCons (tVar 0) (tCons (tC (.int 4)) (tNil)))) [7]) (gName 2))
    (tSeq (tAsg (tLc (iRng1 (tCons (tOp (rAddA K) (tC (.int 1)) (tCall (toSp K (S__law_draw K)) [] E0 (tCons (tVar 0) (tCons (tC (.int 3)) (tNil))))) (tNil))) (gName 7) (tYes) (tCall (toSp K (S__law_integers K)) [] E0 (tCons (tVar 0) (tCons (tVar 1) (tNil)))) [7]) (gName 3))
    (tSeq (tAsg (tCall (toSp K (S__law_integers K)) [] E0 (tCons (tVar 0) (tCons (tCall (toSp K (S__law_draw K)) [] E0 (tCons (tVar 0) (tCons (tC (.int 7)) (tNil)))) (tNil)))) (gName 4))
    (tSeq (tAsg (tOp (rAddA K) (tOp (rAddA K) (tLst (tCons (tTup (tNil)) (tCons (tVar 4) (tNil)))) (tVar 3)) (tLc (iAny K (tVar 3)) (gName 10) (tYes) (tOp (rAddA K) (tVar 10) (tOp (rIxA K w) (tVar 2) (tC (.int 0)))) [10])) (gName 5))
    (tSeq (tDrop (tBM K "list" rAppend (tVar 2) (tCons (tVar 4) (tNil))))
    (tSeq (tAsg (tLst (tNil)) (gName 6))
    (tSeq (tFor (iRng1 (tCons (tCall (toSp K (S__law_draw K)) [] E0 (tCons (tVar 0) (tCons (tC (.int 21)) (tNil)))) (tNil))) (gName 7) (tSeq (tAsg (tOp (rIxA K w) (tVar 5) (tCall (toSp K (S__law_draw K)) [] E0 (tCons (tVar 0) (tCons (tCB (rLenA K) (tCons (tVar 5) (tNil))) (tNil))))) (gName 8))
    (tSeq (tAsg (tOp (rIxA K w) (tVar 2) (tCall (toSp K (S__law_draw K)) [] E0 (tCons (tVar 0) (tCons (tCB (rLenA K) (tCons (tVar 2) (tNil))) (tNil))))) (gName 9))
    (tDrop (tBM K "list" rAppend (tVar 6) (tCons (tTup (tCons (tVar 8) (tCons (tVar 9) (tCons (tOp (rIxA K w) (tVar 5) (tCall (toSp K (S__law_draw K)) [] E0 (tCons (tVar 0) (tCons (tCB (rLenA K) (tCons (tVar 5) (tNil))) (tNil))))) (tNil))))) (tNil)))))))
    (tSeq (tIfS (tTest (tOp (rGtA) (tCB (rLenA K) (tCons (tVar 6) (tNil))) (tC (.int 0)))) (tDrop (tBM K "list" rAppend (tVar 6) (tCons (tOp (rIxA K w) (tVar 6) (tCall (toSp K (S__law_draw K)) [] E0 (tCons (tVar 0) (tCons (tCB (rLenA K) (tCons (tVar 6) (tNil))) (tNil))))) (tNil)))) (tNext))
    (tSeq (tIfS (tTest (tOp (rEqA K) (tCall (toSp K (S__law_draw K)) [] E0 (tCons (tVar 0) (tCons (tC (.int 4)) (tNil)))) (tC (.int 0)))) (tAsg (tCall (toSp K (S__law_number K)) [] E0 (tCons (tVar 0) (tNil))) (gName 1)) (tNext))
    (tRet (tLst (tCons (tVar 1) (tCons (tVar 6) (tCons (tVar 5) (tNil)))))))))))))))
theorem der__law_machine (T : Txt K mg) (c__law_draw : FnB P w K mg base 1 "_law_draw" (S__law_draw K)) (c__law_integers : FnB P w K mg base 3 "_law_integers" (S__law_integers K)) (c__law_number : FnB P w K mg base 2 "_law_number" (S__law_number K)) {f : Addr} (cdv : Value) (A : Around) (outer : List Env) (s : Shared) (H : Hp) (E : XK) (hr : Room 3 (A.deeper (envOfC "_law_machine" (defScope s__law_machine) s.heap.objs.size f cdv))) :
    PSs (cxOf (L2.CX P w) P w K mg base ["rows", "width", "frames", "controls", "odd", "states", "ties", "k", "source", "frame", "control"] "_law_machine" (defScope s__law_machine) f cdv A outer s H E) (defBody s__law_machine) (t__law_machine K w E) := by
  have tk := tk_of (P := P) (w := w) (K := K) (mg := mg) (base := base) (N := ["rows", "width", "frames", "controls", "odd", "states", "ties", "k", "source", "frame", "control"]) (qual := "_law_machine") (scope := defScope s__law_machine) (f := f) (cdv := cdv) (A := A) (outer := outer) (s := s) (H := H) (E := E)
  have po := po_of (P := P) (w := w) (K := K) (mg := mg) (base := base) (N := ["rows", "width", "frames", "controls", "odd", "states", "ties", "k", "source", "frame", "control"]) (qual := "_law_machine") (scope := defScope s__law_machine) (f := f) (cdv := cdv) (A := A) (outer := outer) (s := s) (H := H) (E := E)
  have hu1 := hu1_of hr
  have hu64 := hu64_of hr
  have hu65 := hu65_of hr
  unfold t__law_machine
  exact pss_cons (ps_set (i := 1) sc__law_machine.nd rfl (by first | exact .inl rfl | exact .inr rfl) (pe_fn c__law_draw hr (by decide) (by rfl) (pa_cons (pv 0) (pa_cons (pe_int) (pa_nil)))))
    (pss_cons (ps_set (i := 2) sc__law_machine.nd rfl (by first | exact .inl rfl | exact .inr rfl) (pe_lc (own := [("k", 7)]) rfl sc__law_machine.nd (pi_range1 (by rfl) T.b_range (pa_cons (pe_op op_addA (pe_int) (pe_fn c__law_draw hr (by decide) (by rfl) (pa_cons (pv 0) (pa_cons (pe_int) (pa_nil))))) (pa_nil))) (blkOk_by (own := [("k", 7)]) (N := ["rows", "width", "frames", "controls", "odd", "states", "ties", "k", "source", "frame", "control"]) (sc := defScope s__law_machine) (by decide +kernel)) (fun _ _ _ _ _ => pg_name (i := 7) sc__law_machine.nd rfl (by first | exact .inl rfl | exact .inr rfl)) (fun _ _ _ _ _ => pts_nil) (fun _ _ _ _ _ => pe_fn c__law_integers hr (by decide) (by rfl) (pa_cons (pv 0) (pa_cons (pe_int) (pa_nil))))))
    (pss_cons (ps_setLc (i := 3) (own := [("k", 7)]) rfl sc__law_machine.nd rfl rfl (sw_true rfl rfl rfl (by decide +kernel)) (pi_range1 (by rfl) T.b_range (pa_cons (pe_op op_addA (pe_int) (pe_fn c__law_draw hr (by decide) (by rfl) (pa_cons (pv 0) (pa_cons (pe_int) (pa_nil))))) (pa_nil))) (blkOk_by (own := [("k", 7)]) (N := ["rows", "width", "frames", "controls", "odd", "states", "ties", "k", "source", "frame", "control"]) (sc := defScope s__law_machine) (by decide +kernel)) (fun _ _ _ _ _ => pg_name (i := 7) sc__law_machine.nd rfl (by first | exact .inl rfl | exact .inr rfl)) (fun _ _ _ _ _ => pts_nil) (fun _ _ _ _ _ => pe_fn c__law_integers hr (by decide) (by rfl) (pa_cons (pv 0) (pa_cons (pv 1) (pa_nil)))))
    (pss_cons (ps_set (i := 4) sc__law_machine.nd rfl (by first | exact .inl rfl | exact .inr rfl) (pe_fn c__law_integers hr (by decide) (by rfl) (pa_cons (pv 0) (pa_cons (pe_fn c__law_draw hr (by decide) (by rfl) (pa_cons (pv 0) (pa_cons (pe_int) (pa_nil)))) (pa_nil)))))
    (pss_cons (ps_set (i := 5) sc__law_machine.nd rfl (by first | exact .inl rfl | exact .inr rfl) (pe_op op_addA (pe_op op_addA (pe_lst (pa_cons (pe_tup (pa_nil)) (pa_cons (pv 4) (pa_nil)))) (pv 3)) (pe_lc (own := [("control", 10)]) rfl sc__law_machine.nd (pi_any (pv 3)) (blkOk_by (own := [("control", 10)]) (N := ["rows", "width", "frames", "controls", "odd", "states", "ties", "k", "source", "frame", "control"]) (sc := defScope s__law_machine) (by decide +kernel)) (fun _ _ _ _ _ => pg_name (i := 10) sc__law_machine.nd rfl (by first | exact .inl rfl | exact .inr rfl)) (fun _ _ _ _ _ => pts_nil) (fun _ _ _ _ _ => pe_op op_addA (pv 10) (pe_ix (ix_A hu1) (pv 2) (pe_int) (fun _ _ => rfl))))))
    (pss_cons (ps_expr (pe_bm PySem.F.plainAttrs_list PySem.F.slot_list_append PySem.F.type_list_append mt_append (pv 2) (pa_cons (pv 4) (pa_nil))))
    (pss_cons (ps_set (i := 6) sc__law_machine.nd rfl (by first | exact .inl rfl | exact .inr rfl) (pe_lst (pa_nil)))
    (pss_cons (ps_for po rfl (pi_range1 (by rfl) T.b_range (pa_cons (pe_fn c__law_draw hr (by decide) (by rfl) (pa_cons (pv 0) (pa_cons (pe_int) (pa_nil)))) (pa_nil))) (pg_name (i := 7) sc__law_machine.nd rfl (by first | exact .inl rfl | exact .inr rfl)) (pss_cons (ps_set (i := 8) sc__law_machine.nd rfl (by first | exact .inl rfl | exact .inr rfl) (pe_ix (ix_A hu1) (pv 5) (pe_fn c__law_draw hr (by decide) (by rfl) (pa_cons (pv 0) (pa_cons (pe_callB call_lenA (by rfl) T.b_len (by decide +kernel) (pa_cons (pv 5) (pa_nil))) (pa_nil)))) (fun _ _ => rfl)))
    (pss_cons (ps_set (i := 9) sc__law_machine.nd rfl (by first | exact .inl rfl | exact .inr rfl) (pe_ix (ix_A hu1) (pv 2) (pe_fn c__law_draw hr (by decide) (by rfl) (pa_cons (pv 0) (pa_cons (pe_callB call_lenA (by rfl) T.b_len (by decide +kernel) (pa_cons (pv 2) (pa_nil))) (pa_nil)))) (fun _ _ => rfl)))
    (pss_one (ps_expr (pe_bm PySem.F.plainAttrs_list PySem.F.slot_list_append PySem.F.type_list_append mt_append (pv 6) (pa_cons (pe_tup (pa_cons (pv 8) (pa_cons (pv 9) (pa_cons (pe_ix (ix_A hu1) (pv 5) (pe_fn c__law_draw hr (by decide) (by rfl) (pa_cons (pv 0) (pa_cons (pe_callB call_lenA (by rfl) T.b_len (by decide +kernel) (pa_cons (pv 5) (pa_nil))) (pa_nil)))) (fun _ _ => rfl)) (pa_nil))))) (pa_nil))))))))
    (pss_cons (ps_if (pt_cmpR op_gtA (pe_callB call_lenA (by rfl) T.b_len (by decide +kernel) (pa_cons (pv 6) (pa_nil))) (pe_int) (nomark _)) (pss_one (ps_expr (pe_bm PySem.F.plainAttrs_list PySem.F.slot_list_append PySem.F.type_list_append mt_append (pv 6) (pa_cons (pe_ix (ix_A hu1) (pv 6) (pe_fn c__law_draw hr (by decide) (by rfl) (pa_cons (pv 0) (pa_cons (pe_callB call_lenA (by rfl) T.b_len (by decide +kernel) (pa_cons (pv 6) (pa_nil))) (pa_nil)))) (fun _ _ => rfl)) (pa_nil))))) (pss_nil))
    (pss_cons (ps_if (pt_cmpR (op_eqA hu64) (pe_fn c__law_draw hr (by decide) (by rfl) (pa_cons (pv 0) (pa_cons (pe_int) (pa_nil)))) (pe_int) (nomark _)) (pss_one (ps_set (i := 1) sc__law_machine.nd rfl (by first | exact .inl rfl | exact .inr rfl) (pe_fn c__law_number hr (by decide) (by rfl) (pa_cons (pv 0) (pa_nil))))) (pss_nil))
    (pss_one (ps_ret (pe_lst (pa_cons (pv 1) (pa_cons (pv 6) (pa_cons (pv 5) (pa_nil))))))))))))))))
/-! _law_run -/
abbrev s__law_run : Stmt := (top 59)
theorem sc__law_run : FnScope ["rows", "names", "moments", "k", "time"] ["rows", "names"] (defScope s__law_run) := ⟨rfl, rfl, rfl, by decide +kernel, rfl, by decide +kernel, by decide +kernel⟩
def t__law_run (K : PySem.W.Frag) (w : World) (E : XK) : TS :=
    tSeq (tAsg (tLst (tNil)) (gName 2))
    (tSeq (tFor (iRng1 (tCons (tCall (toSp K (S__law_draw K)) [] E0 (tCons (tVar 0) (tCons (tC (.int 11)) (tNil)))) (tNil))) (gName 3) (tSeq (tAsg (tCall (toSp K (S__law_number K)) [] E0 (tCons (tVar 0) (tNil))) (gName 4))
    (tDrop (tBM K "list" rAppend (tVar 2) (tCons (tTup (tCons (tVar 4) (tCons (tOp (rIxA K w) (tVar 1) (tCall (toSp K (S__law_draw K)) [] E0 (tCons (tVar 0) (tCons (tCB (rLenA K) (tCons (tVar 1) (tNil))) (tNil))))) (tNil)))) (tNil))))))
    (tRet (tLst (tCons (tVar 2) (tCons (tCall (toSp K (S__law_number K)) [] E0 (tCons (tVar 0) (tNil))) (tNil))))))
theorem der__law_run (T : Txt K mg) (c__law_draw : FnB P w K mg base 1 "_law_draw" (S__law_draw K)) (c__law_number : FnB P w K mg base 2 "_law_number" (S__law_number K)) {f : Addr} (cdv : Value) (A : Around) (outer : List Env) (s : Shared) (H : Hp) (E : XK) (hr : Room 2 (A.deeper (envOfC "_law_run" (defScope s__law_run) s.heap.objs.size f cdv))) :
    PSs (cxOf (L2.CX P w) P w K mg base ["rows", "names", "moments", "k", "time"] "_law_run" (defScope s__law_run) f cdv A outer s H E) (defBody s__law_run) (t__law_run K w E) := by
  have tk := tk_of (P := P) (w := w) (K := K) (mg := mg) (base := base) (N := ["rows", "names", "moments", "k", "time"]) (qual := "_law_run") (scope := defScope s__law_run) (f := f) (cdv := cdv) (A := A) (outer := outer) (s := s) (H := H) (E := E)
  have po := po_of (P := P) (w := w) (K := K) (mg := mg) (base := base) (N := ["rows", "names", "moments", "k", "time"]) (qual := "_law_run") (scope := defScope s__law_run) (f := f) (cdv := cdv) (A := A) (outer := outer) (s := s) (H := H) (E := E)
  have hu1 := hu1_of hr
  have hu64 := hu64_of hr
  have hu65 := hu65_of hr
  unfold t__law_run
  exact pss_cons (ps_set (i := 2) sc__law_run.nd rfl (by first | exact .inl rfl | exact .inr rfl) (pe_lst (pa_nil)))
    (pss_cons (ps_for po rfl (pi_range1 (by rfl) T.b_range (pa_cons (pe_fn c__law_draw hr (by decide) (by rfl) (pa_cons (pv 0) (pa_cons (pe_int) (pa_nil)))) (pa_nil))) (pg_name (i := 3) sc__law_run.nd rfl (by first | exact .inl rfl | exact .inr rfl)) (pss_cons (ps_set (i := 4) sc__law_run.nd rfl (by first | exact .inl rfl | exact .inr rfl) (pe_fn c__law_number hr (by decide) (by rfl) (pa_cons (pv 0) (pa_nil))))
    (pss_one (ps_expr (pe_bm PySem.F.plainAttrs_list PySem.F.slot_list_append PySem.F.type_list_append mt_append (pv 2) (pa_cons (pe_tup (pa_cons (pv 4) (pa_cons (pe_ix (ix_A hu1) (pv 1) (pe_fn c__law_draw hr (by decide) (by rfl) (pa_cons (pv 0) (pa_cons (pe_callB call_lenA (by rfl) T.b_len (by decide +kernel) (pa_cons (pv 1) (pa_nil))) (pa_nil)))) (fun _ _ => rfl)) (pa_nil)))) (pa_nil)))))))
    (pss_one (ps_ret (pe_lst (pa_cons (pv 2) (pa_cons (pe_fn c__law_number hr (by decide) (by rfl) (pa_cons (pv 0) (pa_nil))) (pa_nil)))))))
end Lw
end

section
set_option Elab.async false
set_option linter.all false
set_option maxRecDepth 100000
set_option maxHeartbeats 4000000
namespace Lw
open PySem PySem.Spec PyProof.Rows L2 Evl
section
variable {K : PySem.W.Frag} {w : World} {E : XK} {X : Addr → List (Str × Dt) → Mem → Prop} {Q : Dt → Mem → Prop}
theorem atI_int {α : Type} {xs : List α} {k : Int} {x : α} (h0 : 0 ≤ k) (h : xs[k.toNat]? = some x) : atI xs k = some x := by
  have := atI_nat h
  rwa [Int.toNat_of_nonneg h0] at this
theorem pick {α : Type} {l : List α} {k : Int} (h0 : 0 ≤ k) (h1 : k < (l.length : Int)) : ∃ x, l[k.toNat]? = some x ∧ x ∈ l :=
  ⟨_, List.getElem?_eq_getElem (by omega), List.getElem_mem _⟩
theorem atI_map {α : Type} {l : List α} {f : α → Dt} {k : Int} {x : α} (h0 : 0 ≤ k) (h : l[k.toNat]? = some x) : atI (l.map f) k = some (f x) := atI_int h0 (by rw [List.getElem?_map, h]; rfl)
theorem rd_draw {ds : List Dt} {M : Mem} (h : S__law_draw K ds M Q X) : RnD ⟨K, E, X⟩ (t__law_draw K w E) (startG ["rows", "size"] ds) M (retE Q) := by
  obtain ⟨p, size, rs, rfl, rfl, h0, q⟩ := h
  unfold t__law_draw
  refine rn_seq <| rn_if <| tt_test <| ev_op <| ev_cb <| ar_cons <| ev_var (d := .ref p) rfl <| ar_nil <| cd_lenM (n := 0) (ds := rs.map Dt.int) rfl <| ev_int <| od_eqI ⟨_, rfl, ifD (fun _ => rn_ret <| ev_int <| q 0 rs (Int.le_refl _) h0) fun z => rn_next ?_⟩
  have hne : rs ≠ [] := fun e => z (by rw [e]; rfl)
  refine rn_ret <| ev_op <| ev_cb <| ar_cons <| ev_pop (n := 0) (ds := []) <| ev_var (d := .ref p) rfl ⟨rfl, rs.dropLast.map Dt.int, .int (rs.getLast hne), ?_, ar_nil <| cd_intI <| ev_var (d := .int size) rfl <| od_mod h0 <| q _ rs.dropLast (Int.emod_nonneg _ (by omega)) (Int.emod_lt_of_pos _ h0)⟩
  show some (p, MO.lst (rs.map Dt.int)) = _
  rw [show rs.dropLast.map Dt.int ++ [Dt.int (rs.getLast hne)] = (rs.dropLast ++ [rs.getLast hne]).map Dt.int by rw [List.map_append]; rfl, List.dropLast_concat_getLast]
theorem rd_number {ds : List Dt} {M : Mem} (h : S__law_number K ds M Q X) : RnD ⟨K, E, X⟩ (t__law_number K w E) (startG ["rows", "size"] ds) M (retE Q) := by
  obtain ⟨p, rs, rfl, rfl, q⟩ := h
  unfold t__law_number
  refine rn_seq <| rn_asg <| ev_drawC rfl (by decide) fun r rs' r0 r1 => gt_name ?_
  refine rn_seq <| rn_if <| tt_test <| ev_op <| ev_var (d := .int r) rfl <| ev_int <| od_eqI ⟨_, rfl, ifD (fun _ => ?_) fun z6 => rn_next ?_⟩
  · exact rn_ret <| ev_op <| ev_int <| ev_drawC rfl (by decide) fun a rs2 a0 a1 => od_sub <| q _ rs2 ⟨by omega, by omega⟩
  · refine rn_seq <| rn_if <| tt_test <| ev_op <| ev_var (d := .int r) rfl <| ev_int <| od_eqI ⟨_, rfl, ifD (fun _ => ?_) fun z5 => rn_next ?_⟩
    · exact rn_ret <| ev_op <| ev_op <| ev_drawC rfl (by decide) fun a rs2 a0 a1 => ev_int <| od_mul (.inr (by decide)) <| ev_drawC rfl (by decide) fun b rs3 b0 b1 => od_addI <| q _ rs3 ⟨by omega, by omega⟩
    · have hr : r = 0 ∨ r = 1 ∨ r = 2 ∨ r = 3 ∨ r = 4 := by omega
      have go : ∀ n : Int, 0 < n → n ≤ 1000 → atI [Dt.int 1, .int 2, .int 10, .int 100, .int 1000] r = some (.int n) → RnD ⟨K, E, X⟩ (tRet (tCall (toSp K (S__law_draw K)) [] E0 (tCons (tVar 0) (tCons (tOp (rIxA K w) (tLst (tCons (tC (.int 1)) (tCons (tC (.int 2)) (tCons (tC (.int 10)) (tCons (tC (.int 100)) (tCons (tC (.int 1000)) (tNil))))))) (tVar 1)) (tNil))))) [some (.ref p), some (.int r)] [(p, rowsM rs')] (retE Q) := fun n n0 n1 e =>
        rn_ret <| ev_draw <| ar_cons <| ev_var (d := .ref p) rfl <| ar_cons <| ev_op <| ev_lst <| ar_cons <| ev_int <| ar_cons <| ev_int <| ar_cons <| ev_int <| ar_cons <| ev_int <| ar_cons <| ev_int <| ar_nil ⟨sl_le (by simp), ev_var (d := .int r) rfl <| od_ixL e <| ar_nil ⟨p, n, rs', [], rfl, n0, .refl _, fun a rs2 a0 a1 => q _ rs2 ⟨by omega, by omega⟩⟩⟩
      rcases hr with rfl | rfl | rfl | rfl | rfl
      · exact go 1 (by decide) (by decide) rfl
      · exact go 2 (by decide) (by decide) rfl
      · exact go 10 (by decide) (by decide) rfl
      · exact go 100 (by decide) (by decide) rfl
      · exact go 1000 (by decide) (by decide) rfl
theorem rd_integers {ds : List Dt} {M : Mem} (h : S__law_integers K ds M Q X) : RnD ⟨K, E, X⟩ (t__law_integers K w E) (startG ["rows", "count", "found", "k"] ds) M (retE Q) := by
  obtain ⟨p, count, rs, rfl, rfl, h0, h1, q⟩ := h
  unfold t__law_integers
  refine rn_seq <| rn_asg <| ev_lstM <| ar_nil ⟨sl_le (by simp), fun f => gt_name ?_⟩
  refine rn_seq <| rn_for <| it_rng1 <| ar_cons <| ev_var (d := .int count) rfl <| ar_nil ⟨count, rfl, by omega, by omega, fun i Γ' M' => ∃ (ns : List Int) (rs' : List Int), (∀ n ∈ ns, numOk n) ∧ ns.length = i ∧ M' = [(p, rowsM rs'), (f, .lst (ns.map Dt.int))] ∧ ∃ a, Γ' = [some (.ref p), some (.int count), some (.ref f), a], ⟨[], rs, (fun n hn => by cases hn), rfl, rfl, none, rfl⟩, ?_, ?_⟩
  · rintro i d Γ' M' hd ⟨ns, rs', hns, hl, rfl, a, rfl⟩
    obtain ⟨hi, rfl⟩ := range_at hd
    have hlt : (ns.map Dt.int).length < sizeLine := by
      rw [List.length_map]
      exact Nat.lt_of_lt_of_le (show ns.length < 16777216 by omega) (sl_le (Nat.le_refl _))
    have fin : ∀ n rs2, numOk n → ∃ (ns' : List Int) (rs' : List Int), (∀ n ∈ ns', numOk n) ∧ ns'.length = i + 1 ∧ ([(p, rowsM rs2), (f, MO.lst (ns.map Dt.int ++ [.int n]))] : Mem) = [(p, rowsM rs'), (f, .lst (ns'.map Dt.int))] ∧ ∃ a, ([some (.ref p), some (.int count), some (.ref f), some (.int i)] : Gam) = [some (.ref p), some (.int count), some (.ref f), a] := fun n rs2 hn =>
      ⟨ns ++ [n], rs2, (fun m hm => by
        rcases List.mem_append.mp hm with hm | hm
        · exact hns m hm
        · obtain rfl := List.mem_singleton.mp hm
          exact hn), by rw [List.length_append, hl]; rfl, by rw [List.map_append]; rfl, _, rfl⟩
    refine gt_name <| rn_if <| tt_test <| ev_op <| ev_drawC rfl (by decide) fun r rs2 r0 r1 => ev_int <| od_eqI ⟨_, rfl, ifD (fun _ => ?_) fun _ => ?_⟩
    · exact rn_drop <| ev_append (n := 1) (ds := ns.map Dt.int) <| ev_var (d := .ref f) rfl ⟨rfl, rfl, ar_cons <| ev_neg <| ev_int ⟨rfl, ar_nil ⟨_, _, rfl, rfl, hlt, fin (-1) rs2 ⟨by decide, by decide⟩⟩⟩⟩
    · exact rn_drop <| ev_append (n := 1) (ds := ns.map Dt.int) <| ev_var (d := .ref f) rfl ⟨rfl, rfl, ar_cons <| ev_number rfl fun n rs3 hn => ar_nil ⟨_, _, rfl, rfl, hlt, fin n rs3 ⟨by have := hn.1; omega, hn.2⟩⟩⟩
  · rintro Γ' M' ⟨ns, rs', hns, hl, rfl, a, rfl⟩
    rw [List.length_map, List.length_range] at hl
    refine rn_ret <| ev_forget <| ev_cb <| ar_cons <| ev_var (d := .ref f) rfl <| ar_nil <| cd_tupM (n := 1) rfl ⟨f, _, [(p, rowsM rs')], List.Perm.swap _ _ _, q ns rs' ⟨hns, by omega⟩ (by omega)⟩
theorem rd_run {ds : List Dt} {M : Mem} (h : S__law_run K ds M Q X) : RnD ⟨K, E, X⟩ (t__law_run K w E) (startG ["rows", "names", "moments", "k", "time"] ds) M (retE Q) := by
  obtain ⟨p, rs, names, rfl, rfl, hne, hnl, hnm, q⟩ := h
  unfold t__law_run
  have hpos : 0 < names.length := List.length_pos_iff.mpr hne
  refine rn_seq <| rn_asg <| ev_lstM <| ar_nil ⟨sl_le (by simp), fun f => gt_name ?_⟩
  refine rn_seq <| rn_for <| it_rng1 <| ar_cons <| ev_drawC (Mr := [(f, .lst [])]) rfl (by decide) fun r rs1 r0 r1 => ar_nil ⟨r, rfl, by omega, by omega, fun i Γ' M' => ∃ (ms : List (Int × Str)) (rs' : List Int), (∀ m ∈ ms, cntOk m.1 ∧ isNameB m.2 = true) ∧ ms.length = i ∧ M' = [(p, rowsM rs'), (f, .lst (ms.map momD))] ∧ ∃ a b, Γ' = [some (.ref p), some (.lst (names.map Dt.str)), some (.ref f), a, b], ⟨[], rs1, (fun n hn => by cases hn), rfl, rfl, none, none, rfl⟩, ?_, ?_⟩
  · rintro i d Γ' M' hd ⟨ms, rs', hms, hl, rfl, a, b, rfl⟩
    obtain ⟨hi, rfl⟩ := range_at hd
    refine gt_name <| rn_seq <| rn_asg <| ev_number rfl fun n rs2 hn => gt_name <| rn_drop <| ev_append (n := 1) (ds := ms.map momD) <| ev_var (d := .ref f) rfl ⟨rfl, rfl, ar_cons <| ev_tup <| ar_cons <| ev_var (d := .int n) rfl <| ar_cons <| ev_op <| ev_var (d := .lst (names.map Dt.str)) rfl <| ev_draw <| ar_cons <| ev_var (d := .ref p) rfl <| ar_cons <| ev_cb <| ar_cons <| ev_var (d := .lst (names.map Dt.str)) rfl <| ar_nil <| cd_lenL <| ar_nil ⟨p, _, rs2, [(f, .lst (ms.map momD))], rfl, by rw [List.length_map]; omega, .refl _, fun k rs3 k0 k1 => ?_⟩⟩
    rw [List.length_map] at k1
    obtain ⟨x, hx, hxm⟩ := pick k0 k1
    refine od_ixL (d := .str x) (atI_map k0 hx) <| ar_nil ⟨two_le, ar_nil ⟨_, _, rfl, rfl, ?_, ms ++ [(n, x)], rs3, fun m hm => ?_, by rw [List.length_append, hl]; rfl, by rw [List.map_append]; rfl, _, _, rfl⟩⟩
    · rw [List.length_map]
      exact Nat.lt_of_lt_of_le (show ms.length < 16777216 by omega) (sl_le (Nat.le_refl _))
    · rcases List.mem_append.mp hm with hm | hm
      · exact hms m hm
      · obtain rfl := List.mem_singleton.mp hm
        exact ⟨hn, hnm _ hxm⟩
  · rintro Γ' M' ⟨ms, rs', hms, hl, rfl, a, b, rfl⟩
    rw [List.length_map, List.length_range] at hl
    refine rn_know (i := 2) (a := f) (d := .lst (ms.map momD)) (Mr := [(p, rowsM rs')]) rfl (List.Perm.swap _ _ _) (.lst _) ?_
    exact rn_ret <| ev_lst <| ar_cons <| ev_var (d := .lst (ms.map momD)) rfl <| ar_cons <| ev_number rfl fun n rs2 hn => ar_nil ⟨two_le, q ms n rs2 ⟨hms, by omega⟩ (by omega) hn⟩
end
end Lw
end

section
set_option Elab.async false
set_option linter.all false
set_option maxRecDepth 100000
set_option maxHeartbeats 4000000
namespace Lw
open PySem PySem.Spec PyProof.Rows L2 Evl
section
variable {K : PySem.W.Frag} {w : World} {E : XK} {X : Addr → List (Str × Dt) → Mem → Prop} {Q : Dt → Mem → Prop}
def inLetters (x : Str) : Prop := ∀ c ∈ x.cps.toList, c ∈ lettersT.cps.toList
theorem name_of {x : Str} (h1 : 1 ≤ x.length) (h2 : x.length ≤ 8) (h : inLetters x) : isNameB x = true := by
  unfold isNameB
  rw [decide_eq_true ⟨h1, h2⟩, Bool.true_and]
  exact List.all_eq_true.mpr fun c hc => decide_eq_true (h c hc)
theorem app_list (a b : Str) : (a ++ b).cps.toList = a.cps.toList ++ b.cps.toList := TL.tl_append a b
theorem cut7 {x : Str} (h : inLetters x) : (cutS x none (some 7)).length ≤ 7 ∧ inLetters (cutS x none (some 7)) := by
  have e1 : HT.sIx x.length x.length (some 7) ≤ 7 := by
    have := HT.sIx_nat x.length x.length 7
    rw [show ((7 : Nat) : Int) = 7 from rfl] at this
    rw [this]
    omega
  have e : (cutS x none (some 7)).cps.toList = x.cps.toList.take (HT.sIx x.length x.length (some 7)) := by
    show (((x.cps.toList.drop (HT.sIx x.length 0 none)).take (HT.sIx x.length x.length (some 7) - HT.sIx x.length 0 none)).toArray).toList = _
    rw [HT.sIx_none]
    simp
  refine ⟨?_, fun c hc => h c ?_⟩
  · have : (cutS x none (some 7)).cps.toList.length = (cutS x none (some 7)).length := Array.length_toList
    rw [← this, e, List.length_take]
    omega
  · rw [e] at hc
    exact List.mem_of_mem_take hc
theorem chars_of {x : Str} (h : isNameB x = true) : inLetters x := fun c hc => by
  unfold isNameB at h
  rw [Bool.and_eq_true] at h
  exact of_decide_eq_true (List.all_eq_true.mp h.2 c hc)
theorem lay_str {x : Str} (h : isNameB x = true) : (PyData.str x).canLay0 = true := by
  rw [PyData.canLay0]
  unfold PyData.strOk
  rw [← Array.all_toList, List.all_eq_true]
  intro c hc
  have h1 := chars_of h c hc
  have h2 : ∀ c ∈ lettersT.cps.toList, c < 1114112 := by decide +kernel
  exact decide_eq_true (h2 c h1)
theorem lay_strs : ∀ {l : List Str}, (∀ y ∈ l, isNameB y = true) → PyData.canLayAll0 (l.map PyData.str) = true
  | [], _ => by rw [List.map_nil, PyData.canLayAll0]
  | y :: l, h => by
    rw [List.map_cons, PyData.canLayAll0, lay_str (h y List.mem_cons_self), lay_strs fun z hz => h z (List.mem_cons_of_mem _ hz)]
    rfl
theorem depth_strs : ∀ l : List Str, PyData.depthAll (l.map PyData.str) = 0
  | [] => by rw [List.map_nil, PyData.depthAll]
  | y :: l => by
    rw [List.map_cons, PyData.depthAll, depth_strs l, PyData.depth]
    all_goals first | rfl | nofun
theorem dp_strs {K : PySem.W.Frag} {H : Hp} : ∀ l : List Str, DpAll K H (l.map V.str) (l.map PyData.str)
  | [] => .nil
  | y :: l => .cons (.str y) (dp_strs l)
theorem od_inM {Z : Cq} {M : Mem} {Q : Dt → Mem → Prop} {x : Str} {u : Addr} {used : List Str} (hm : (u, MO.lst (used.map Dt.str)) ∈ M) (hx : isNameB x = true) (hu : ∀ y ∈ used, isNameB y = true) (q : ∀ b, Q (.bl b) M) : OpD Z (rInA Z.K) (.str x) (.ref u) M Q := op_orR (op_orR (op_orL fun F W H vx vy s d1 d2 R k => by
  cases d2
  cases d1
  obtain ⟨xs, hxs, dx⟩ := (s.mem _ hm).2
  have e := strs_of dx
  subst e
  refine ⟨.str x, used.map PyData.str, .str x, .lst (sq_of hxs) (dp_strs used), ?_, ?_, k _ _ _ _ _ (q _) (Ex.refl W) s (.bl _)⟩
  · unfold SeqAt.shaped
    rw [lay_str hx, PyData.depth]
    · rfl
    all_goals nofun
  · unfold SeqAt.shaped
    rw [PyData.canLay0, lay_strs hu, PyData.depth, depth_strs]
    rfl))
theorem empty_list : ("" : Str).cps.toList = [] := by decide +kernel
theorem rd_name {ds : List Dt} {M : Mem} (h : S__law_name K ds M Q X) : RnD ⟨K, E, X⟩ (t__law_name K w E) (startG ["rows", "used", "letters", "base", "k", "name"] ds) M (retE Q) := by
  obtain ⟨p, u, rs, used, rfl, rfl, hul, hun, q⟩ := h
  unfold t__law_name
  have hlen : lettersT.length = 26 := by decide +kernel
  have hlist : lettersT.cps.toList.length = 26 := by decide +kernel
  have hsl : lettersT.length ≤ sizeLine := sl_le (by rw [hlen]; decide)
  refine rn_seq <| rn_asg <| ev_str <| gt_name <| rn_seq <| rn_asg <| ev_str <| gt_name ?_
  refine rn_seq <| rn_for <| it_rng1 <| ar_cons <| ev_op <| ev_int <| ev_drawC (Mr := [(u, .lst (used.map Dt.str))]) rfl (by decide) fun r rs1 r0 r1 => od_addI <| ar_nil ⟨1 + r, rfl, by omega, by omega, fun i Γ' M' => ∃ (b : Str) (rs' : List Int), inLetters b ∧ b.length = i ∧ M' = [(p, rowsM rs'), (u, .lst (used.map Dt.str))] ∧ ∃ x y, Γ' = [some (.ref p), some (.ref u), some (.str lettersT), some (.str b), x, y], ⟨"", rs1, (fun c hc => by rw [empty_list] at hc; cases hc), by decide +kernel, rfl, none, none, rfl⟩, ?_, ?_⟩
  · rintro i d Γ' M' hd ⟨b, rs', hb, hl, rfl, x, y, rfl⟩
    obtain ⟨hi, rfl⟩ := range_at hd
    refine gt_name <| rn_asg <| ev_op <| ev_var (d := .str b) rfl <| ev_op <| ev_var (d := .str lettersT) rfl <| ev_drawC rfl (by decide) fun k rs2 k0 k1 => ?_
    obtain ⟨c, hc, hcm⟩ := pick (l := lettersT.cps.toList) k0 (by rw [hlist]; exact k1)
    refine od_ixS hsl (atI_int k0 hc) <| od_addS ?_ <| gt_name ⟨b ++ ⟨#[c]⟩, rs2, fun c' hc' => ?_, ?_, rfl, _, _, rfl⟩
    · rw [hl]
      show i + 1 ≤ _
      exact sl_le (by omega)
    · rw [app_list] at hc'
      rcases List.mem_append.mp hc' with z | z
      · exact hb c' z
      · obtain rfl := List.mem_singleton.mp z
        exact hcm
    · rw [Str.length_append, hl]
      rfl
  · rintro Γ' M' ⟨b, rs', hb, hl, rfl, x, y, rfl⟩
    rw [List.length_map, List.length_range] at hl
    have hb1 : 1 ≤ b.length := by omega
    have hb2 : b.length ≤ 8 := by omega
    refine rn_seq <| rn_asg <| ev_var (d := .str b) rfl <| gt_name ?_
    refine rn_seq <| rn_for <| it_rng1 <| ar_cons <| ev_int <| ar_nil ⟨26, rfl, by decide, by decide, fun i Γ' M' => ∃ nm : Str, isNameB nm = true ∧ M' = [(p, rowsM rs'), (u, .lst (used.map Dt.str))] ∧ ∃ x, Γ' = [some (.ref p), some (.ref u), some (.str lettersT), some (.str b), x, some (.str nm)], ⟨b, name_of hb1 hb2 hb, rfl, x, rfl⟩, ?_, ?_⟩
    · rintro i d Γ' M' hd ⟨nm, hn, rfl, x, rfl⟩
      obtain ⟨hi, rfl⟩ := range_at hd
      have hi2 : i < 26 := hi
      have same : ∃ nm' : Str, isNameB nm' = true ∧ ([(p, rowsM rs'), (u, MO.lst (used.map Dt.str))] : Mem) = [(p, rowsM rs'), (u, .lst (used.map Dt.str))] ∧ ∃ x, ([some (.ref p), some (.ref u), some (.str lettersT), some (.str b), some (.int i), some (.str nm)] : Gam) = [some (.ref p), some (.ref u), some (.str lettersT), some (.str b), x, some (.str nm')] := ⟨nm, hn, rfl, _, rfl⟩
      have change : ∀ P : EndD, (∀ nm' : Str, isNameB nm' = true → P.nx [some (.ref p), some (.ref u), some (.str lettersT), some (.str b), some (.int i), some (.str nm')] [(p, rowsM rs'), (u, .lst (used.map Dt.str))]) → RnD ⟨K, E, X⟩ (tAsg (tOp (rAddA K) (tOp (rIxA K w) (tVar 2) (tVar 4)) (tSl (rSlAll K) (tVar 3) (tNoPart) (tPart (tC (.int 7))))) (gName 5)) [some (.ref p), some (.ref u), some (.str lettersT), some (.str b), some (.int i), some (.str nm)] [(p, rowsM rs'), (u, .lst (used.map Dt.str))] P := fun P kk => by
        obtain ⟨c, hc, hcm⟩ := pick (l := lettersT.cps.toList) (k := (i : Int)) (by omega) (by rw [hlist]; omega)
        have c7 := cut7 hb
        refine rn_asg <| ev_op <| ev_op <| ev_var (d := .str lettersT) rfl <| ev_var (d := .int i) rfl <| od_ixS hsl (atI_int (by omega) hc) <| ev_sl <| ev_var (d := .str b) rfl <| po_no <| po_part <| ev_int ⟨7, rfl, .inr ⟨b, rfl, sl_le (by omega), od_addS ?_ <| gt_name <| kk _ ?_⟩⟩
        · refine sl_le ?_
          have := c7.1
          show 1 + _ ≤ _
          omega
        · refine name_of ?_ ?_ fun c' hc' => ?_
          · rw [Str.length_append]
            show 1 ≤ 1 + _
            omega
          · rw [Str.length_append]
            have := c7.1
            show 1 + _ ≤ 8
            omega
          · rw [app_list] at hc'
            rcases List.mem_append.mp hc' with z | z
            · obtain rfl := List.mem_singleton.mp z
              exact hcm
            · exact c7.2 c' z
      refine gt_name <| rn_if <| tt_or <| tt_test <| ev_op <| ev_var (d := .str nm) rfl <| ev_var (d := .ref u) rfl <| od_inM (List.mem_cons_of_mem _ List.mem_cons_self) hn hun fun bb => ⟨bb, rfl, ifB (fun _ => ?_) fun _ => ?_⟩
      · exact change _ fun nm' h => ⟨nm', h, rfl, _, rfl⟩
      · refine tt_or <| tt_test <| ev_op <| ev_var (d := .str nm) rfl <| ev_str <| od_eqS ⟨_, rfl, ifD (fun _ => ?_) fun _ => ?_⟩
        · exact change _ fun nm' h => ⟨nm', h, rfl, _, rfl⟩
        · refine tt_test <| ev_op <| ev_var (d := .str nm) rfl <| ev_str <| od_eqS ⟨_, rfl, ifD (fun _ => ?_) fun _ => ?_⟩
          · exact change _ fun nm' h => ⟨nm', h, rfl, _, rfl⟩
          · exact rn_next same
    · rintro Γ' M' ⟨nm, hn, rfl, x, rfl⟩
      refine rn_seq <| rn_drop <| ev_append (n := 1) (ds := used.map Dt.str) <| ev_var (d := .ref u) rfl ⟨rfl, rfl, ar_cons <| ev_var (d := .str nm) rfl <| ar_nil ⟨_, _, rfl, rfl, ?_, rn_ret <| ev_var (d := .str nm) rfl ?_⟩⟩
      · rw [List.length_map]
        exact Nat.lt_of_lt_of_le (show used.length < 16777216 by omega) (sl_le (Nat.le_refl _))
      · have := q nm rs' hn
        rw [List.map_append] at this
        exact this
end
end Lw
end

section
set_option Elab.async false
set_option linter.all false
set_option maxRecDepth 100000
set_option maxHeartbeats 4000000
namespace Lw
open PySem PySem.Spec PyProof.Rows L2 Evl
section
variable {K : PySem.W.Frag} {w : World} {E : XK} {X : Addr → List (Str × Dt) → Mem → Prop} {Q : Dt → Mem → Prop}
theorem lt_line {n : Nat} (h : n < 16777216) : n < sizeLine := Nat.lt_of_lt_of_le h (sl_le (Nat.le_refl _))
theorem rd_tape {ds : List Dt} {M : Mem} (h : S__law_tape K ds M Q X) : RnD ⟨K, E, X⟩ (t__law_tape K w E) (startG ["script", "rows", "seed", "k", "cell", "turn", "first"] ds) M (retE Q) := by
  obtain ⟨rfl, ns, rfl, hl, q⟩ := h
  unfold t__law_tape
  refine rn_seq <| rn_asg <| ev_lstM <| ar_nil ⟨sl_le (by simp), fun p => gt_name ?_⟩
  refine rn_seq <| rn_asg <| ev_op <| ev_op <| ev_cb <| ar_cons <| ev_var (d := .sq (ns.map Dt.int)) rfl <| ar_nil <| cd_lenQ <| ev_int <| od_mul (.inr (by decide)) <| ev_int <| od_addI <| gt_name ?_
  refine rn_seq <| rn_for <| it_rng1 <| ar_cons <| ev_int <| ar_nil ⟨63, rfl, by decide, by decide, fun i Γ' M' => ∃ (s : Int), M' = [(p, .lst [])] ∧ ∃ x, Γ' = [some (.sq (ns.map Dt.int)), some (.ref p), some (.int s), x, none, none, none], ⟨_, rfl, none, rfl⟩, ?_, ?_⟩
  · rintro i d Γ' M' hd ⟨s, rfl, x, rfl⟩
    obtain ⟨hi, rfl⟩ := range_at hd
    refine gt_name <| rn_if <| tt_test <| ev_op <| ev_var (d := .int i) rfl <| ev_cb <| ar_cons <| ev_var (d := .sq (ns.map Dt.int)) rfl <| ar_nil <| cd_lenQ <| od_lt ⟨_, rfl, ifD (fun h => ?_) fun _ => rn_next ⟨s, rfl, _, rfl⟩⟩
    rw [List.length_map] at h
    obtain ⟨z, hz, _⟩ := pick (l := ns) (k := (i : Int)) (by omega) h
    exact rn_asg <| ev_op <| ev_cb <| ar_cons <| ev_op <| ev_op <| ev_var (d := .int s) rfl <| ev_int <| od_mul (.inr (by decide)) <| ev_op <| ev_var (d := .sq (ns.map Dt.int)) rfl <| ev_var (d := .int i) rfl <| od_ixQ (atI_map (by omega) hz) <| od_addI <| ar_nil <| cd_intI <| ev_int <| od_mod (by decide) <| gt_name ⟨_, rfl, _, rfl⟩
  · rintro Γ' M' ⟨s, rfl, x, rfl⟩
    refine rn_seq <| rn_for <| it_rng1 <| ar_cons <| ev_int <| ar_nil ⟨420, rfl, by decide, by decide, fun i Γ' M' => ∃ (s : Int) (rs : List Int), rs.length = i ∧ M' = [(p, rowsM rs)] ∧ ∃ x, Γ' = [some (.sq (ns.map Dt.int)), some (.ref p), some (.int s), x, none, none, none], ⟨s, [], rfl, rfl, x, rfl⟩, ?_, ?_⟩
    · rintro i d Γ' M' hd ⟨s, rs, hrs, rfl, x, rfl⟩
      obtain ⟨hi, rfl⟩ := range_at hd
      have hi2 : i < 420 := hi
      refine gt_name <| rn_seq <| rn_asg <| ev_op <| ev_cb <| ar_cons <| ev_op <| ev_op <| ev_op <| ev_var (d := .int s) rfl <| ev_int <| od_mul (.inr (by decide)) <| ev_op <| ev_int <| ev_var (d := .int i) rfl <| od_mul (.inl (by decide)) <| od_addI <| ev_int <| od_addI <| ar_nil <| cd_intI <| ev_int <| od_mod (by decide) <| gt_name ?_
      refine rn_drop <| ev_append (n := 0) (ds := rs.map Dt.int) <| ev_var (d := .ref p) rfl ⟨rfl, rfl, ar_cons <| ev_op <| ev_var rfl <| ev_int <| od_div ⟨by decide, by decide⟩ <| ar_nil ⟨_, _, rfl, rfl, by rw [List.length_map]; exact lt_line (by omega), ⟨_, rs ++ [_], by rw [List.length_append, hrs]; rfl, by unfold rowsM; rw [List.map_append]; rfl, _, rfl⟩⟩⟩
    · rintro Γ' M' ⟨s, rs, hrs, rfl, x, rfl⟩
      have hrs0 : rs.length = 420 := hrs
      refine rn_seq <| rn_for <| it_rng1 <| ar_cons <| ev_int <| ar_nil ⟨63, rfl, by decide, by decide, fun i Γ' M' => ∃ (rs : List Int), rs.length ≤ 420 + 24 * i ∧ M' = [(p, rowsM rs)] ∧ ∃ x y z u, Γ' = [some (.sq (ns.map Dt.int)), some (.ref p), some (.int s), x, y, z, u], ⟨rs, by omega, rfl, x, none, none, none, rfl⟩, ?_, ?_⟩
      · rintro i d Γ' M' hd ⟨rs, hrs, rfl, x, y, z, u, rfl⟩
        obtain ⟨hi, rfl⟩ := range_at hd
        have hi2 : i < 63 := hi
        refine gt_name <| rn_if <| tt_test <| ev_op <| ev_var (d := .int i) rfl <| ev_cb <| ar_cons <| ev_var (d := .sq (ns.map Dt.int)) rfl <| ar_nil <| cd_lenQ <| od_lt ⟨_, rfl, ifD (fun h => ?_) fun _ => rn_next ⟨rs, by omega, rfl, _, _, _, _, rfl⟩⟩
        rw [List.length_map] at h
        obtain ⟨c, hc, _⟩ := pick (l := ns) (k := (i : Int)) (by omega) h
        refine rn_seq <| rn_asg <| ev_op <| ev_var (d := .sq (ns.map Dt.int)) rfl <| ev_var (d := .int i) rfl <| od_ixQ (atI_map (by omega) hc) <| gt_name ?_
        refine rn_if <| tt_test <| ev_op <| ev_var (d := .int c) rfl <| ev_op <| ev_int <| ev_int <| od_pow ⟨by decide, by decide, by decide⟩ <| od_ge ⟨_, rfl, ifD (fun _ => ?_) fun _ => ?_⟩
        · refine rn_for <| it_rng1 <| ar_cons <| ev_int <| ar_nil ⟨24, rfl, by decide, by decide, fun j Γ' M' => ∃ (rs' : List Int) (c : Int), rs'.length ≤ rs.length + j ∧ M' = [(p, rowsM rs')] ∧ ∃ z, Γ' = [some (.sq (ns.map Dt.int)), some (.ref p), some (.int s), some (.int i), some (.int c), z, u], ⟨rs, c, by omega, rfl, _, rfl⟩, ?_, ?_⟩
          · rintro j d Γ' M' hd ⟨rs', c, hrs', rfl, z, rfl⟩
            obtain ⟨hj, rfl⟩ := range_at hd
            have hj2 : j < 24 := hj
            refine gt_name <| rn_if <| tt_test <| ev_op <| ev_var (d := .int c) rfl <| ev_int <| od_gt ⟨_, rfl, ifD (fun _ => ?_) fun _ => rn_next ⟨rs', c, by omega, rfl, _, rfl⟩⟩
            refine rn_seq <| rn_drop <| ev_append (n := 0) (ds := rs'.map Dt.int) <| ev_var (d := .ref p) rfl ⟨rfl, rfl, ar_cons <| ev_op <| ev_cb <| ar_cons <| ev_var (d := .int c) rfl <| ar_nil <| cd_intI <| ev_int <| od_mod (by decide) <| ar_nil ⟨_, _, rfl, rfl, by rw [List.length_map]; exact lt_line (by omega), ?_⟩⟩
            exact rn_asg <| ev_op <| ev_var (d := .int c) rfl <| ev_int <| od_div ⟨by decide, by decide⟩ <| gt_name ⟨rs' ++ [_], _, by rw [List.length_append]; show _ + 1 ≤ _; omega, by unfold rowsM; rw [List.map_append]; rfl, _, rfl⟩
          · rintro Γ' M' ⟨rs', c, hrs', rfl, z, rfl⟩
            have : rs'.length ≤ rs.length + 24 := hrs'
            exact ⟨rs', by omega, rfl, _, _, _, _, rfl⟩
        · refine rn_seq <| rn_asg <| ev_op <| ev_cb <| ar_cons <| ev_op <| ev_op <| ev_op <| ev_var (d := .int c) rfl <| ev_int <| od_mul (.inr (by decide)) <| ev_op <| ev_var (d := .int i) rfl <| ev_int <| od_mul (.inr (by decide)) <| od_addI <| ev_int <| od_addI <| ar_nil <| cd_intI <| ev_int <| od_mod (by decide) <| gt_name ?_
          refine rn_seq <| rn_drop <| ev_append (n := 0) (ds := rs.map Dt.int) <| ev_var (d := .ref p) rfl ⟨rfl, rfl, ar_cons <| ev_op <| ev_op <| ev_cb <| ar_cons <| ev_op <| ev_op <| ev_var rfl <| ev_int <| od_mul (.inr (by decide)) <| ev_var (d := .int i) rfl <| od_addI <| ar_nil <| cd_intI <| ev_int <| od_mod (by decide) <| ev_int <| od_div ⟨by decide, by decide⟩ <| ar_nil ⟨_, _, rfl, rfl, by rw [List.length_map]; exact lt_line (by omega), ?_⟩⟩
          refine rn_drop <| ev_append (n := 0) (ds := _) <| ev_var (d := .ref p) rfl ⟨rfl, rfl, ar_cons <| ev_op <| ev_op <| ev_cb <| ar_cons <| ev_op <| ev_op <| ev_var rfl <| ev_int <| od_mul (.inr (by decide)) <| ev_int <| od_addI <| ar_nil <| cd_intI <| ev_int <| od_mod (by decide) <| ev_int <| od_div ⟨by decide, by decide⟩ <| ar_nil ⟨_, _, rfl, rfl, ?_, ⟨rs ++ [((c * 48271 + (i : Int) * 69621 + 11) % 2147483647 * 16807 + (i : Int)) % 2147483629 / 7] ++ [((c * 48271 + (i : Int) * 69621 + 11) % 2147483647 * 39373 + 5) % 2147483587 / 11], ?_, ?_, _, _, _, _, rfl⟩⟩⟩
          · rw [List.length_append, List.length_map]
            exact lt_line (by show rs.length + 1 < _; omega)
          · rw [List.length_append, List.length_append]
            show rs.length + 1 + 1 ≤ _
            omega
          · unfold rowsM
            rw [List.map_append, List.map_append]
            rfl
      · rintro Γ' M' ⟨rs, hrs, rfl, x, y, z, u, rfl⟩
        exact rn_ret <| ev_var (d := .ref p) rfl <| q p rs
end
end Lw
end

section
set_option Elab.async false
set_option linter.all false
set_option maxRecDepth 100000
set_option maxHeartbeats 4000000
namespace Lw
open PySem PySem.Spec PyProof.Rows L2 Evl
section
variable {K : PySem.W.Frag} {w : World} {E : XK} {X : Addr → List (Str × Dt) → Mem → Prop} {Q : Dt → Mem → Prop}
def ok10 (ns : List Int) : Prop := (∀ n ∈ ns, numOk n) ∧ ns.length ≤ 10
theorem ok10.ok {ns : List Int} (h : ok10 ns) : numsOk ns := ⟨h.1, by have := h.2; omega⟩
theorem tup_add {Z : Cq} {M : Mem} {Q : Dt → Mem → Prop} {a b : List Int} (ha : ok10 a) (hb : ok10 b) (q : Q (tupI (a ++ b)) M) : OpD Z (rAddA Z.K) (tupI a) (tupI b) M Q := by
  refine od_addT ?_ ?_
  · rw [List.length_map, List.length_map]
    exact sl_le (by have := ha.2; have := hb.2; omega)
  · rw [← List.map_append]
    exact q
/-- a draw below the length of a list -/
theorem ev_drawL {Z : Cq} {Γ : Gam} {Mr : Mem} {Q : Dt → Mem → Prop} {p : Addr} {rs : List Int} {ta : TE} {n : Nat} (hv : Γ[0]? = some (some (.ref p))) (hn : 0 < n) (hl : EvD Z ta Γ ((p, rowsM rs) :: Mr) fun d M1 => d = .int (n : Nat) ∧ M1 = (p, rowsM rs) :: Mr)
    (h : ∀ (k : Int) rs', 0 ≤ k → k < (n : Int) → Q (.int k) ((p, rowsM rs') :: Mr)) : EvD Z (tCall (toSp Z.K (S__law_draw Z.K)) [] E0 (tCons (tVar 0) (tCons ta tNil))) Γ ((p, rowsM rs) :: Mr) Q :=
  ev_draw <| ar_cons <| ev_var hv <| ar_cons <| ev_mono hl fun d M1 ⟨e, em⟩ => by
    subst e em
    exact ar_nil ⟨p, _, rs, Mr, rfl, by omega, .refl _, h⟩
theorem rd_machine {ds : List Dt} {M : Mem} (h : S__law_machine K ds M Q X) : RnD ⟨K, E, X⟩ (t__law_machine K w E) (startG ["rows", "width", "frames", "controls", "odd", "states", "ties", "k", "source", "frame", "control"] ds) M (retE Q) := by
  obtain ⟨p, rs, rfl, rfl, q⟩ := h
  unfold t__law_machine
  refine rn_seq <| rn_asg <| ev_drawC rfl (by decide) fun width rs1 w0 w1 => gt_name ?_
  -- frames
  refine rn_seq <| rn_asg <| ev_lcM (vs := [7]) (gfix_name (i := 7) (vs := [7]) (by decide)) <| it_rng1 <| ar_cons <| ev_op <| ev_int <| ev_drawC rfl (by decide) fun r rs2 r0 r1 => od_addI <| ar_nil ⟨1 + r, rfl, by omega, by omega, by rw [List.length_map, List.length_range]; exact sl_le (by omega), fun i acc M' => ∃ (fs : List (List Int)) (rs' : List Int), (∀ f ∈ fs, ok10 f) ∧ acc = fs.map tupI ∧ fs.length = i ∧ M' = [(p, rowsM rs')], ⟨[], rs2, (fun f hf => by cases hf), rfl, rfl, rfl⟩, ?_, ?_⟩
  · rintro i d acc M' hd ⟨fs, rs', hfs, rfl, hl, rfl⟩
    obtain ⟨hi, rfl⟩ := range_at hd
    refine gt_name <| tt_yes <| ifT <| ev_integers rfl <| ev_int ⟨4, rs', rfl, by decide, by decide, rfl, fun ns rs3 hn hnl => ⟨fs ++ [ns], rs3, fun f hf => ?_, by rw [List.map_append]; rfl, by rw [List.length_append, hl]; rfl, rfl⟩⟩
    rcases List.mem_append.mp hf with hf | hf
    · exact hfs f hf
    · obtain rfl := List.mem_singleton.mp hf
      exact ⟨hn.1, by omega⟩
  rintro acc M' D ⟨fs, rs3, hfs, rfl, hfl, rfl⟩
  rw [List.length_map, List.length_range] at hfl
  have hfl2 : 1 ≤ fs.length ∧ fs.length ≤ 3 := by omega
  refine gt_name ?_
  -- controls
  refine rn_seq <| rn_asg <| ev_lc (vs := [7]) (gfix_name (i := 7) (vs := [7]) (by decide)) <| it_rng1 <| ar_cons <| ev_op <| ev_int <| ev_drawC (Mr := [(D, .lst (fs.map tupI))]) rfl (by decide) fun r rs4 r0 r1 => od_addI <| ar_nil ⟨1 + r, rfl, by omega, by omega, by rw [List.length_map, List.length_range]; exact sl_le (by omega), fun i acc M' => ∃ (cs : List (List Int)) (rs' : List Int), (∀ f ∈ cs, ok10 f) ∧ acc = cs.map tupI ∧ cs.length = i ∧ M' = [(p, rowsM rs'), (D, .lst (fs.map tupI))], ⟨[], rs4, (fun f hf => by cases hf), rfl, rfl, rfl⟩, ?_, ?_⟩
  · rintro i d acc M' hd ⟨cs, rs', hcs, rfl, hl, rfl⟩
    obtain ⟨hi, rfl⟩ := range_at hd
    refine gt_name <| tt_yes <| ifT <| ev_integers rfl <| ev_var (d := .int width) rfl ⟨width, rs', rfl, w0, by omega, rfl, fun ns rs3 hn hnl => ⟨cs ++ [ns], rs3, fun f hf => ?_, by rw [List.map_append]; rfl, by rw [List.length_append, hl]; rfl, rfl⟩⟩
    rcases List.mem_append.mp hf with hf | hf
    · exact hcs f hf
    · obtain rfl := List.mem_singleton.mp hf
      exact ⟨hn.1, by omega⟩
  rintro acc M' ⟨cs, rs5, hcs, rfl, hcl, rfl⟩
  rw [List.length_map, List.length_range] at hcl
  have hcl2 : cs.length ≤ 3 := by omega
  refine gt_name ?_
  refine rn_seq <| rn_asg <| ev_integers rfl <| ev_drawC rfl (by decide) fun oc rs6 o0 o1 => ⟨oc, rs6, rfl, o0, by omega, rfl, fun odd rs7 ho hol => gt_name ?_⟩
  have odd10 : ok10 odd := ⟨ho.1, by omega⟩
  -- states
  obtain ⟨f0, hf0, hf0m⟩ := pick (l := fs) (k := 0) (by decide) (by omega)
  have hsum : ([Dt.tup [], tupI odd] ++ cs.map tupI ++ cs.map fun c => tupI (c ++ f0)) = ([[], odd] ++ cs ++ cs.map fun c => c ++ f0).map tupI := by
    rw [List.map_append, List.map_append, List.map_map]
    rfl
  refine rn_seq <| rn_asg <| ev_op <| ev_op <| ev_lst <| ar_cons <| ev_tup <| ar_nil ⟨sl_le (by simp), ar_cons <| ev_var (d := tupI odd) rfl <| ar_nil ⟨sl_le (by simp), ev_var (d := .lst (cs.map tupI)) rfl <| od_addL ?_ ?_⟩⟩
  · rw [List.length_map]
    exact sl_le (by show 2 + _ ≤ _; omega)
  refine ev_lc (vs := [10]) (gfix_name (i := 10) (vs := [10]) (by decide)) <| it_any <| ev_var (d := .lst (cs.map tupI)) rfl ⟨_, rfl, by rw [List.length_map]; exact sl_le (by omega), fun i acc M' => acc = (cs.take i).map (fun c => tupI (c ++ f0)) ∧ M' = [(p, rowsM rs7), (D, .lst (fs.map tupI))], ⟨rfl, rfl⟩, ?_, ?_⟩
  · rintro i d acc M' hd ⟨rfl, rfl⟩
    rw [List.getElem?_map] at hd
    obtain ⟨c, hi, rfl⟩ := Option.map_eq_some_iff.mp hd
    refine gt_name <| tt_yes <| ifT <| ev_op <| ev_var (d := tupI c) rfl <| ev_op <| ev_var (d := .ref D) rfl <| ev_int <| od_ixM (n := 1) (ds := fs.map tupI) rfl (atI_map (by decide) hf0) <| tup_add (hcs c (List.mem_of_getElem? hi)) (hfs f0 hf0m) ⟨?_, rfl⟩
    rw [take_at hi, List.map_append]
    rfl
  rintro acc M' ⟨rfl, rfl⟩
  rw [List.length_map, List.take_length]
  refine od_addL ?_ ?_
  · rw [List.length_append, List.length_map, List.length_map]
    exact sl_le (by show 2 + _ + _ ≤ _; omega)
  rw [hsum]
  have hst : statesOk ([[], odd] ++ cs ++ cs.map fun c => c ++ f0) := by
    refine ⟨by simp, by simp; omega, fun s hs => ?_⟩
    rcases List.mem_append.mp hs with hs | hs
    · rcases List.mem_append.mp hs with hs | hs
      · rcases List.mem_cons.mp hs with rfl | hs
        · exact ⟨(fun n hn => by cases hn), by simp⟩
        · obtain rfl := List.mem_singleton.mp hs
          exact ho
      · exact (hcs s hs).ok
    · obtain ⟨c, hc, rfl⟩ := List.mem_map.mp hs
      have h1 := hcs c hc
      have h2 := hfs f0 hf0m
      refine ⟨fun n hn => ?_, by rw [List.length_append]; have := h1.2; have := h2.2; omega⟩
      rcases List.mem_append.mp hn with hn | hn
      · exact h1.1 n hn
      · exact h2.1 n hn
  generalize ([[], odd] ++ cs ++ cs.map fun c => c ++ f0) = states at hst
  have hsp : 0 < states.length := List.length_pos_iff.mpr hst.1
  refine gt_name <| rn_seq <| rn_drop <| ev_append (n := 1) (ds := fs.map tupI) <| ev_var (d := .ref D) rfl ⟨rfl, rfl, ar_cons <| ev_var (d := tupI odd) rfl <| ar_nil ⟨_, _, rfl, rfl, by rw [List.length_map]; exact lt_line (by omega), ?_⟩⟩
  have hff : ∀ f ∈ fs ++ [odd], numsOk f := fun f hf => by
    rcases List.mem_append.mp hf with hf | hf
    · exact (hfs f hf).ok
    · obtain rfl := List.mem_singleton.mp hf
      exact ho
  rw [show ([(p, rowsM rs7), (D, MO.lst (fs.map tupI))].set 1 (D, MO.lst (fs.map tupI ++ [tupI odd]))) = [(p, rowsM rs7), (D, MO.lst ((fs ++ [odd]).map tupI))] by rw [List.map_append]; rfl]
  have hfp : 0 < (fs ++ [odd]).length := by simp
  generalize fs ++ [odd] = frames at hff hfp
  refine rn_seq <| rn_asg <| ev_lstM <| ar_nil ⟨sl_le (by simp), fun T => gt_name ?_⟩
  -- the loop
  refine rn_seq <| rn_for <| it_rng1 <| ar_cons <| ev_drawC (Mr := [(D, .lst (frames.map tupI)), (T, .lst [])]) rfl (by decide) fun r rs8 r0 r1 => ar_nil ⟨r, rfl, by omega, by omega, fun i Γ' M' => ∃ (ts : List Trip) (rs' : List Int), (∀ t ∈ ts, numsOk t.1 ∧ numsOk t.2.1 ∧ numsOk t.2.2) ∧ ts.length = i ∧ M' = [(p, rowsM rs'), (D, .lst (frames.map tupI)), (T, .lst (ts.map tieD))] ∧ ∃ a b c, Γ' = [some (.ref p), some (.int width), some (.ref D), some (.lst (cs.map tupI)), some (tupI odd), some (.lst (states.map tupI)), some (.ref T), a, b, c, none], ⟨[], rs8, (fun t ht => by cases ht), rfl, rfl, none, none, none, rfl⟩, ?_, ?_⟩
  · rintro i d Γ' M' hd ⟨ts, rs', hts, hl, rfl, a, b, c, rfl⟩
    obtain ⟨hi, rfl⟩ := range_at hd
    refine gt_name ?_
    refine rn_seq <| rn_asg <| ev_op <| ev_var (d := .lst (states.map tupI)) rfl <| ev_drawL (n := states.length) rfl hsp (ev_cb <| ar_cons <| ev_var (d := .lst (states.map tupI)) rfl <| ar_nil <| cd_lenL ⟨by rw [List.length_map], rfl⟩) fun k rs2 k0 k1 => ?_
    obtain ⟨s, hs, hsm⟩ := pick k0 k1
    refine od_ixL (atI_map k0 hs) <| gt_name ?_
    refine rn_seq <| rn_asg <| ev_op <| ev_var (d := .ref D) rfl <| ev_drawL (n := frames.length) (Mr := [(D, .lst (frames.map tupI)), (T, .lst (ts.map tieD))]) rfl hfp (ev_cb <| ar_cons <| ev_var (d := .ref D) rfl <| ar_nil <| cd_lenM (n := 1) (ds := frames.map tupI) rfl ⟨by rw [List.length_map], rfl⟩) fun k2 rs4 k20 k21 => ?_
    obtain ⟨f, hf, hfm⟩ := pick k20 k21
    refine od_ixM (n := 1) (ds := frames.map tupI) rfl (atI_map k20 hf) <| gt_name ?_
    refine rn_drop <| ev_append (n := 2) (ds := ts.map tieD) <| ev_var (d := .ref T) rfl ⟨rfl, rfl, ar_cons <| ev_tup <| ar_cons <| ev_var (d := tupI s) rfl <| ar_cons <| ev_var (d := tupI f) rfl <| ar_cons <| ev_op <| ev_var (d := .lst (states.map tupI)) rfl <| ev_drawL (n := states.length) (Mr := [(D, .lst (frames.map tupI)), (T, .lst (ts.map tieD))]) rfl hsp (ev_cb <| ar_cons <| ev_var (d := .lst (states.map tupI)) rfl <| ar_nil <| cd_lenL ⟨by rw [List.length_map], rfl⟩) fun k3 rs6 k30 k31 => ?_⟩
    obtain ⟨t, ht, htm⟩ := pick k30 k31
    refine od_ixL (atI_map k30 ht) <| ar_nil ⟨three_le, ar_nil ⟨_, _, rfl, rfl, by rw [List.length_map]; exact lt_line (by omega), ts ++ [(s, f, t)], rs6, fun x hx => ?_, by rw [List.length_append, hl]; rfl, by rw [List.map_append]; rfl, _, _, _, rfl⟩⟩
    rcases List.mem_append.mp hx with hx | hx
    · exact hts x hx
    · obtain rfl := List.mem_singleton.mp hx
      exact ⟨hst.2.2 s hsm, hff f hfm, hst.2.2 t htm⟩
  rintro Γ' M' ⟨ts, rs9, hts, hl, rfl, a, b, c, rfl⟩
  rw [List.length_map, List.length_range] at hl
  have fin : ∀ (ts : List Trip) (rs : List Int), (∀ t ∈ ts, numsOk t.1 ∧ numsOk t.2.1 ∧ numsOk t.2.2) → ts.length ≤ 21 → RnD ⟨K, E, X⟩ (tSeq (tIfS (tTest (tOp (rEqA K) (tCall (toSp K (S__law_draw K)) [] E0 (tCons (tVar 0) (tCons (tC (.int 4)) (tNil)))) (tC (.int 0)))) (tAsg (tCall (toSp K (S__law_number K)) [] E0 (tCons (tVar 0) (tNil))) (gName 1)) (tNext))
    (tRet (tLst (tCons (tVar 1) (tCons (tVar 6) (tCons (tVar 5) (tNil))))))) [some (.ref p), some (.int width), some (.ref D), some (.lst (cs.map tupI)), some (tupI odd), some (.lst (states.map tupI)), some (.ref T), a, b, c, none] [(p, rowsM rs), (D, .lst (frames.map tupI)), (T, .lst (ts.map tieD))] (retE Q) := fun ts rs hts htl => by
    have last : ∀ (wd : Int) (rs : List Int), cntOk wd → RnD ⟨K, E, X⟩ (tRet (tLst (tCons (tVar 1) (tCons (tVar 6) (tCons (tVar 5) (tNil)))))) [some (.ref p), some (.int wd), some (.ref D), some (.lst (cs.map tupI)), some (tupI odd), some (.lst (states.map tupI)), some (.ref T), a, b, c, none] [(p, rowsM rs), (D, .lst (frames.map tupI)), (T, .lst (ts.map tieD))] (retE Q) := fun wd rs hw => by
      refine rn_forget (a := D) (mo := .lst (frames.map tupI)) (Mr := [(p, rowsM rs), (T, .lst (ts.map tieD))]) (List.Perm.swap _ _ _) ?_
      refine rn_know (i := 6) (a := T) (d := .lst (ts.map tieD)) (Mr := [(p, rowsM rs)]) rfl (List.Perm.swap _ _ _) (.lst _) ?_
      exact rn_ret <| ev_lst <| ar_cons <| ev_var (d := .int wd) rfl <| ar_cons <| ev_var (d := .lst (ts.map tieD)) rfl <| ar_cons <| ev_var (d := .lst (states.map tupI)) rfl <| ar_nil ⟨three_le, q wd ts states rs hw ⟨hts, by omega⟩ htl hst⟩
    refine rn_seq <| rn_if <| tt_test <| ev_op <| ev_drawC (Mr := [(D, .lst (frames.map tupI)), (T, .lst (ts.map tieD))]) rfl (by decide) fun r rs2 r0 r1 => ev_int <| od_eqI ⟨_, rfl, ifD (fun _ => ?_) fun _ => ?_⟩
    · exact rn_asg <| ev_number (Mr := [(D, .lst (frames.map tupI)), (T, .lst (ts.map tieD))]) rfl fun n rs3 hn => gt_name <| last n rs3 hn
    · exact rn_next <| last width rs2 ⟨w0, by omega⟩
  refine rn_seq <| rn_if <| tt_test <| ev_op <| ev_cb <| ar_cons <| ev_var (d := .ref T) rfl <| ar_nil <| cd_lenM (n := 2) (ds := ts.map tieD) rfl <| ev_int <| od_gt ⟨_, rfl, ifD (fun h => ?_) fun _ => rn_next <| fin ts rs9 hts (by omega)⟩
  rw [List.length_map] at h
  refine rn_drop <| ev_append (n := 2) (ds := ts.map tieD) <| ev_var (d := .ref T) rfl ⟨rfl, rfl, ar_cons <| ev_op <| ev_var (d := .ref T) rfl <| ev_drawL (n := ts.length) (Mr := [(D, .lst (frames.map tupI)), (T, .lst (ts.map tieD))]) rfl (by omega) (ev_cb <| ar_cons <| ev_var (d := .ref T) rfl <| ar_nil <| cd_lenM (n := 2) (ds := ts.map tieD) rfl ⟨by rw [List.length_map], rfl⟩) fun k rs10 k0 k1 => ?_⟩
  obtain ⟨t, ht, htm⟩ := pick k0 k1
  refine od_ixM (n := 2) (ds := ts.map tieD) rfl (atI_map k0 ht) <| ar_nil ⟨_, _, rfl, rfl, by rw [List.length_map]; exact lt_line (by omega), ?_⟩
  have := fin (ts ++ [t]) rs10 (fun x hx => by
    rcases List.mem_append.mp hx with hx | hx
    · exact hts x hx
    · obtain rfl := List.mem_singleton.mp hx
      exact hts x htm) (by rw [List.length_append]; show _ + 1 ≤ _; omega)
  rw [List.map_append] at this
  exact this
end
end Lw
end

section
set_option Elab.async false
set_option linter.all false
set_option maxRecDepth 100000
set_option maxHeartbeats 4000000
namespace Lw
open PySem PySem.Spec PyProof.Rows L2 Evl

/-! ### the order of ties -/
theorem eqv_ints : ∀ a b : List Int, PyData.eqvAll (a.map PyData.int) (b.map PyData.int) = decide (a = b)
  | [], [] => by simp [PyData.eqvAll]
  | [], y :: b => by simp [PyData.eqvAll]
  | x :: a, [] => by simp [PyData.eqvAll]
  | x :: a, y :: b => by
    rw [List.map_cons, List.map_cons, PyData.eqvAll, eqv_ints a b, PyData.eqv]
    by_cases h1 : x = y
    · by_cases h2 : a = b <;> simp [h1, h2]
    · simp [h1]
theorem eqv_tup (a b : List Int) : PyData.eqv (intsP a) (intsP b) = decide (a = b) := by
  unfold intsP
  rw [PyData.eqv]
  exact eqv_ints a b
theorem eqv_tie (a b : Trip) : PyData.eqv (tieD a).py (tieD b).py = decide (a = b) := by
  rw [py_tie, py_tie, PyData.eqv, PyData.eqvAll, PyData.eqvAll, PyData.eqvAll, PyData.eqvAll, eqv_tup, eqv_tup, eqv_tup]
  obtain ⟨a1, a2, a3⟩ := a
  obtain ⟨b1, b2, b3⟩ := b
  by_cases h1 : a1 = b1 <;> by_cases h2 : a2 = b2 <;> by_cases h3 : a3 = b3 <;> simp [h1, h2, h3]
theorem eqv_pair (a b : List Int × List Int) : PyData.eqv (pairD a).py (pairD b).py = decide (a = b) := by
  rw [py_pair, py_pair, PyData.eqv, PyData.eqvAll, PyData.eqvAll, PyData.eqvAll, eqv_tup, eqv_tup]
  obtain ⟨a1, a2⟩ := a
  obtain ⟨b1, b2⟩ := b
  by_cases h1 : a1 = b1 <;> by_cases h2 : a2 = b2 <;> simp [h1, h2]
/-- the same signs: the same data -/
theorem toks_eq {x y : PyData} (h : PySem.W.alike x y = true) (e : PySem.W.keyToks x = PySem.W.keyToks y) : PyData.eqv x y = true := by
  cases q : PyData.eqv x y with
  | true => rfl
  | false =>
    have h2 := (PySem.W.toks_eqv x y h).2 q [] [.inl 0]
    rw [e] at h2
    have h3 := PySem.W.lex_pre (PySem.W.keyToks y) [] [.inl 0]
    rw [h3] at h2
    have h4 := PySem.W.lex_pre (PySem.W.keyToks y) [] []
    rw [List.append_nil] at h4
    rw [h4] at h2
    cases h2
def leT (a b : Trip) : Bool := PySem.W.dataLe false Dt.py (tieD a) (tieD b)
def leP (a b : List Int × List Int) : Bool := PySem.W.dataLe false Dt.py (pairD a) (pairD b)
theorem leT_iff (a b : Trip) : leT a b = !PySem.W.dataLt (tieD b).py (tieD a).py := rfl
theorem leP_iff (a b : List Int × List Int) : leP a b = !PySem.W.dataLt (pairD b).py (pairD a).py := rfl
theorem lt_total {x y : PyData} (h : PySem.W.alike x y = true) (h1 : PySem.W.dataLt x y = false) (h2 : PySem.W.dataLt y x = false) : PyData.eqv x y = true :=
  toks_eq h (PyProof.Rows.lex_total _ _ h1 h2)
theorem leT_anti {a b : Trip} (h1 : leT a b = true) (h2 : leT b a = true) : a = b := by
  rw [leT_iff, Bool.not_eq_true'] at h1 h2
  have := lt_total (alike_tie a b) h2 h1
  rw [eqv_tie] at this
  exact of_decide_eq_true this
theorem leP_anti {a b : List Int × List Int} (h1 : leP a b = true) (h2 : leP b a = true) : a = b := by
  rw [leP_iff, Bool.not_eq_true'] at h1 h2
  have := lt_total (alike_pair a b) h2 h1
  rw [eqv_pair] at this
  exact of_decide_eq_true this
theorem totT : PySem.W.TotalLe leT := ⟨fun a b c => (PySem.W.sortLe_total (listOrd itemOrd) false (fun d : Dt => PySem.W.keyToks d.py)).trans (tieD a) (tieD b) (tieD c), fun a b => (PySem.W.sortLe_total (listOrd itemOrd) false (fun d : Dt => PySem.W.keyToks d.py)).total (tieD a) (tieD b)⟩
theorem totP : PySem.W.TotalLe leP := ⟨fun a b c => (PySem.W.sortLe_total (listOrd itemOrd) false (fun d : Dt => PySem.W.keyToks d.py)).trans (pairD a) (pairD b) (pairD c), fun a b => (PySem.W.sortLe_total (listOrd itemOrd) false (fun d : Dt => PySem.W.keyToks d.py)).total (pairD a) (pairD b)⟩
theorem sortD_ties (l : List Trip) : sortD (l.map tieD) = (l.mergeSort leT).map tieD := (List.map_mergeSort (f := tieD) (r := leT) (s := PySem.W.dataLe false Dt.py) fun _ _ _ _ => rfl).symm
theorem sortD_pairs (l : List (List Int × List Int)) : sortD (l.map pairD) = (l.mergeSort leP).map pairD := (List.map_mergeSort (f := pairD) (r := leP) (s := PySem.W.dataLe false Dt.py) fun _ _ _ _ => rfl).symm
/-- the heads of ties in order are in order -/
theorem le_head {a b : Trip} (h : leT a b = true) : leP (a.1, a.2.1) (b.1, b.2.1) = true := by
  obtain ⟨a1, a2, a3⟩ := a
  obtain ⟨b1, b2, b3⟩ := b
  rw [leT_iff, Bool.not_eq_true'] at h
  rw [leP_iff, Bool.not_eq_true']
  cases q : PySem.W.dataLt (pairD (b1, b2)).py (pairD (a1, a2)).py with
  | false => rfl
  | true =>
    rw [py_tie, py_tie] at h
    rw [py_pair, py_pair] at q
    unfold PySem.W.dataLt at h q
    rw [PySem.W.keyToks, PySem.W.keyToks] at h q
    have al : ∀ x y : List Int, PySem.W.alike (intsP x) (intsP y) = true := fun x y => alike_tup x y
    cases e1 : PyData.eqv (intsP b1) (intsP a1) with
    | false =>
      rw [PySem.W.dataLt_all_no (al b1 a1) e1] at h q
      rw [q] at h
      cases h
    | true =>
      rw [PySem.W.dataLt_all_yes (al b1 a1) e1] at h q
      cases e2 : PyData.eqv (intsP b2) (intsP a2) with
      | false =>
        rw [PySem.W.dataLt_all_no (al b2 a2) e2] at h q
        rw [q] at h
        cases h
      | true =>
        rw [PySem.W.dataLt_all_yes (al b2 a2) e2] at q
        rw [PySem.W.keyToksAll] at q
        cases q
/-! ### once -/
def stepO (acc : List Trip) (x : Trip) : List Trip := if acc = [] ∨ acc.getLast? ≠ some x then acc ++ [x] else acc
def onceT (ties : List Trip) : List Trip := (ties.mergeSort leT).foldl stepO []
structure OnceOk (l acc : List Trip) : Prop where
  pw : acc.Pairwise fun a b => leT a b = true
  nd : acc.Nodup
  mem : ∀ y, y ∈ acc ↔ y ∈ l
  last : acc.getLast? = l.getLast?
theorem once_step {l acc : List Trip} {x : Trip} (h : OnceOk l acc) (hx : ∀ y ∈ l, leT y x = true) : OnceOk (l ++ [x]) (stepO acc x) := by
  unfold stepO
  by_cases c : acc = [] ∨ acc.getLast? ≠ some x
  · rw [if_pos c]
    have hn : x ∉ acc := fun hm => by
      have hne : acc ≠ [] := fun e => by rw [e] at hm; cases hm
      rcases c with e | e
      · exact hne e
      · have e1 : acc.getLast? = some (acc.getLast hne) := List.getLast?_eq_some_getLast hne
        rw [e1] at e
        have hz : acc.getLast hne ∈ l := (h.mem _).mp (List.getLast_mem hne)
        have h1 := hx _ hz
        have h2 : leT x (acc.getLast hne) = true := by
          have := h.pw
          rw [← List.dropLast_concat_getLast hne, List.pairwise_append] at this
          have hm2 : x ∈ acc.dropLast := by
            have hm3 := hm
            rw [← List.dropLast_concat_getLast hne] at hm3
            rcases List.mem_append.mp hm3 with z | z
            · exact z
            · exact absurd (congrArg some (List.mem_singleton.mp z).symm) e
          exact this.2.2 x hm2 _ List.mem_cons_self
        exact e (congrArg some (leT_anti h1 h2))
    refine ⟨List.pairwise_append.mpr ⟨h.pw, List.pairwise_singleton _ _, fun a ha b hb => ?_⟩, ?_, fun y => ?_, ?_⟩
    · obtain rfl := List.mem_singleton.mp hb
      exact hx a ((h.mem a).mp ha)
    · refine List.nodup_append.mpr ⟨h.nd, by simp, fun a ha b hb e => ?_⟩
      obtain rfl := List.mem_singleton.mp hb
      subst e
      exact hn ha
    · rw [List.mem_append, List.mem_append, h.mem]
    · simp
  · rw [if_neg c]
    have c1 : acc ≠ [] := fun e => c (.inl e)
    have c2 : acc.getLast? = some x := by
      cases q : decide (acc.getLast? = some x) with
      | true => exact of_decide_eq_true q
      | false => exact absurd (.inr (of_decide_eq_false q)) c
    refine ⟨h.pw, h.nd, fun y => ?_, by rw [c2]; simp⟩
    rw [List.mem_append, List.mem_singleton, h.mem]
    refine ⟨.inl, fun z => ?_⟩
    rcases z with z | rfl
    · exact z
    · exact (h.mem y).mp (List.mem_of_getLast? c2)
theorem once_all : ∀ (n : Nat) (l : List Trip), l.length = n → l.Pairwise (fun a b => leT a b = true) → OnceOk l (l.foldl stepO [])
  | 0, l, h, _ => by
    rw [List.eq_nil_of_length_eq_zero h]
    exact ⟨.nil, List.nodup_nil, fun y => Iff.rfl, rfl⟩
  | n + 1, l, h, pw => by
    have hne : l ≠ [] := fun e => by rw [e] at h; cases h
    have e := List.dropLast_concat_getLast hne
    rw [← e] at pw ⊢
    rw [List.pairwise_append] at pw
    rw [List.foldl_append]
    exact once_step (once_all n l.dropLast (by rw [List.length_dropLast]; omega) pw.1) fun y hy => pw.2.2 y hy _ List.mem_cons_self
theorem once_ok (ties : List Trip) : OnceOk (ties.mergeSort leT) (onceT ties) := once_all _ _ rfl (PySem.W.sort_pairwise totT ties)
theorem once_mem {ties : List Trip} {y : Trip} : y ∈ onceT ties ↔ y ∈ ties := by
  rw [(once_ok ties).mem, List.mem_mergeSort]
/-- one list of these, in order -/
theorem once_uniq {ties l : List Trip} (nd : l.Nodup) (hm : ∀ y, y ∈ l ↔ y ∈ ties) : l.mergeSort leT = onceT ties := by
  have ok := once_ok ties
  have p : (l.mergeSort leT).Perm (onceT ties) := (List.mergeSort_perm l leT).trans ((List.perm_ext_iff_of_nodup nd ok.nd).mpr fun y => by rw [hm, once_mem])
  exact List.Perm.eq_of_pairwise (le := fun a b => leT a b = true) (fun a b _ _ h1 h2 => leT_anti h1 h2) (PySem.W.sort_pairwise totT l) ok.pw p
theorem fold_len : ∀ (l acc : List Trip), (l.foldl stepO acc).length ≤ acc.length + l.length
  | [], acc => Nat.le_refl _
  | x :: l, acc => by
    rw [List.foldl_cons]
    refine Nat.le_trans (fold_len l _) ?_
    unfold stepO
    split
    · rw [List.length_append, List.length_cons]
      show acc.length + 1 + l.length ≤ acc.length + (l.length + 1)
      omega
    · show _ ≤ _ + (l.length + 1)
      omega
theorem once_len (ties : List Trip) : (onceT ties).length ≤ ties.length := by
  have := fold_len (ties.mergeSort leT) []
  rw [List.length_mergeSort] at this
  show (List.foldl stepO [] (ties.mergeSort leT)).length ≤ _
  rw [List.length_nil, Nat.zero_add] at this
  exact this
/-! ### heads -/
def stepH (width : Int) (acc : List (List Int × List Int)) (x : Trip) : List (List Int × List Int) := if (x.1.length : Int) = width ∧ (x.1, x.2.1) ∉ acc then acc ++ [(x.1, x.2.1)] else acc
def headsL (width : Int) (l : List Trip) : List (List Int × List Int) := l.foldl (stepH width) []
structure HeadOk (width : Int) (l : List Trip) (acc : List (List Int × List Int)) : Prop where
  pw : acc.Pairwise fun a b => leP a b = true
  nd : acc.Nodup
  mem : ∀ y, y ∈ acc ↔ (y.1.length : Int) = width ∧ ∃ t, (y.1, y.2, t) ∈ l
theorem head_step {width : Int} {l : List Trip} {acc : List (List Int × List Int)} {x : Trip} (h : HeadOk width l acc) (hx : ∀ y ∈ l, leT y x = true) : HeadOk width (l ++ [x]) (stepH width acc x) := by
  unfold stepH
  by_cases c : (x.1.length : Int) = width ∧ (x.1, x.2.1) ∉ acc
  · rw [if_pos c]
    refine ⟨List.pairwise_append.mpr ⟨h.pw, List.pairwise_singleton _ _, fun a ha b hb => ?_⟩, ?_, fun y => ?_⟩
    · obtain rfl := List.mem_singleton.mp hb
      obtain ⟨_, t, ht⟩ := (h.mem a).mp ha
      exact le_head (hx _ ht)
    · refine List.nodup_append.mpr ⟨h.nd, by simp, fun a ha b hb e => ?_⟩
      obtain rfl := List.mem_singleton.mp hb
      subst e
      exact c.2 ha
    · rw [List.mem_append, h.mem, List.mem_singleton]
      constructor
      · rintro (⟨h1, t, ht⟩ | rfl)
        · exact ⟨h1, t, List.mem_append_left _ ht⟩
        · exact ⟨c.1, x.2.2, List.mem_append_right _ List.mem_cons_self⟩
      · rintro ⟨h1, t, ht⟩
        rcases List.mem_append.mp ht with ht | ht
        · exact .inl ⟨h1, t, ht⟩
        · have := List.mem_singleton.mp ht
          subst this
          exact .inr rfl
  · rw [if_neg c]
    refine ⟨h.pw, h.nd, fun y => ?_⟩
    rw [h.mem]
    constructor
    · rintro ⟨h1, t, ht⟩
      exact ⟨h1, t, List.mem_append_left _ ht⟩
    · rintro ⟨h1, t, ht⟩
      rcases List.mem_append.mp ht with ht | ht
      · exact ⟨h1, t, ht⟩
      · have := List.mem_singleton.mp ht
        subst this
        have hm : (y.1, y.2) ∈ acc := by
          by_cases q : (y.1, y.2) ∈ acc
          · exact q
          · exact absurd ⟨h1, q⟩ c
        exact (h.mem _).mp hm
theorem head_all (width : Int) : ∀ (n : Nat) (l : List Trip), l.length = n → l.Pairwise (fun a b => leT a b = true) → HeadOk width l (headsL width l)
  | 0, l, h, _ => by
    rw [List.eq_nil_of_length_eq_zero h]
    exact ⟨.nil, List.nodup_nil, fun y => ⟨fun z => (List.not_mem_nil z).elim, fun ⟨_, t, z⟩ => (List.not_mem_nil z).elim⟩⟩
  | n + 1, l, h, pw => by
    have hne : l ≠ [] := fun e => by rw [e] at h; cases h
    have e := List.dropLast_concat_getLast hne
    rw [← e] at pw ⊢
    rw [List.pairwise_append] at pw
    unfold headsL
    rw [List.foldl_append]
    exact head_step (head_all width n l.dropLast (by rw [List.length_dropLast]; omega) pw.1) fun y hy => pw.2.2 y hy _ List.mem_cons_self
theorem heads_len (width : Int) : ∀ (l : List Trip) (acc : List (List Int × List Int)), (l.foldl (stepH width) acc).length ≤ acc.length + l.length
  | [], acc => Nat.le_refl _
  | x :: l, acc => by
    rw [List.foldl_cons]
    refine Nat.le_trans (heads_len width l _) ?_
    unfold stepH
    split
    · rw [List.length_append, List.length_cons]
      show acc.length + 1 + l.length ≤ acc.length + (l.length + 1)
      omega
    · show _ ≤ _ + (l.length + 1)
      omega
/-! ### the table of ties -/
structure TabNd (t : Tab) : Prop where
  nd : (t.map (·.1)).Nodup
  ndr : ∀ p ∈ t, (p.2.map (·.1)).Nodup
  ndt : ∀ p ∈ t, ∀ q ∈ p.2, q.2.Nodup ∧ q.2 ≠ []
theorem putA_keys {β : Type} {k : List Int} {g : Option β → β} : ∀ {l : List (List Int × β)} {y : List Int}, y ∈ (putA k g l).map (·.1) → y = k ∨ y ∈ l.map (·.1)
  | [], y, h => .inl (List.mem_singleton.mp h)
  | (k', v) :: r, y, h => by
    unfold putA at h
    by_cases e : k' = k
    · rw [if_pos e] at h
      exact .inr h
    · rw [if_neg e, List.map_cons] at h
      rcases List.mem_cons.mp h with rfl | h
      · exact .inr List.mem_cons_self
      · rcases putA_keys h with z | z
        · exact .inl z
        · exact .inr (List.mem_cons_of_mem _ z)
theorem putA_nd {β : Type} {k : List Int} {g : Option β → β} : ∀ {l : List (List Int × β)}, (l.map (·.1)).Nodup → ((putA k g l).map (·.1)).Nodup
  | [], _ => by simp [putA]
  | (k', v) :: r, h => by
    rw [List.map_cons, List.nodup_cons] at h
    unfold putA
    by_cases e : k' = k
    · rw [if_pos e, List.map_cons, List.nodup_cons]
      exact h
    · rw [if_neg e, List.map_cons, List.nodup_cons]
      refine ⟨fun z => ?_, putA_nd h.2⟩
      rcases putA_keys z with z | z
      · exact e z
      · exact h.1 z
/-- what is put: members -/
theorem putA_iff {β : Type} {k : List Int} {g : Option β → β} {l : List (List Int × β)} (nd : (l.map (·.1)).Nodup) {p : List Int × β} : p ∈ putA k g l ↔ (p.1 ≠ k ∧ p ∈ l) ∨ p = (k, g (getA k l)) := by
  induction l with
  | nil =>
    show p ∈ [(k, g none)] ↔ _
    rw [List.mem_singleton]
    exact ⟨.inr, fun h => by
      rcases h with ⟨_, h⟩ | h
      · cases h
      · exact h⟩
  | cons q r ih =>
    obtain ⟨k', v⟩ := q
    rw [List.map_cons, List.nodup_cons] at nd
    unfold putA getA
    by_cases e : k' = k
    · rw [if_pos e, if_pos e, List.mem_cons]
      subst e
      constructor
      · rintro (rfl | h)
        · exact .inr rfl
        · exact .inl ⟨fun z => nd.1 (List.mem_map.mpr ⟨p, h, z⟩), List.mem_cons_of_mem _ h⟩
      · rintro (⟨h1, h2⟩ | h)
        · rcases List.mem_cons.mp h2 with rfl | h2
          · exact absurd rfl h1
          · exact .inr h2
        · exact .inl h
    · rw [if_neg e, if_neg e, List.mem_cons, ih nd.2]
      constructor
      · rintro (rfl | ⟨h1, h2⟩ | h)
        · exact .inl ⟨e, List.mem_cons_self⟩
        · exact .inl ⟨h1, List.mem_cons_of_mem _ h2⟩
        · exact .inr h
      · rintro (⟨h1, h2⟩ | h)
        · rcases List.mem_cons.mp h2 with rfl | h2
          · exact .inl rfl
          · exact .inr (.inl ⟨h1, h2⟩)
        · exact .inr (.inr h)
theorem getA_some {β : Type} {k : List Int} {v : β} : ∀ {l : List (List Int × β)}, getA k l = some v → (k, v) ∈ l
  | [], h => by cases h
  | (k', u) :: r, h => by
    unfold getA at h
    by_cases e : k' = k
    · rw [if_pos e] at h
      cases h
      subst e
      exact List.mem_cons_self
    · rw [if_neg e] at h
      exact List.mem_cons_of_mem _ (getA_some h)
def inR (f t : List Int) (r : Row) : Prop := ∃ ts, (f, ts) ∈ r ∧ t ∈ ts
def inT (x : Trip) (t : Tab) : Prop := ∃ r, (x.1, r) ∈ t ∧ inR x.2.1 x.2.2 r
theorem has_inR {f t : List Int} {r : Row} (nd : (r.map (·.1)).Nodup) : hasR f t r ↔ inR f t r := by
  unfold hasR inR
  constructor
  · intro h
    cases e : getA f r with
    | none =>
      rw [e] at h
      cases h
    | some ts =>
      rw [e] at h
      exact ⟨ts, getA_some e, h⟩
  · rintro ⟨ts, h1, h2⟩
    rw [getA_mem nd h1]
    exact h2
theorem has_inT {x : Trip} {t : Tab} (nd : TabNd t) : hasT x t ↔ inT x t := by
  unfold inT
  show hasR x.2.1 x.2.2 ((getA x.1 t).getD []) ↔ _
  constructor
  · intro h
    cases e : getA x.1 t with
    | none =>
      rw [e] at h
      cases h
    | some r =>
      rw [e] at h
      have hm := getA_some e
      exact ⟨r, hm, (has_inR (nd.ndr _ hm)).mp h⟩
  · rintro ⟨r, h1, h2⟩
    rw [getA_mem nd.nd h1]
    exact (has_inR (nd.ndr _ h1)).mpr h2
theorem addTg_mem {t y : List Int} {ts : List (List Int)} : y ∈ addTg t ts ↔ y ∈ ts ∨ y = t := by
  unfold addTg
  split
  · rename_i h
    exact ⟨.inl, fun z => by
      rcases z with z | rfl
      · exact z
      · exact h⟩
  · rw [List.mem_append, List.mem_singleton]
theorem addTg_nd {t : List Int} {ts : List (List Int)} (h : ts.Nodup) : (addTg t ts).Nodup ∧ addTg t ts ≠ [] := by
  refine ⟨?_, fun e => ?_⟩
  · unfold addTg
    split
    · exact h
    · rename_i hn
      refine List.nodup_append.mpr ⟨h, by simp, fun a ha b hb e => ?_⟩
      obtain rfl := List.mem_singleton.mp hb
      subst e
      exact hn ha
  · have := (addTg_mem (t := t) (y := t) (ts := ts)).mpr (.inr rfl)
    rw [e] at this
    cases this
theorem getD_nd {r : Row} {f : List Int} (h : ∀ q ∈ r, q.2.Nodup ∧ q.2 ≠ []) : ((getA f r).getD []).Nodup := by
  cases e : getA f r with
  | none => exact List.nodup_nil
  | some ts => exact (h _ (getA_some e)).1
theorem row_add {r : Row} {f t : List Int} (nd : (r.map (·.1)).Nodup) (h : ∀ q ∈ r, q.2.Nodup ∧ q.2 ≠ []) : ((addRow f t r).map (·.1)).Nodup ∧ (∀ q ∈ addRow f t r, q.2.Nodup ∧ q.2 ≠ []) ∧ ∀ f' t', inR f' t' (addRow f t r) ↔ inR f' t' r ∨ (f' = f ∧ t' = t) := by
  refine ⟨putA_nd nd, fun q hq => ?_, fun f' t' => ?_⟩
  · rcases (putA_iff nd).mp hq with ⟨_, z⟩ | rfl
    · exact h q z
    · exact addTg_nd (getD_nd h)
  · constructor
    · rintro ⟨ts, h1, h2⟩
      rcases (putA_iff nd).mp h1 with ⟨_, z⟩ | z
      · exact .inl ⟨ts, z, h2⟩
      · cases z
        rcases addTg_mem.mp h2 with z | z
        · exact .inl ((has_inR nd).mp z)
        · exact .inr ⟨rfl, z⟩
    · rintro (⟨ts, h1, h2⟩ | ⟨rfl, rfl⟩)
      · by_cases e : f' = f
        · subst e
          exact ⟨_, (putA_iff nd).mpr (.inr rfl), addTg_mem.mpr (.inl (by rw [getA_mem nd h1]; exact h2))⟩
        · exact ⟨ts, (putA_iff nd).mpr (.inl ⟨e, h1⟩), h2⟩
      · exact ⟨_, (putA_iff nd).mpr (.inr rfl), addTg_mem.mpr (.inr rfl)⟩
theorem tab_add {t : Tab} {x : Trip} (h : TabNd t) : TabNd (addTie x t) ∧ ∀ y, inT y (addTie x t) ↔ inT y t ∨ y = x := by
  have hrow : (((getA x.1 t).getD []).map (·.1)).Nodup ∧ ∀ q ∈ (getA x.1 t).getD [], q.2.Nodup ∧ q.2 ≠ [] := by
    cases e : getA x.1 t with
    | none => exact ⟨List.nodup_nil, fun q hq => by cases hq⟩
    | some r => exact ⟨h.ndr _ (getA_some e), h.ndt _ (getA_some e)⟩
  obtain ⟨r1, r2, r3⟩ := row_add (f := x.2.1) (t := x.2.2) hrow.1 hrow.2
  refine ⟨⟨putA_nd h.nd, fun p hp => ?_, fun p hp => ?_⟩, fun y => ?_⟩
  · rcases (putA_iff h.nd).mp hp with ⟨_, z⟩ | rfl
    · exact h.ndr p z
    · exact r1
  · rcases (putA_iff h.nd).mp hp with ⟨_, z⟩ | rfl
    · exact h.ndt p z
    · exact r2
  · constructor
    · rintro ⟨r, h1, h2⟩
      rcases (putA_iff h.nd).mp h1 with ⟨_, z⟩ | z
      · exact .inl ⟨r, z, h2⟩
      · have e1 : y.1 = x.1 := (Prod.mk.inj z).1
        have e2 : r = addRow x.2.1 x.2.2 ((getA x.1 t).getD []) := (Prod.mk.inj z).2
        subst e2
        rcases (r3 _ _).mp h2 with z2 | ⟨z2, z3⟩
        · refine .inl ((has_inT h).mp ?_)
          show hasR y.2.1 y.2.2 ((getA y.1 t).getD [])
          rw [e1]
          exact (has_inR hrow.1).mpr z2
        · exact .inr (Prod.ext e1 (Prod.ext z2 z3))
    · rintro (⟨r, h1, h2⟩ | rfl)
      · by_cases e : y.1 = x.1
        · refine ⟨_, (putA_iff h.nd).mpr (.inr (Prod.ext e rfl)), (r3 _ _).mpr (.inl ?_)⟩
          rw [e] at h1
          rw [getA_mem h.nd h1]
          exact h2
        · exact ⟨r, (putA_iff h.nd).mpr (.inl ⟨e, h1⟩), h2⟩
      · exact ⟨_, (putA_iff h.nd).mpr (.inr rfl), (r3 _ _).mpr (.inr ⟨rfl, rfl⟩)⟩
theorem tab_all : ∀ (n : Nat) (ties : List Trip), ties.length = n → TabNd (tabOf ties).1 ∧ ∀ y, inT y (tabOf ties).1 ↔ y ∈ ties
  | 0, ties, h => by
    rw [List.eq_nil_of_length_eq_zero h]
    exact ⟨⟨List.nodup_nil, (fun p hp => by cases hp), fun p hp => by cases hp⟩, fun y => ⟨fun ⟨r, h1, _⟩ => (List.not_mem_nil h1).elim, fun z => (List.not_mem_nil z).elim⟩⟩
  | n + 1, ties, h => by
    have hne : ties ≠ [] := fun e => by rw [e] at h; cases h
    rw [← List.dropLast_concat_getLast hne, tabOf_snoc]
    obtain ⟨h1, h2⟩ := tab_all n ties.dropLast (by rw [List.length_dropLast]; omega)
    obtain ⟨h3, h4⟩ := tab_add (x := ties.getLast hne) h1
    exact ⟨h3, fun y => by rw [show (stepT (tabOf ties.dropLast) (ties.getLast hne)).1 = addTie (ties.getLast hne) (tabOf ties.dropLast).1 from rfl, h4, h2, List.mem_append, List.mem_singleton]⟩
theorem flat_iff {t : Tab} {y : Trip} : y ∈ flatT t ↔ inT y t := by
  unfold flatT pairsR
  rw [List.mem_flatMap]
  constructor
  · rintro ⟨p, hp, h⟩
    obtain ⟨q, hq, rfl⟩ := List.mem_map.mp h
    obtain ⟨z, hz, h2⟩ := List.mem_flatMap.mp hq
    obtain ⟨t', ht, rfl⟩ := List.mem_map.mp h2
    exact ⟨p.2, hp, z.2, hz, ht⟩
  · rintro ⟨r, h1, ts, h2, h3⟩
    refine ⟨(y.1, r), h1, List.mem_map.mpr ⟨(y.2.1, y.2.2), List.mem_flatMap.mpr ⟨(y.2.1, ts), h2, List.mem_map.mpr ⟨y.2.2, h3, rfl⟩⟩, rfl⟩⟩
/-- lists of lists, each without doubles, apart from each other -/
theorem flat_nd {α β γ : Type} (key : α → γ) (f : α → List β) (g : β → γ) : ∀ {l : List α}, (l.map key).Nodup → (∀ a ∈ l, (f a).Nodup ∧ ∀ b ∈ f a, g b = key a) → (l.flatMap f).Nodup
  | [], _, _ => List.nodup_nil
  | a :: l, nd, h => by
    rw [List.map_cons, List.nodup_cons] at nd
    rw [List.flatMap_cons]
    refine List.nodup_append.mpr ⟨(h a List.mem_cons_self).1, flat_nd key f g nd.2 fun b hb => h b (List.mem_cons_of_mem _ hb), fun x hx y hy e => ?_⟩
    obtain ⟨b, hb, hyb⟩ := List.mem_flatMap.mp hy
    have e1 := (h a List.mem_cons_self).2 x hx
    have e2 := (h b (List.mem_cons_of_mem _ hb)).2 y hyb
    rw [e, e2] at e1
    exact nd.1 (List.mem_map.mpr ⟨b, hb, e1⟩)
theorem map_nd {α β : Type} {f : α → β} (hf : ∀ a b, f a = f b → a = b) : ∀ {l : List α}, l.Nodup → (l.map f).Nodup
  | [], _ => List.nodup_nil
  | a :: l, h => by
    rw [List.nodup_cons] at h
    rw [List.map_cons, List.nodup_cons]
    refine ⟨fun z => ?_, map_nd hf h.2⟩
    obtain ⟨b, hb, e⟩ := List.mem_map.mp z
    exact h.1 (hf _ _ e ▸ hb)
theorem pairs_nd {r : Row} (nd : (r.map (·.1)).Nodup) (h : ∀ q ∈ r, q.2.Nodup ∧ q.2 ≠ []) : (pairsR r).Nodup :=
  flat_nd (·.1) _ (·.1) nd fun q hq => ⟨map_nd (fun a b e => (Prod.mk.inj e).2) (h q hq).1, fun b hb => by
    obtain ⟨t, _, rfl⟩ := List.mem_map.mp hb
    rfl⟩
theorem flatT_nd {t : Tab} (h : TabNd t) : (flatT t).Nodup :=
  flat_nd (·.1) _ (·.1) h.nd fun p hp => ⟨map_nd (fun a b e => by
    have := (Prod.mk.inj e).2
    exact Prod.ext (Prod.mk.inj this).1 (Prod.mk.inj this).2) (pairs_nd (h.ndr p hp) (h.ndt p hp)), fun b hb => by
    obtain ⟨q, _, rfl⟩ := List.mem_map.mp hb
    rfl⟩
theorem heads_nd {t : Tab} (width : Int) (h : TabNd t) : (headsT width t).Nodup :=
  flat_nd (·.1) _ (·.1) h.nd fun p hp => by
    split
    · exact ⟨by
        have := h.ndr p hp
        have e : (p.2.map fun q => (p.1, q.1)) = (p.2.map (·.1)).map fun f => (p.1, f) := by rw [List.map_map]; rfl
        rw [e]
        exact map_nd (fun a b e => (Prod.mk.inj e).2) this, fun b hb => by
        obtain ⟨q, _, rfl⟩ := List.mem_map.mp hb
        rfl⟩
    · exact ⟨List.nodup_nil, fun b hb => by cases hb⟩
theorem heads_iff {t : Tab} (h : TabNd t) {width : Int} {y : List Int × List Int} : y ∈ headsT width t ↔ (y.1.length : Int) = width ∧ ∃ x, inT (y.1, y.2, x) t := by
  unfold headsT
  rw [List.mem_flatMap]
  constructor
  · rintro ⟨p, hp, hy⟩
    split at hy
    · rename_i hw
      obtain ⟨q, hq, rfl⟩ := List.mem_map.mp hy
      obtain ⟨_, hne⟩ := h.ndt p hp q hq
      cases hx : q.2 with
      | nil => exact absurd hx hne
      | cons x r => exact ⟨hw, x, p.2, hp, q.2, hq, by rw [hx]; exact List.mem_cons_self⟩
    · cases hy
  · rintro ⟨hw, x, r, h1, ts, h2, _⟩
    refine ⟨(y.1, r), h1, ?_⟩
    show y ∈ (if (y.1.length : Int) = width then r.map fun q => (y.1, q.1) else [])
    rw [if_pos hw]
    exact List.mem_map.mpr ⟨(y.2, ts), h2, rfl⟩
/-! ### together -/
theorem tab_flat (ties : List Trip) : (flatT (tabOf ties).1).mergeSort leT = onceT ties :=
  once_uniq (flatT_nd (tab_all _ _ rfl).1) fun y => by rw [flat_iff, (tab_all _ _ rfl).2]
theorem flat_len (ties : List Trip) : (flatT (tabOf ties).1).length = (onceT ties).length := by
  have := congrArg List.length (tab_flat ties)
  rwa [List.length_mergeSort] at this
theorem tab_wf {ties : List Trip} (h : ties.length ≤ 900) : TabWf (tabOf ties).1 := by
  obtain ⟨nd, _⟩ := tab_all _ ties rfl
  exact ⟨nd.nd, nd.ndr, sizeS_mono (sizeS_of _ ties rfl) (by omega)⟩
theorem rows_are {ties : List Trip} (h : ties.length ≤ 900) : RowsAre (tabOf ties).1 (onceT ties) := by
  refine ⟨tab_wf h, by rw [flat_len]; have := once_len ties; omega, ?_⟩
  rw [sortD_ties, tab_flat]
theorem once_tiesOk {ties : List Trip} (h : tiesOk ties) : tiesOk (onceT ties) := ⟨fun t ht => h.1 t (once_mem.mp ht), Nat.le_trans (once_len ties) h.2⟩
theorem heads_are (width : Int) (ties : List Trip) : sortD ((headsT width (tabOf ties).1).map pairD) = (headsL width (onceT ties)).map pairD := by
  obtain ⟨nd, hm⟩ := tab_all _ ties rfl
  have ok := head_all width _ (onceT ties) rfl (once_ok ties).pw
  rw [sortD_pairs]
  refine congrArg (List.map pairD) ?_
  have p : ((headsT width (tabOf ties).1).mergeSort leP).Perm (headsL width (onceT ties)) := (List.mergeSort_perm _ leP).trans ((List.perm_ext_iff_of_nodup (heads_nd width nd) ok.nd).mpr fun y => by
    rw [heads_iff nd, ok.mem]
    constructor
    · rintro ⟨h1, x, h2⟩
      exact ⟨h1, x, once_mem.mpr ((hm _).mp h2)⟩
    · rintro ⟨h1, x, h2⟩
      exact ⟨h1, x, (hm _).mpr (once_mem.mp h2)⟩)
  exact List.Perm.eq_of_pairwise (le := fun a b => leP a b = true) (fun a b _ _ h1 h2 => leP_anti h1 h2) (PySem.W.sort_pairwise totP _) ok.pw p
theorem headsT_len (width : Int) (ties : List Trip) : (headsT width (tabOf ties).1).length = (headsL width (onceT ties)).length := by
  have := congrArg List.length (heads_are width ties)
  unfold sortD at this
  rwa [List.length_mergeSort, List.length_map, List.length_map] at this
theorem headsL_len (width : Int) (l : List Trip) : (headsL width l).length ≤ l.length := by
  have := heads_len width l []
  rw [List.length_nil, Nat.zero_add] at this
  exact this
/-- the number of ties -/
theorem tab_count : ∀ (n : Nat) (ties : List Trip), ties.length = n → (tabOf ties).2 = ((onceT ties).length : Nat)
  | 0, ties, h => by
    rw [List.eq_nil_of_length_eq_zero h]
    decide +kernel
  | n + 1, ties, h => by
    have hne : ties ≠ [] := fun e => by rw [e] at h; cases h
    rw [← List.dropLast_concat_getLast hne]
    generalize ties.getLast hne = x
    have hl : ties.dropLast.length = n := by rw [List.length_dropLast]; omega
    generalize ties.dropLast = l at hl
    have ih := tab_count n l hl
    obtain ⟨nd, hm⟩ := tab_all _ l rfl
    rw [tabOf_snoc, ← flat_len, tabOf_snoc]
    show (if hasT x (tabOf l).1 then (tabOf l).2 else (tabOf l).2 + 1) = ((flatT (addTie x (tabOf l).1)).length : Nat)
    obtain ⟨nd2, hm2⟩ := tab_add (x := x) nd
    by_cases c : hasT x (tabOf l).1
    · rw [if_pos c, ih, ← flat_len]
      have hx := (has_inT nd).mp c
      have p : (flatT (addTie x (tabOf l).1)).Perm (flatT (tabOf l).1) := (List.perm_ext_iff_of_nodup (flatT_nd nd2) (flatT_nd nd)).mpr fun y => by
        rw [flat_iff, flat_iff, hm2]
        exact ⟨fun z => by
          rcases z with z | rfl
          · exact z
          · exact hx, .inl⟩
      rw [p.length_eq]
    · rw [if_neg c, ih, ← flat_len]
      have hx : x ∉ flatT (tabOf l).1 := fun z => c ((has_inT nd).mpr (flat_iff.mp z))
      have p : (flatT (addTie x (tabOf l).1)).Perm (x :: flatT (tabOf l).1) := (List.perm_ext_iff_of_nodup (flatT_nd nd2) (List.nodup_cons.mpr ⟨hx, flatT_nd nd⟩)).mpr fun y => by
        rw [flat_iff, hm2, List.mem_cons, flat_iff]
        exact or_comm
      rw [p.length_eq, List.length_cons]
      omega
end Lw
end

section
set_option Elab.async false
set_option linter.all false
set_option maxRecDepth 100000
set_option maxHeartbeats 4000000
namespace Lw
open PySem PySem.Spec PyProof.Rows L2 Evl

/-! ### reprs, how long -/
theorem textFrom_le : ∀ (ts : List Str) (k : Nat) (acc : Str), (textFrom k acc ts).length ≤ acc.length + (ts.map (·.length)).sum + 2 * ts.length
  | [], k, acc => by show acc.length ≤ _; omega
  | t :: r, k, acc => by
    have h := textFrom_le r (k + 1) (acc ++ (if k > 0 then ", " else "" : String) ++ t)
    have e : (textFrom k acc (t :: r)).length = (textFrom (k + 1) (acc ++ (if k > 0 then ", " else "" : String) ++ t) r).length := rfl
    rw [e]
    refine Nat.le_trans h ?_
    rw [Str.length_append, Str.length_append, List.map_cons, List.sum_cons, List.length_cons]
    have h2 : ((if k > 0 then ", " else "" : String) : Str).length ≤ 2 := by
      split
      · decide +kernel
      · decide +kernel
    omega
theorem listText_le (ts : List Str) : (listText ts).length ≤ 2 + (ts.map (·.length)).sum + 2 * ts.length := by
  unfold listText
  rw [Str.length_append]
  have := textFrom_le ts 0 "["
  have h1 : ("[" : Str).length = 1 := by decide +kernel
  have h2 : ("]" : Str).length = 1 := by decide +kernel
  omega
theorem tupleText_le (ts : List Str) : (tupleText ts).length ≤ 3 + (ts.map (·.length)).sum + 2 * ts.length := by
  unfold tupleText
  rw [Str.length_append, Str.length_append]
  have := StrLaws.join_length_le ", " ts
  have h1 : ("(" : Str).length = 1 := by decide +kernel
  have h2 : ((if ts.length == 1 then ",)" else ")" : String) : Str).length ≤ 2 := by
    split
    · decide +kernel
    · decide +kernel
  have h3 : (", " : Str).length = 2 := by decide +kernel
  rw [h3] at this
  omega
structure Rp (d : Dt) (n k : Nat) : Prop where
  py : d.isPy = true
  sh : d.py.showable = true
  nd : d.py.hasDict = false
  dp : d.py.depth ≤ k
  ln : d.py.shown.length ≤ n
  lay : d.py.canLay0 = true
theorem shownAll_map : ∀ l : List PyData, PyData.shownAll l = l.map PyData.shown
  | [] => by rw [PyData.shownAll]; rfl
  | d :: l => by
    rw [PyData.shownAll, shownAll_map l]
    rfl
theorem rp_all {ds : List Dt} {n k : Nat} (h : ∀ d ∈ ds, Rp d n k) : Dt.arePy ds = true ∧ PyData.showableAll (Dt.pys ds) = true ∧ PyData.hasDictAll (Dt.pys ds) = false ∧ PyData.depthAll (Dt.pys ds) ≤ k ∧ ((PyData.shownAll (Dt.pys ds)).map (·.length)).sum ≤ ds.length * n ∧ (PyData.shownAll (Dt.pys ds)).length = ds.length ∧ PyData.canLayAll0 (Dt.pys ds) = true := by
  induction ds with
  | nil =>
    rw [Dt.pys, Dt.arePy, PyData.showableAll, PyData.hasDictAll, PyData.depthAll, PyData.shownAll, PyData.canLayAll0]
    exact ⟨rfl, rfl, rfl, Nat.zero_le _, Nat.zero_le _, rfl, rfl⟩
  | cons d ds ih =>
    obtain ⟨a1, a2, a3, a4, a5, a6, a7⟩ := ih fun x hx => h x (List.mem_cons_of_mem _ hx)
    have hd := h d List.mem_cons_self
    rw [Dt.pys, Dt.arePy, PyData.showableAll, PyData.hasDictAll, PyData.depthAll, PyData.shownAll, PyData.canLayAll0, a1, a2, a3, a7, hd.py, hd.sh, hd.nd, hd.lay]
    refine ⟨rfl, rfl, rfl, by have := hd.dp; omega, ?_, by rw [List.length_cons, a6, List.length_cons], rfl⟩
    rw [List.map_cons, List.sum_cons, List.length_cons, Nat.succ_mul]
    have := hd.ln
    omega
theorem rp_tup {ds : List Dt} {n k : Nat} (h : ∀ d ∈ ds, Rp d n k) : Rp (.tup ds) (3 + ds.length * (n + 2)) (k + 1) := by
  obtain ⟨a1, a2, a3, a4, a5, a6, a7⟩ := rp_all h
  refine ⟨by rw [Dt.isPy]; exact a1, by rw [Dt.py, PyData.showable]; exact a2, by rw [Dt.py, PyData.hasDict]; exact a3, by rw [Dt.py, PyData.depth]; omega, ?_, by rw [Dt.py, PyData.canLay0]; exact a7⟩
  rw [Dt.py, PyData.shown]
  refine Nat.le_trans (tupleText_le _) ?_
  rw [a6, Nat.mul_add]
  omega
theorem rp_lst {ds : List Dt} {n k : Nat} (h : ∀ d ∈ ds, Rp d n k) : Rp (.lst ds) (3 + ds.length * (n + 2)) (k + 1) := by
  obtain ⟨a1, a2, a3, a4, a5, a6, a7⟩ := rp_all h
  refine ⟨by rw [Dt.isPy]; exact a1, by rw [Dt.py, PyData.showable]; exact a2, by rw [Dt.py, PyData.hasDict]; exact a3, by rw [Dt.py, PyData.depth]; omega, ?_, by rw [Dt.py, PyData.canLay0]; exact a7⟩
  rw [Dt.py, PyData.shown]
  refine Nat.le_trans (listText_le _) ?_
  rw [a6, Nat.mul_add]
  omega
theorem Rp.mono {d : Dt} {n k n' k' : Nat} (h : Rp d n k) (h1 : n ≤ n') (h2 : k ≤ k') : Rp d n' k' := ⟨h.py, h.sh, h.nd, Nat.le_trans h.dp h2, Nat.le_trans h.ln h1, h.lay⟩
theorem rp_int {n : Int} (h : numOk n) : Rp (.int n) 5 0 := by
  refine ⟨rfl, ?_, rfl, ?_, ?_, rfl⟩
  · rw [Dt.py, PyData.showable]
    exact decide_eq_true (log_ok h)
  · rw [Dt.py, PyData.depth]
    · exact Nat.le_refl _
    all_goals nofun
  · rw [Dt.py, PyData.shown]
    exact (numT_len h).2
theorem rp_str {x : Str} (h : ∀ c ∈ x.cps.toList, c < 128) : Rp (.str x) (10 * x.length + 2) 0 := by
  refine ⟨rfl, rfl, rfl, ?_, ?_, ?_⟩
  · rw [Dt.py, PyData.depth]
    · exact Nat.le_refl _
    all_goals nofun
  · rw [Dt.py, PyData.shown]
    exact StrLaws.reprText_len x fun c hc => Nat.lt_trans (h c hc) (by decide)
  · rw [Dt.py, PyData.canLay0]
    unfold PyData.strOk
    rw [← Array.all_toList, List.all_eq_true]
    exact fun c hc => decide_eq_true (Nat.lt_trans (h c hc) (by decide))
theorem rp_tupI {ns : List Int} (h : numsOk ns) : Rp (tupI ns) 703 1 := by
  have := rp_tup (ds := ns.map Dt.int) (n := 5) (k := 0) fun d hd => by
    obtain ⟨n, hn, rfl⟩ := List.mem_map.mp hd
    exact rp_int (h.1 n hn)
  refine this.mono ?_ (Nat.le_refl _)
  rw [List.length_map]
  have := h.2
  omega
theorem rp_two {a b : Dt} {n k : Nat} (h1 : Rp a n k) (h2 : Rp b n k) : Rp (.tup [a, b]) (3 + 2 * (n + 2)) (k + 1) := rp_tup fun d hd => by
  rcases List.mem_cons.mp hd with rfl | hd
  · exact h1
  · obtain rfl := List.mem_singleton.mp hd
    exact h2
theorem rp_tie {t : Trip} (h : numsOk t.1 ∧ numsOk t.2.1 ∧ numsOk t.2.2) : Rp (tieD t) 2118 2 := rp_tup (ds := [tupI t.1, tupI t.2.1, tupI t.2.2]) (n := 703) (k := 1) fun d hd => by
  rcases List.mem_cons.mp hd with rfl | hd
  · exact rp_tupI h.1
  · rcases List.mem_cons.mp hd with rfl | hd
    · exact rp_tupI h.2.1
    · obtain rfl := List.mem_singleton.mp hd
      exact rp_tupI h.2.2
theorem rp_pair {p : List Int × List Int} (h1 : numsOk p.1) (h2 : numsOk p.2) : Rp (pairD p) 1413 2 := rp_two (rp_tupI h1) (rp_tupI h2)
theorem rp_ben {p : List Int × Int} (h : numsOk p.1 ∧ cntOk p.2) : Rp (benD p) 1413 2 := rp_two (rp_tupI h.1) ((rp_int ⟨by have := h.2.1; omega, h.2.2⟩).mono (by decide) (by decide))
theorem rp_mom {p : Int × Str} (h : cntOk p.1 ∧ isNameB p.2 = true) : Rp (momD p) 20011 1 := by
  have hx := name_word h.2
  refine (rp_two (n := 10002) (k := 0) ((rp_int ⟨by have := h.1.1; omega, h.1.2⟩).mono (by decide) (by decide)) ((rp_str hx.2.2.2).mono ?_ (Nat.le_refl _))).mono (by decide) (Nat.le_refl _)
  have := hx.2.2.1
  omega
theorem rp_ties {l : List Trip} (h : tiesOk l) : Rp (.lst (l.map tieD)) 1910000 3 := by
  refine (rp_lst (ds := l.map tieD) (n := 2118) (k := 2) fun d hd => ?_).mono ?_ (Nat.le_refl _)
  · obtain ⟨t, ht, rfl⟩ := List.mem_map.mp hd
    exact rp_tie (h.1 t ht)
  · rw [List.length_map]
    have := h.2
    omega
theorem rp_heads {l : List (List Int × List Int)} (h : ∀ p ∈ l, numsOk p.1 ∧ numsOk p.2) (hl : l.length ≤ 900) : Rp (.lst (l.map pairD)) 1910000 3 := by
  refine (rp_lst (ds := l.map pairD) (n := 1413) (k := 2) fun d hd => ?_).mono ?_ (Nat.le_refl _)
  · obtain ⟨t, ht, rfl⟩ := List.mem_map.mp hd
    exact rp_pair (h t ht).1 (h t ht).2
  · rw [List.length_map]
    omega
theorem rp_bens {l : List (List Int × Int)} (h : pairsOk l) : Rp (.lst (l.map benD)) 1910000 3 := by
  refine (rp_lst (ds := l.map benD) (n := 1413) (k := 2) fun d hd => ?_).mono ?_ (Nat.le_refl _)
  · obtain ⟨t, ht, rfl⟩ := List.mem_map.mp hd
    exact rp_ben (h.1 t ht)
  · rw [List.length_map]
    have := h.2
    omega
theorem rp_moms {l : List (Int × Str)} (h : momsOk l) (hl : l.length ≤ 100) : Rp (.tup (l.map momD)) 2010000 2 := by
  refine (rp_tup (ds := l.map momD) (n := 20011) (k := 1) fun d hd => ?_).mono ?_ (Nat.le_refl _)
  · obtain ⟨t, ht, rfl⟩ := List.mem_map.mp hd
    exact rp_mom (h.1 t ht)
  · rw [List.length_map]
    omega
/-- a text of at most thirty lines -/
theorem text_ascii {ls : List (List Str)} (h : ∀ l ∈ ls, lineOk l) : ∀ c ∈ (textT ls).cps.toList, c < 128 := fun c hc => by
  unfold textT at hc
  rcases join_mem hc with z | ⟨x, hx, z⟩
  · rw [nl_one] at z
    have := List.mem_singleton.mp z
    omega
  · obtain ⟨l, hl, rfl⟩ := List.mem_map.mp hx
    rcases join_mem z with z | ⟨y, hy, z⟩
    · rw [blank_one] at z
      have := List.mem_singleton.mp z
      omega
    · exact ((h l hl).2.2 y hy).2.2.2 c z
theorem rp_text {ls : List (List Str)} (h : ∀ l ∈ ls, lineOk l) (hl : ls.length ≤ 30) : Rp (.str (textT ls)) 1201502 0 := by
  refine (rp_str (text_ascii h)).mono ?_ (Nat.le_refl _)
  have h1 := sum_le ((ls.map lineT).map (·.length)) 4004 fun x hx => by
    obtain ⟨y, hy, rfl⟩ := List.mem_map.mp hx
    obtain ⟨l, hl, rfl⟩ := List.mem_map.mp hy
    exact line_len (h l hl)
  have h2 := join_len "\n" (ls.map lineT)
  have h3 : ("\n" : Str).length = 1 := by decide +kernel
  rw [h3] at h2
  simp only [List.length_map] at h1 h2
  have h4 : ls.length * 4004 ≤ 30 * 4004 := Nat.mul_le_mul_right _ hl
  have h5 : (textT ls).length ≤ (List.map (·.length) (ls.map lineT)).sum + ls.length * 1 := h2
  omega
section
variable {Z : Cq} {Γ : Gam} {M : Mem} {Q : Dt → Mem → Prop} {ta tb te : TE} {x y : Dt}
theorem cd_rp {n k : Nat} (h : Rp x n k) (hn : n ≤ 16777216) (hk : k ≤ 50) (n1 : x.py ≠ .none) (n2 : ∀ b, x.py ≠ .bool b) (q : Q (.str x.py.shown) M) : ClD Z (rReprA Z.K) [x] M Q :=
  cd_repr h.py h.sh h.nd (Nat.le_trans h.dp hk) (sl_le (Nat.le_trans h.ln hn)) n1 n2 q
/-- what the reprs of two equal data say -/
theorem ev_same {b : Bool} {d : Dt} {n k : Nat} (h : Rp d n k) (hn : n ≤ 16777216) (hk : k ≤ 50) (n1 : d.py ≠ .none) (n2 : ∀ b, d.py ≠ .bool b)
    (ha : EvD Z ta Γ M fun x M1 => x = d ∧ EvD Z tb Γ M1 fun y M2 => y = d ∧ Q (.bl true) M2) : EvD Z (tOp (rEqA Z.K) (tCB (rReprA Z.K) (tCons ta tNil)) (tCB (rReprA Z.K) (tCons tb tNil))) Γ M Q :=
  ev_op <| ev_cb <| ar_cons <| ev_mono ha fun x M1 ⟨e, hb⟩ => by
    subst e
    refine ar_nil <| cd_rp h hn hk n1 n2 <| ev_cb <| ar_cons <| ev_mono hb fun y M2 ⟨e, q⟩ => ?_
    subst e
    refine ar_nil <| cd_rp h hn hk n1 n2 <| od_eqS ?_
    rw [decide_eq_true rfl]
    exact q
theorem tt_differ {QT : Bool → Mem → Prop} {d : Dt} {n k : Nat} (h : Rp d n k) (hn : n ≤ 16777216) (hk : k ≤ 50) (n1 : d.py ≠ .none) (n2 : ∀ b, d.py ≠ .bool b)
    (ha : EvD Z ta Γ M fun x M1 => x = d ∧ EvD Z tb Γ M1 fun y M2 => y = d ∧ QT false M2) : TtD Z (tTest (tOp (rNeA Z.K) (tCB (rReprA Z.K) (tCons ta tNil)) (tCB (rReprA Z.K) (tCons tb tNil)))) Γ M QT :=
  tt_test <| ev_op <| ev_cb <| ar_cons <| ev_mono ha fun x M1 ⟨e, hb⟩ => by
    subst e
    refine ar_nil <| cd_rp h hn hk n1 n2 <| ev_cb <| ar_cons <| ev_mono hb fun y M2 ⟨e, q⟩ => ?_
    subst e
    refine ar_nil <| cd_rp h hn hk n1 n2 <| od_neS ⟨_, rfl, ?_⟩
    rw [decide_eq_true rfl]
    exact q
theorem shaped_rp {d : Dt} {n k : Nat} (h : Rp d n k) (hk : k ≤ 50) : SeqAt.shaped d.py = true := by
  unfold SeqAt.shaped
  rw [h.lay, Bool.true_and]
  exact decide_eq_true (by have := h.dp; omega)
/-- != of two ties -/
theorem od_neT {a b : Trip} (ha : numsOk a.1 ∧ numsOk a.2.1 ∧ numsOk a.2.2) (hb : numsOk b.1 ∧ numsOk b.2.1 ∧ numsOk b.2.2) (q : Q (.bl (!decide (a = b))) M) : OpD Z (rNeA Z.K) (tieD a) (tieD b) M Q := by
  refine od_ne (isPy_tie a) (isPy_tie b) (shaped_rp (rp_tie ha) (by decide)) (shaped_rp (rp_tie hb) (by decide)) ?_
  rw [eqv_tie]
  exact q
/-- not in a list of heads that is written -/
theorem od_notInH {p : List Int × List Int} {u : Addr} {l : List (List Int × List Int)} (hm : (u, MO.lst (l.map pairD)) ∈ M) (hp : numsOk p.1 ∧ numsOk p.2) (hl : ∀ p ∈ l, numsOk p.1 ∧ numsOk p.2) (q : Q (.bl (!decide (p ∈ l))) M) : OpD Z (rNotInA Z.K) (pairD p) (.ref u) M Q := op_orR (op_orR (op_orL fun F W H vx vy s d1 d2 R k => by
  cases d2
  obtain ⟨xs, hxs, dx⟩ := (s.mem _ hm).2
  obtain ⟨a1, a2, a3, a4, a5, a6, a7⟩ := rp_all (ds := l.map pairD) (n := 1413) (k := 2) fun d hd => by
    obtain ⟨t, ht, rfl⟩ := List.mem_map.mp hd
    exact rp_pair (hl t ht).1 (hl t ht).2
  have dW : Dp Z.K H (.ref u) (.list (Dt.pys (l.map pairD))) := .lst (sq_of hxs) (dpAll_of dx.len fun i v d h1 h2 => by
    refine ((dx.at_ i v d h1 h2).mono s.ex).dp ?_
    exact arePy_get a1 h2)
  refine ⟨_, _, (d1.mono s.ex).dp (isPy_pair p), dW, shaped_rp (rp_pair hp.1 hp.2) (by decide), ?_, ?_⟩
  · unfold SeqAt.shaped
    rw [PyData.canLay0, a7, PyData.depth]
    exact decide_eq_true (by omega)
  · refine k _ _ _ _ _ q (Ex.refl W) s ?_
    have e : ((Dt.pys (l.map pairD)).any fun z => PyData.eqv z (pairD p).py) = decide (p ∈ l) := by
      rw [pys_map]
      clear hm hl hxs dx a1 a2 a3 a4 a5 a6 a7 dW q
      induction l with
      | nil => rfl
      | cons y r ih =>
        rw [List.map_cons, List.any_cons, ih, eqv_pair]
        by_cases h1 : y = p
        · subst h1
          simp
        · have h2 : ¬ p = y := fun e => h1 e.symm
          simp [h1, h2]
    rw [e]
    exact .bl _))
end
end Lw
end

section
set_option Elab.async false
set_option linter.all false
set_option maxRecDepth 100000
set_option maxHeartbeats 4000000
namespace Lw
open PySem PySem.Spec PyProof.Rows L2 Evl

/-! ### the law's own defs: what it asks -/
inductive R_once : List Dt → Dt → Prop
  | mk (ties : List Trip) (h : tiesOk ties) : R_once [.lst (ties.map tieD)] (.lst ((onceT ties).map tieD))
def S__law_once (_ : PySem.W.Frag) := relS R_once
inductive R_part : List Dt → Dt → Prop
  | mk (ns : List Int) (h : numsOk ns) : R_part [tupI ns] (.str (partT ns))
def S__law_part (_ : PySem.W.Frag) := relS R_part
inductive R_tie_lines : List Dt → Dt → Prop
  | mk (ties : List Trip) (h : tiesOk ties) : R_tie_lines [.lst (ties.map tieD)] (textsD (ties.map tieW))
def S__law_tie_lines (_ : PySem.W.Frag) := relS R_tie_lines
inductive R_law_run_lines : List Dt → Dt → Prop
  | mk (word : Str) (ms : List (Int × Str)) (st : Int) (h1 : cntOk st) (h2 : momsOk ms) (h3 : word.length ≤ 10) : R_law_run_lines [.str word, runL ms st] (textsD (runLs word ms st))
def S__law_run_lines (_ : PySem.W.Frag) := relS R_law_run_lines
inductive R_machine_is (K : PySem.W.Frag) : List Dt → Dt → Prop
  | mk (width : Int) (ties : List Trip) (h1 : cntOk width) (h2 : tiesOk ties) : R_machine_is K [machD K width ties, .int width, .lst ((onceT ties).map tieD)] (.bl true)
def S__law_machine_is (K : PySem.W.Frag) := relS (R_machine_is K)
inductive R_heights_is (K : PySem.W.Frag) : List Dt → Dt → Prop
  | mk (width : Int) (ties : List Trip) (ps : List (List Int × Int)) (h1 : cntOk width) (h2 : tiesOk ties) (h3 : pairsOk ps) : R_heights_is K [htsD (machD K width ties) ps K, .int width, .lst ((onceT ties).map tieD), .lst (ps.map benD)] (.bl true)
def S__law_heights_is (K : PySem.W.Frag) := relS (R_heights_is K)
inductive R_run_is (K : PySem.W.Frag) : List Dt → Dt → Prop
  | mk (ms : List (Int × Str)) (st : Int) (h1 : cntOk st) (h2 : momsOk ms) (h3 : ms.length ≤ 10) : R_run_is K [runD K ms st, runL ms st] (.bl true)
def S__law_run_is (K : PySem.W.Frag) := relS (R_run_is K)
inductive R_ring_is (K : PySem.W.Frag) : List Dt → Dt → Prop
  | mk (ms ms2 : List (Int × Str)) (st st2 : Int) (h1 : cntOk st) (h2 : momsOk ms) (h3 : ms.length ≤ 10) (h4 : cntOk st2) (h5 : momsOk ms2) (h6 : ms2.length ≤ 10) : R_ring_is K [ringD (runD K ms st) (runD K ms2 st2) K, runL ms st, runL ms2 st2] (.bl true)
def S__law_ring_is (K : PySem.W.Frag) := relS (R_ring_is K)
/-- what the law draws -/
structure DrawOk (width : Int) (ties : List Trip) (ps : List (List Int × Int)) (rs : List (List (Int × Str) × Int)) : Prop where
  w : cntOk width
  t : tiesOk ties
  t21 : ties.length ≤ 21
  p : pairsOk ps
  p6 : ps.length ≤ 6
  pne : ps ≠ []
  r3 : rs.length = 3
  r : ∀ q ∈ rs, momsOk q.1 ∧ q.1.length ≤ 10 ∧ cntOk q.2
def runsD (rs : List (List (Int × Str) × Int)) : Dt := .lst (rs.map fun q => runL q.1 q.2)
def text0 (width : Int) (ties : List Trip) : Str := textT (machLs width (onceT ties))
def text1 (width : Int) (ties : List Trip) (ps : List (List Int × Int)) : Str := textT (machLs width (onceT ties) ++ ps.map benW)
def text2 (q : List (Int × Str) × Int) : Str := textT (runLs "run" q.1 q.2)
def text3 (q r : List (Int × Str) × Int) : Str := textT (runLs "ring" q.1 q.2 ++ runLs "loop" r.1 r.2)
inductive R_made (K : PySem.W.Frag) : List Dt → Dt → Prop
  | mk (width : Int) (ties : List Trip) (ps : List (List Int × Int)) (q0 q1 q2 : List (Int × Str) × Int) (h : DrawOk width ties ps [q0, q1, q2]) :
      R_made K [.int width, .lst (ties.map tieD), .lst ((onceT ties).map tieD), .lst (ps.map benD), runsD [q0, q1, q2], .lst [.str (text0 width ties), .str (text1 width ties ps), .str (text2 q0), .str (text3 q1 q2)]] (.bl true)
def S__law_made (K : PySem.W.Frag) := relS (R_made K)
def S_law (_ : PySem.W.Frag) : SD := fun ds M Q _ => M = [] ∧ ∃ ns : List Int, ds = [.sq (ns.map Dt.int)] ∧ ns.length ≤ 63 ∧ ∀ M', Q (.bl true) M'
end Lw
end

section
set_option Elab.async false
set_option linter.all false
set_option maxRecDepth 100000
set_option maxHeartbeats 4000000
namespace Lw
open PySem PySem.Spec PyProof.Rows L2 Evl
open C8 (pe_gc)
variable {P : Program} {w : World} {K : PySem.W.Frag} {mg : Str → Option Value} {base : Heap}
/-! _law_once -/
abbrev s__law_once : Stmt := (top 60)
theorem sc__law_once : FnScope ["ties", "found", "tie"] ["ties"] (defScope s__law_once) := ⟨rfl, rfl, rfl, by decide +kernel, rfl, by decide +kernel, by decide +kernel⟩
def t__law_once (K : PySem.W.Frag) (w : World) (E : XK) : TS :=
    tSeq (tAsg (tLst (tNil)) (gName 1))
    (tSeq (tFor (iAny K (tCB (rSortedA K) (tCons (tVar 0) (tNil)))) (gName 2) (tIfS (tOr (tTest (tOp (rEqA K) (tCB (rLenA K) (tCons (tVar 1) (tNil))) (tC (.int 0)))) (tTest (tOp (rNeA K) (tOp (rIxA K w) (tVar 1) (tUn (rU fun i => .int (-i)) (tC (.int 1)))) (tVar 2)))) (tDrop (tBM K "list" rAppend (tVar 1) (tCons (tVar 2) (tNil)))) (tNext)))
    (tRet (tVar 1)))
theorem der__law_once (T : Txt K mg) {f : Addr} (cdv : Value) (A : Around) (outer : List Env) (s : Shared) (H : Hp) (E : XK) (hr : Room 0 (A.deeper (envOfC "_law_once" (defScope s__law_once) s.heap.objs.size f cdv))) :
    PSs (cxOf (L2.CX P w) P w K mg base ["ties", "found", "tie"] "_law_once" (defScope s__law_once) f cdv A outer s H E) (defBody s__law_once) (t__law_once K w E) := by
  have tk := tk_of (P := P) (w := w) (K := K) (mg := mg) (base := base) (N := ["ties", "found", "tie"]) (qual := "_law_once") (scope := defScope s__law_once) (f := f) (cdv := cdv) (A := A) (outer := outer) (s := s) (H := H) (E := E)
  have po := po_of (P := P) (w := w) (K := K) (mg := mg) (base := base) (N := ["ties", "found", "tie"]) (qual := "_law_once") (scope := defScope s__law_once) (f := f) (cdv := cdv) (A := A) (outer := outer) (s := s) (H := H) (E := E)
  have hu1 := hu1_of hr
  have hu64 := hu64_of hr
  have hu65 := hu65_of hr
  unfold t__law_once
  exact pss_cons (ps_set (i := 1) sc__law_once.nd rfl (by first | exact .inl rfl | exact .inr rfl) (pe_lst (pa_nil)))
    (pss_cons (ps_for po rfl (pi_any (pe_callB (call_sortedA hu65) (by rfl) T.b_sorted (by decide +kernel) (pa_cons (pv 0) (pa_nil)))) (pg_name (i := 2) sc__law_once.nd rfl (by first | exact .inl rfl | exact .inr rfl)) (pss_one (ps_if (PW.pt (pw_or (pt_cmpR (op_eqA hu64) (pe_callB call_lenA (by rfl) T.b_len (by decide +kernel) (pa_cons (pv 1) (pa_nil))) (pe_int) (nomark _)) (pw_or1 (pt_cmpR (op_neA hu64) (pe_ix (ix_A hu1) (pv 1) (pe_un un_neg (pe_int)) (fun _ _ => rfl)) (pv 2) (nomark _))))) (pss_one (ps_expr (pe_bm PySem.F.plainAttrs_list PySem.F.slot_list_append PySem.F.type_list_append mt_append (pv 1) (pa_cons (pv 2) (pa_nil))))) (pss_nil))))
    (pss_one (ps_ret (pv 1))))
/-! _law_part -/
abbrev s__law_part : Stmt := (top 61)
theorem sc__law_part : FnScope ["numbers", "number"] ["numbers"] (defScope s__law_part) := ⟨rfl, rfl, rfl, by decide +kernel, rfl, by decide +kernel, by decide +kernel⟩
def t__law_part (K : PySem.W.Frag) (w : World) (E : XK) : TS :=
    tSeq (tIfS (tTest (tOp (rEqA K) (tCB (rLenA K) (tCons (tVar 0) (tNil))) (tC (.int 0)))) (tRet (tC (.str "end"))) (tNext))
    (tRet (tM1 (rJoinA K) (tC (.str ",")) (tLc (iAny K (tVar 0)) (gName 1) (tYes) (tCB (rStrA) (tCons (tVar 1) (tNil))) [1])))
theorem der__law_part (T : Txt K mg) {f : Addr} (cdv : Value) (A : Around) (outer : List Env) (s : Shared) (H : Hp) (E : XK) (hr : Room 0 (A.deeper (envOfC "_law_part" (defScope s__law_part) s.heap.objs.size f cdv))) :
    PSs (cxOf (L2.CX P w) P w K mg base ["numbers", "number"] "_law_part" (defScope s__law_part) f cdv A outer s H E) (defBody s__law_part) (t__law_part K w E) := by
  have tk := tk_of (P := P) (w := w) (K := K) (mg := mg) (base := base) (N := ["numbers", "number"]) (qual := "_law_part") (scope := defScope s__law_part) (f := f) (cdv := cdv) (A := A) (outer := outer) (s := s) (H := H) (E := E)
  have po := po_of (P := P) (w := w) (K := K) (mg := mg) (base := base) (N := ["numbers", "number"]) (qual := "_law_part") (scope := defScope s__law_part) (f := f) (cdv := cdv) (A := A) (outer := outer) (s := s) (H := H) (E := E)
  have hu1 := hu1_of hr
  have hu64 := hu64_of hr
  have hu65 := hu65_of hr
  unfold t__law_part
  exact pss_cons (ps_if (pt_cmpR (op_eqA hu64) (pe_callB call_lenA (by rfl) T.b_len (by decide +kernel) (pa_cons (pv 0) (pa_nil))) (pe_int) (nomark _)) (pss_one (ps_ret (pe_str))) (pss_nil))
    (pss_one (ps_ret (pe_join (pe_str) (pe_lc (own := [("number", 1)]) rfl sc__law_part.nd (pi_any (pv 0)) (blkOk_by (own := [("number", 1)]) (N := ["numbers", "number"]) (sc := defScope s__law_part) (by decide +kernel)) (fun _ _ _ _ _ => pg_name (i := 1) sc__law_part.nd rfl (by first | exact .inl rfl | exact .inr rfl)) (fun _ _ _ _ _ => pts_nil) (fun _ _ _ _ _ => pe_callTy call_strA (by rfl) T.b_str (by decide +kernel) (pa_cons (pv 1) (pa_nil)))))))
/-! _law_tie_lines -/
abbrev s__law_tie_lines : Stmt := (top 62)
theorem sc__law_tie_lines : FnScope ["ties", "tie", "part"] ["ties"] (defScope s__law_tie_lines) := ⟨rfl, rfl, rfl, by decide +kernel, rfl, by decide +kernel, by decide +kernel⟩
def t__law_tie_lines (K : PySem.W.Frag) (w : World) (E : XK) : TS :=
    tRet (tLc (iAny K (tVar 0)) (gName 1) (tYes) (tOp (rAddA K) (tC (.str "tie ")) (tM1 (rJoinA K) (tC (.str " ")) (tLc (iAny K (tVar 1)) (gName 2) (tYes) (tCall (toSp K (S__law_part K)) [] E0 (tCons (tVar 2) (tNil))) [2]))) [1])
theorem der__law_tie_lines (T : Txt K mg) (c__law_part : FnB P w K mg base 1 "_law_part" (S__law_part K)) {f : Addr} (cdv : Value) (A : Around) (outer : List Env) (s : Shared) (H : Hp) (E : XK) (hr : Room 1 (A.deeper (envOfC "_law_tie_lines" (defScope s__law_tie_lines) s.heap.objs.size f cdv))) :
    PSs (cxOf (L2.CX P w) P w K mg base ["ties", "tie", "part"] "_law_tie_lines" (defScope s__law_tie_lines) f cdv A outer s H E) (defBody s__law_tie_lines) (t__law_tie_lines K w E) := by
  have tk := tk_of (P := P) (w := w) (K := K) (mg := mg) (base := base) (N := ["ties", "tie", "part"]) (qual := "_law_tie_lines") (scope := defScope s__law_tie_lines) (f := f) (cdv := cdv) (A := A) (outer := outer) (s := s) (H := H) (E := E)
  have po := po_of (P := P) (w := w) (K := K) (mg := mg) (base := base) (N := ["ties", "tie", "part"]) (qual := "_law_tie_lines") (scope := defScope s__law_tie_lines) (f := f) (cdv := cdv) (A := A) (outer := outer) (s := s) (H := H) (E := E)
  have hu1 := hu1_of hr
  have hu64 := hu64_of hr
  have hu65 := hu65_of hr
  unfold t__law_tie_lines
  exact pss_one (ps_ret (pe_lc (own := [("tie", 1)]) rfl sc__law_tie_lines.nd (pi_any (pv 0)) (blkOk_by (own := [("tie", 1)]) (N := ["ties", "tie", "part"]) (sc := defScope s__law_tie_lines) (by decide +kernel)) (fun _ _ _ _ _ => pg_name (i := 1) sc__law_tie_lines.nd rfl (by first | exact .inl rfl | exact .inr rfl)) (fun _ _ _ _ _ => pts_nil) (fun _ _ _ _ _ => pe_op op_addA (pe_str) (pe_join (pe_str) (pe_lc (own := [("part", 2)]) rfl sc__law_tie_lines.nd (pi_any (pv 1)) (blkOk_by (own := [("part", 2)]) (by kernel_rfl)) (fun _ _ _ _ _ => pg_name (i := 2) sc__law_tie_lines.nd rfl (by first | exact .inl rfl | exact .inr rfl)) (fun _ _ _ _ _ => pts_nil) (fun _ _ _ _ _ => pe_fn c__law_part hr (by decide) (by rfl) (pa_cons (pv 2) (pa_nil))))))))
/-! _law_run_lines -/
abbrev s__law_run_lines : Stmt := (top 63)
theorem sc__law_run_lines : FnScope ["word", "run", "time", "name"] ["word", "run"] (defScope s__law_run_lines) := ⟨rfl, rfl, rfl, by decide +kernel, rfl, by decide +kernel, by decide +kernel⟩
def t__law_run_lines (K : PySem.W.Frag) (w : World) (E : XK) : TS :=
    tRet (tOp (rAddA K) (tLst (tCons (tOp (rAddA K) (tOp (rAddA K) (tVar 0) (tC (.str " "))) (tCB (rStrA) (tCons (tOp (rIxA K w) (tVar 1) (tC (.int 1))) (tNil)))) (tNil))) (tLc (iAny K (tOp (rIxA K w) (tVar 1) (tC (.int 0)))) (gTup K 2 (gCons (gName 2) (gCons (gName 3) (gNil)))) (tYes) (tOp (rAddA K) (tOp (rAddA K) (tOp (rAddA K) (tC (.str "ask ")) (tCB (rStrA) (tCons (tVar 2) (tNil)))) (tC (.str " "))) (tVar 3)) [2, 3]))
theorem der__law_run_lines (T : Txt K mg) {f : Addr} (cdv : Value) (A : Around) (outer : List Env) (s : Shared) (H : Hp) (E : XK) (hr : Room 0 (A.deeper (envOfC "_law_run_lines" (defScope s__law_run_lines) s.heap.objs.size f cdv))) :
    PSs (cxOf (L2.CX P w) P w K mg base ["word", "run", "time", "name"] "_law_run_lines" (defScope s__law_run_lines) f cdv A outer s H E) (defBody s__law_run_lines) (t__law_run_lines K w E) := by
  have tk := tk_of (P := P) (w := w) (K := K) (mg := mg) (base := base) (N := ["word", "run", "time", "name"]) (qual := "_law_run_lines") (scope := defScope s__law_run_lines) (f := f) (cdv := cdv) (A := A) (outer := outer) (s := s) (H := H) (E := E)
  have po := po_of (P := P) (w := w) (K := K) (mg := mg) (base := base) (N := ["word", "run", "time", "name"]) (qual := "_law_run_lines") (scope := defScope s__law_run_lines) (f := f) (cdv := cdv) (A := A) (outer := outer) (s := s) (H := H) (E := E)
  have hu1 := hu1_of hr
  have hu64 := hu64_of hr
  have hu65 := hu65_of hr
  unfold t__law_run_lines
  exact pss_one (ps_ret (pe_op op_addA (pe_lst (pa_cons (pe_op op_addA (pe_op op_addA (pv 0) (pe_str)) (pe_callTy call_strA (by rfl) T.b_str (by decide +kernel) (pa_cons (pe_ix (ix_A hu1) (pv 1) (pe_int) (fun _ _ => rfl)) (pa_nil)))) (pa_nil))) (pe_lc (own := [("time", 2), ("name", 3)]) rfl sc__law_run_lines.nd (pi_any (pe_ix (ix_A hu1) (pv 1) (pe_int) (fun _ _ => rfl))) (blkOk_by (own := [("time", 2), ("name", 3)]) (N := ["word", "run", "time", "name"]) (sc := defScope s__law_run_lines) (by decide +kernel)) (fun _ _ _ _ _ => pg_tup rfl (pgs_cons (pg_name (i := 2) sc__law_run_lines.nd rfl (by first | exact .inl rfl | exact .inr rfl)) (pgs_cons (pg_name (i := 3) sc__law_run_lines.nd rfl (by first | exact .inl rfl | exact .inr rfl)) (pgs_nil)))) (fun _ _ _ _ _ => pts_nil) (fun _ _ _ _ _ => pe_op op_addA (pe_op op_addA (pe_op op_addA (pe_str) (pe_callTy call_strA (by rfl) T.b_str (by decide +kernel) (pa_cons (pv 2) (pa_nil)))) (pe_str)) (pv 3)))))
/-! _law_machine_is -/
abbrev s__law_machine_is : Stmt := (top 64)
theorem sc__law_machine_is : FnScope ["paper", "width", "once", "heads", "source", "frame", "target_v"] ["paper", "width", "once"] (defScope s__law_machine_is) := ⟨rfl, rfl, rfl, by decide +kernel, rfl, by decide +kernel, by decide +kernel⟩
def t__law_machine_is (K : PySem.W.Frag) (w : World) (E : XK) : TS :=
    tSeq (tIfS (tOr (tNot (tB (tCB (rIsi K) (tCons (tVar 0) (tCons (tC (.ref (He.ga K "Machine"))) (tNil)))))) (tOr (tTest (tOp (rNeA K) (tCB (rReprA K) (tCons (tFld K (tVar 0) "width") (tNil))) (tCB (rReprA K) (tCons (tVar 1) (tNil))))) (tTest (tOp (rNeA K) (tCB (rReprA K) (tCons (tFld K (tVar 0) "total") (tNil))) (tCB (rReprA K) (tCons (tCB (rLenA K) (tCons (tVar 2) (tNil))) (tNil))))))) (tRet (tC (.bl false))) (tNext))
    (tSeq (tAsg (tLst (tNil)) (gName 3))
    (tSeq (tFor (iAny K (tVar 2)) (gTup K 3 (gCons (gName 4) (gCons (gName 5) (gCons (gName 6) (gNil))))) (tIfS (tAnd (tTest (tOp (rEqA K) (tCB (rLenA K) (tCons (tVar 4) (tNil))) (tVar 1))) (tTest (tOp (rNotInA K) (tTup (tCons (tVar 4) (tCons (tVar 5) (tNil)))) (tVar 3)))) (tDrop (tBM K "list" rAppend (tVar 3) (tCons (tTup (tCons (tVar 4) (tCons (tVar 5) (tNil)))) (tNil)))) (tNext)))
    (tRet (tAndV (tOp (rEqA K) (tCB (rReprA K) (tCons (tMeth (He.ga K "Machine") "rows" (toSp K (S_Machine_rows K)) [] E0 (tVar 0) tNil) (tNil))) (tCB (rReprA K) (tCons (tVar 2) (tNil)))) (tOp (rEqA K) (tCB (rReprA K) (tCons (tMeth (He.ga K "Machine") "heads" (toSp K (S_Machine_heads K)) [] E0 (tVar 0) tNil) (tNil))) (tCB (rReprA K) (tCons (tVar 3) (tNil))))))))
theorem der__law_machine_is (T : Txt K mg) (c_Machine_rows : MtB P w K mg base 2 "Machine" "rows" (S_Machine_rows K)) (c_Machine_heads : MtB P w K mg base 1 "Machine" "heads" (S_Machine_heads K)) {f : Addr} (cdv : Value) (A : Around) (outer : List Env) (s : Shared) (H : Hp) (E : XK) (hr : Room 2 (A.deeper (envOfC "_law_machine_is" (defScope s__law_machine_is) s.heap.objs.size f cdv))) (hg : (A.deeper (envOfC "_law_machine_is" (defScope s__law_machine_is) s.heap.objs.size f cdv)).guards = some []) :
    PSs (cxOf (L2.CX P w) P w K mg base ["paper", "width", "once", "heads", "source", "frame", "target_v"] "_law_machine_is" (defScope s__law_machine_is) f cdv A outer s H E) (defBody s__law_machine_is) (t__law_machine_is K w E) := by
  have tk := tk_of (P := P) (w := w) (K := K) (mg := mg) (base := base) (N := ["paper", "width", "once", "heads", "source", "frame", "target_v"]) (qual := "_law_machine_is") (scope := defScope s__law_machine_is) (f := f) (cdv := cdv) (A := A) (outer := outer) (s := s) (H := H) (E := E)
  have po := po_of (P := P) (w := w) (K := K) (mg := mg) (base := base) (N := ["paper", "width", "once", "heads", "source", "frame", "target_v"]) (qual := "_law_machine_is") (scope := defScope s__law_machine_is) (f := f) (cdv := cdv) (A := A) (outer := outer) (s := s) (H := H) (E := E)
  have hu1 := hu1_of hr
  have hu64 := hu64_of hr
  have hu65 := hu65_of hr
  unfold t__law_machine_is
  exact pss_cons (ps_if (PW.pt (pw_or (pt_not (pt_val (pe_callB call_isi (by rfl) T.b_isinstance (by decide +kernel) (pa_cons (pv 0) (pa_cons (pe_gc (by rfl) T.g_Machine) (pa_nil)))))) (pw_or (pt_cmpR (op_neA hu64) (pe_callB (call_reprA hg hu65) (by rfl) T.b_repr (by decide +kernel) (pa_cons (pe_fld (pv 0) rfl) (pa_nil))) (pe_callB (call_reprA hg hu65) (by rfl) T.b_repr (by decide +kernel) (pa_cons (pv 1) (pa_nil))) (nomark _)) (pw_or1 (pt_cmpR (op_neA hu64) (pe_callB (call_reprA hg hu65) (by rfl) T.b_repr (by decide +kernel) (pa_cons (pe_fld (pv 0) rfl) (pa_nil))) (pe_callB (call_reprA hg hu65) (by rfl) T.b_repr (by decide +kernel) (pa_cons (pe_callB call_lenA (by rfl) T.b_len (by decide +kernel) (pa_cons (pv 2) (pa_nil))) (pa_nil))) (nomark _)))))) (pss_one (ps_ret (pe_bl))) (pss_nil))
    (pss_cons (ps_set (i := 3) sc__law_machine_is.nd rfl (by first | exact .inl rfl | exact .inr rfl) (pe_lst (pa_nil)))
    (pss_cons (ps_for po rfl (pi_any (pv 2)) (pg_tup rfl (pgs_cons (pg_name (i := 4) sc__law_machine_is.nd rfl (by first | exact .inl rfl | exact .inr rfl)) (pgs_cons (pg_name (i := 5) sc__law_machine_is.nd rfl (by first | exact .inl rfl | exact .inr rfl)) (pgs_cons (pg_name (i := 6) sc__law_machine_is.nd rfl (by first | exact .inl rfl | exact .inr rfl)) (pgs_nil))))) (pss_one (ps_if (PW.pt (pw_and (pt_cmpR (op_eqA hu64) (pe_callB call_lenA (by rfl) T.b_len (by decide +kernel) (pa_cons (pv 4) (pa_nil))) (pv 1) (nomark _)) (pw_and1 (pt_cmpR (op_notInA hu65) (pe_tup (pa_cons (pv 4) (pa_cons (pv 5) (pa_nil)))) (pv 3) (by rfl))))) (pss_one (ps_expr (pe_bm PySem.F.plainAttrs_list PySem.F.slot_list_append PySem.F.type_list_append mt_append (pv 3) (pa_cons (pe_tup (pa_cons (pv 4) (pa_cons (pv 5) (pa_nil)))) (pa_nil))))) (pss_nil))))
    (pss_one (ps_ret (pe_and (pe_cmpR (op_eqA hu64) (pe_callB (call_reprA hg hu65) (by rfl) T.b_repr (by decide +kernel) (pa_cons (pe_mthD0 c_Machine_rows hr (by decide) (pv 0) rfl) (pa_nil))) (pe_callB (call_reprA hg hu65) (by rfl) T.b_repr (by decide +kernel) (pa_cons (pv 2) (pa_nil))) (nomark _)) (pe_one (pe_cmpR (op_eqA hu64) (pe_callB (call_reprA hg hu65) (by rfl) T.b_repr (by decide +kernel) (pa_cons (pe_mthD0 c_Machine_heads hr (by decide) (pv 0) rfl) (pa_nil))) (pe_callB (call_reprA hg hu65) (by rfl) T.b_repr (by decide +kernel) (pa_cons (pv 3) (pa_nil))) (nomark _))))))))
/-! _law_heights_is -/
abbrev s__law_heights_is : Stmt := (top 65)
theorem sc__law_heights_is : FnScope ["paper", "width", "once", "pairs"] ["paper", "width", "once", "pairs"] (defScope s__law_heights_is) := ⟨rfl, rfl, rfl, by decide +kernel, rfl, by decide +kernel, by decide +kernel⟩
def t__law_heights_is (K : PySem.W.Frag) (w : World) (E : XK) : TS :=
    tSeq (tIfS (tOr (tNot (tB (tCB (rIsi K) (tCons (tVar 0) (tCons (tC (.ref (He.ga K "Heights"))) (tNil)))))) (tNot (tB (tCall (toSp K (S__law_machine_is K)) [] E0 (tCons (tFld K (tVar 0) "machine") (tCons (tVar 1) (tCons (tVar 2) (tNil)))))))) (tRet (tC (.bl false))) (tNext))
    (tRet (tOp (rEqA K) (tCB (rReprA K) (tCons (tFld K (tVar 0) "beneath") (tNil))) (tCB (rReprA K) (tCons (tVar 3) (tNil)))))
theorem der__law_heights_is (T : Txt K mg) (c__law_machine_is : FnG P w K mg base 3 "_law_machine_is" (S__law_machine_is K)) {f : Addr} (cdv : Value) (A : Around) (outer : List Env) (s : Shared) (H : Hp) (E : XK) (hr : Room 3 (A.deeper (envOfC "_law_heights_is" (defScope s__law_heights_is) s.heap.objs.size f cdv))) (hg : (A.deeper (envOfC "_law_heights_is" (defScope s__law_heights_is) s.heap.objs.size f cdv)).guards = some []) :
    PSs (cxOf (L2.CX P w) P w K mg base ["paper", "width", "once", "pairs"] "_law_heights_is" (defScope s__law_heights_is) f cdv A outer s H E) (defBody s__law_heights_is) (t__law_heights_is K w E) := by
  have tk := tk_of (P := P) (w := w) (K := K) (mg := mg) (base := base) (N := ["paper", "width", "once", "pairs"]) (qual := "_law_heights_is") (scope := defScope s__law_heights_is) (f := f) (cdv := cdv) (A := A) (outer := outer) (s := s) (H := H) (E := E)
  have po := po_of (P := P) (w := w) (K := K) (mg := mg) (base := base) (N := ["paper", "width", "once", "pairs"]) (qual := "_law_heights_is") (scope := defScope s__law_heights_is) (f := f) (cdv := cdv) (A := A) (outer := outer) (s := s) (H := H) (E := E)
  have hu1 := hu1_of hr
  have hu64 := hu64_of hr
  have hu65 := hu65_of hr
  unfold t__law_heights_is
  exact pss_cons (ps_if (PW.pt (pw_or (pt_not (pt_val (pe_callB call_isi (by rfl) T.b_isinstance (by decide +kernel) (pa_cons (pv 0) (pa_cons (pe_gc (by rfl) T.g_Heights) (pa_nil)))))) (pw_or1 (pt_not (pt_val (pe_fnG c__law_machine_is hr (by decide) hg (by rfl) (pa_cons (pe_fld (pv 0) rfl) (pa_cons (pv 1) (pa_cons (pv 2) (pa_nil)))))))))) (pss_one (ps_ret (pe_bl))) (pss_nil))
    (pss_one (ps_ret (pe_cmpR (op_eqA hu64) (pe_callB (call_reprA hg hu65) (by rfl) T.b_repr (by decide +kernel) (pa_cons (pe_fld (pv 0) rfl) (pa_nil))) (pe_callB (call_reprA hg hu65) (by rfl) T.b_repr (by decide +kernel) (pa_cons (pv 3) (pa_nil))) (nomark _))))
/-! _law_run_is -/
abbrev s__law_run_is : Stmt := (top 66)
theorem sc__law_run_is : FnScope ["paper", "run"] ["paper", "run"] (defScope s__law_run_is) := ⟨rfl, rfl, rfl, by decide +kernel, rfl, by decide +kernel, by decide +kernel⟩
def t__law_run_is (K : PySem.W.Frag) (w : World) (E : XK) : TS :=
    tSeq (tIfS (tNot (tB (tCB (rIsi K) (tCons (tVar 0) (tCons (tC (.ref (He.ga K "Run"))) (tNil)))))) (tRet (tC (.bl false))) (tNext))
    (tRet (tAndV (tOp (rEqA K) (tCB (rReprA K) (tCons (tFld K (tVar 0) "moments") (tNil))) (tCB (rReprA K) (tCons (tCB (rTupleA K) (tCons (tOp (rIxA K w) (tVar 1) (tC (.int 0))) (tNil))) (tNil)))) (tOp (rEqA K) (tCB (rReprA K) (tCons (tFld K (tVar 0) "steps") (tNil))) (tCB (rReprA K) (tCons (tOp (rIxA K w) (tVar 1) (tC (.int 1))) (tNil))))))
theorem der__law_run_is (T : Txt K mg) {f : Addr} (cdv : Value) (A : Around) (outer : List Env) (s : Shared) (H : Hp) (E : XK) (hr : Room 0 (A.deeper (envOfC "_law_run_is" (defScope s__law_run_is) s.heap.objs.size f cdv))) (hg : (A.deeper (envOfC "_law_run_is" (defScope s__law_run_is) s.heap.objs.size f cdv)).guards = some []) :
    PSs (cxOf (L2.CX P w) P w K mg base ["paper", "run"] "_law_run_is" (defScope s__law_run_is) f cdv A outer s H E) (defBody s__law_run_is) (t__law_run_is K w E) := by
  have tk := tk_of (P := P) (w := w) (K := K) (mg := mg) (base := base) (N := ["paper", "run"]) (qual := "_law_run_is") (scope := defScope s__law_run_is) (f := f) (cdv := cdv) (A := A) (outer := outer) (s := s) (H := H) (E := E)
  have po := po_of (P := P) (w := w) (K := K) (mg := mg) (base := base) (N := ["paper", "run"]) (qual := "_law_run_is") (scope := defScope s__law_run_is) (f := f) (cdv := cdv) (A := A) (outer := outer) (s := s) (H := H) (E := E)
  have hu1 := hu1_of hr
  have hu64 := hu64_of hr
  have hu65 := hu65_of hr
  unfold t__law_run_is
  exact pss_cons (ps_if (pt_not (pt_val (pe_callB call_isi (by rfl) T.b_isinstance (by decide +kernel) (pa_cons (pv 0) (pa_cons (pe_gc (by rfl) T.g_Run) (pa_nil)))))) (pss_one (ps_ret (pe_bl))) (pss_nil))
    (pss_one (ps_ret (pe_and (pe_cmpR (op_eqA hu64) (pe_callB (call_reprA hg hu65) (by rfl) T.b_repr (by decide +kernel) (pa_cons (pe_fld (pv 0) rfl) (pa_nil))) (pe_callB (call_reprA hg hu65) (by rfl) T.b_repr (by decide +kernel) (pa_cons (pe_callTy call_tupleA (by rfl) T.b_tuple (by decide +kernel) (pa_cons (pe_ix (ix_A hu1) (pv 1) (pe_int) (fun _ _ => rfl)) (pa_nil))) (pa_nil))) (nomark _)) (pe_one (pe_cmpR (op_eqA hu64) (pe_callB (call_reprA hg hu65) (by rfl) T.b_repr (by decide +kernel) (pa_cons (pe_fld (pv 0) rfl) (pa_nil))) (pe_callB (call_reprA hg hu65) (by rfl) T.b_repr (by decide +kernel) (pa_cons (pe_ix (ix_A hu1) (pv 1) (pe_int) (fun _ _ => rfl)) (pa_nil))) (nomark _))))))
/-! _law_ring_is -/
abbrev s__law_ring_is : Stmt := (top 67)
theorem sc__law_ring_is : FnScope ["paper", "lead", "loop"] ["paper", "lead", "loop"] (defScope s__law_ring_is) := ⟨rfl, rfl, rfl, by decide +kernel, rfl, by decide +kernel, by decide +kernel⟩
def t__law_ring_is (K : PySem.W.Frag) (w : World) (E : XK) : TS :=
    tRet (tAndV (tCB (rIsi K) (tCons (tVar 0) (tCons (tC (.ref (He.ga K "Ring"))) (tNil)))) (tAndV (tCall (toSp K (S__law_run_is K)) [] E0 (tCons (tFld K (tVar 0) "lead") (tCons (tVar 1) (tNil)))) (tCall (toSp K (S__law_run_is K)) [] E0 (tCons (tFld K (tVar 0) "loop") (tCons (tVar 2) (tNil))))))
theorem der__law_ring_is (T : Txt K mg) (c__law_run_is : FnG P w K mg base 1 "_law_run_is" (S__law_run_is K)) {f : Addr} (cdv : Value) (A : Around) (outer : List Env) (s : Shared) (H : Hp) (E : XK) (hr : Room 1 (A.deeper (envOfC "_law_ring_is" (defScope s__law_ring_is) s.heap.objs.size f cdv))) (hg : (A.deeper (envOfC "_law_ring_is" (defScope s__law_ring_is) s.heap.objs.size f cdv)).guards = some []) :
    PSs (cxOf (L2.CX P w) P w K mg base ["paper", "lead", "loop"] "_law_ring_is" (defScope s__law_ring_is) f cdv A outer s H E) (defBody s__law_ring_is) (t__law_ring_is K w E) := by
  have tk := tk_of (P := P) (w := w) (K := K) (mg := mg) (base := base) (N := ["paper", "lead", "loop"]) (qual := "_law_ring_is") (scope := defScope s__law_ring_is) (f := f) (cdv := cdv) (A := A) (outer := outer) (s := s) (H := H) (E := E)
  have po := po_of (P := P) (w := w) (K := K) (mg := mg) (base := base) (N := ["paper", "lead", "loop"]) (qual := "_law_ring_is") (scope := defScope s__law_ring_is) (f := f) (cdv := cdv) (A := A) (outer := outer) (s := s) (H := H) (E := E)
  have hu1 := hu1_of hr
  have hu64 := hu64_of hr
  have hu65 := hu65_of hr
  unfold t__law_ring_is
  exact pss_one (ps_ret (pe_and (pe_callB call_isi (by rfl) T.b_isinstance (by decide +kernel) (pa_cons (pv 0) (pa_cons (pe_gc (by rfl) T.g_Ring) (pa_nil)))) (pe_and (pe_fnG c__law_run_is hr (by decide) hg (by rfl) (pa_cons (pe_fld (pv 0) rfl) (pa_cons (pv 1) (pa_nil)))) (pe_one (pe_fnG c__law_run_is hr (by decide) hg (by rfl) (pa_cons (pe_fld (pv 0) rfl) (pa_cons (pv 2) (pa_nil))))))))
/-! _law_made -/
abbrev s__law_made : Stmt := (top 68)
theorem sc__law_made : FnScope ["width", "ties", "once", "pairs", "runs", "texts", "handed", "machine", "heights", "run", "ring"] ["width", "ties", "once", "pairs", "runs", "texts"] (defScope s__law_made) := ⟨rfl, rfl, rfl, by decide +kernel, rfl, by decide +kernel, by decide +kernel⟩
def t__law_made (K : PySem.W.Frag) (w : World) (E : XK) : TS :=
    tSeq (tAsg (tCB (rListA K) (tCons (tVar 1) (tNil))) (gName 6))
    (tSeq (tAsg (tFrz (tMake (He.ga K "Machine") (toSp K (S_Machine_init K)) [] E0 (tCons (tVar 0) (tCons (tVar 6) (tNil))))) (gName 7))
    (tSeq (tDrop (tBM K "list" rAppend (tVar 6) (tCons (tTup (tCons (tTup (tCons (tC (.int 7)) (tCons (tC (.int 7)) (tNil)))) (tCons (tTup (tCons (tC (.int 7)) (tCons (tC (.int 7)) (tCons (tC (.int 7)) (tCons (tC (.int 7)) (tNil)))))) (tCons (tTup (tNil)) (tNil))))) (tNil))))
    (tSeq (tIfS (tOr (tNot (tB (tCall (toSp K (S__law_machine_is K)) [] E0 (tCons (tVar 7) (tCons (tVar 0) (tCons (tVar 2) (tNil))))))) (tTest (tOp (rNeA K) (tCB (rReprA K) (tCons (tCall (toSp K (S_print_paper K)) [] E0 (tCons (tVar 7) (tNil))) (tNil))) (tCB (rReprA K) (tCons (tOp (rIxA K w) (tVar 5) (tC (.int 0))) (tNil)))))) (tRet (tC (.bl false))) (tNext))
    (tSeq (tAsg (tMake (He.ga K "Heights") (toSp K (S_Heights_init K)) [] E0 (tCons (tFrz (tMake (He.ga K "Machine") (toSp K (S_Machine_init K)) [] E0 (tCons (tVar 0) (tCons (tCB (rListA K) (tCons (tVar 1) (tNil))) (tNil))))) (tCons (tCB (rListA K) (tCons (tVar 3) (tNil))) (tNil)))) (gName 8))
    (tSeq (tIfS (tOr (tNot (tB (tCall (toSp K (S__law_heights_is K)) [] E0 (tCons (tVar 8) (tCons (tVar 0) (tCons (tVar 2) (tCons (tVar 3) (tNil)))))))) (tTest (tOp (rNeA K) (tCB (rReprA K) (tCons (tCall (toSp K (S_print_paper K)) [] E0 (tCons (tVar 8) (tNil))) (tNil))) (tCB (rReprA K) (tCons (tOp (rIxA K w) (tVar 5) (tC (.int 1))) (tNil)))))) (tRet (tC (.bl false))) (tNext))
    (tSeq (tAsg (tMake (He.ga K "Run") (toSp K (S_Run_init K)) [] E0 (tCons (tCB (rListA K) (tCons (tOp (rIxA K w) (tOp (rIxA K w) (tVar 4) (tC (.int 0))) (tC (.int 0))) (tNil))) (tCons (tOp (rIxA K w) (tOp (rIxA K w) (tVar 4) (tC (.int 0))) (tC (.int 1))) (tNil)))) (gName 9))
    (tSeq (tIfS (tOr (tNot (tB (tCall (toSp K (S__law_run_is K)) [] E0 (tCons (tVar 9) (tCons (tOp (rIxA K w) (tVar 4) (tC (.int 0))) (tNil)))))) (tTest (tOp (rNeA K) (tCB (rReprA K) (tCons (tCall (toSp K (S_print_paper K)) [] E0 (tCons (tVar 9) (tNil))) (tNil))) (tCB (rReprA K) (tCons (tOp (rIxA K w) (tVar 5) (tC (.int 2))) (tNil)))))) (tRet (tC (.bl false))) (tNext))
    (tSeq (tAsg (tMake (He.ga K "Ring") (toSp K (S_Ring_init K)) [] E0 (tCons (tMake (He.ga K "Run") (toSp K (S_Run_init K)) [] E0 (tCons (tCB (rListA K) (tCons (tOp (rIxA K w) (tOp (rIxA K w) (tVar 4) (tC (.int 1))) (tC (.int 0))) (tNil))) (tCons (tOp (rIxA K w) (tOp (rIxA K w) (tVar 4) (tC (.int 1))) (tC (.int 1))) (tNil)))) (tCons (tMake (He.ga K "Run") (toSp K (S_Run_init K)) [] E0 (tCons (tCB (rListA K) (tCons (tOp (rIxA K w) (tOp (rIxA K w) (tVar 4) (tC (.int 2))) (tC (.int 0))) (tNil))) (tCons (tOp (rIxA K w) (tOp (rIxA K w) (tVar 4) (tC (.int 2))) (tC (.int 1))) (tNil)))) (tNil)))) (gName 10))
    (tRet (tAndV (tCall (toSp K (S__law_ring_is K)) [] E0 (tCons (tVar 10) (tCons (tOp (rIxA K w) (tVar 4) (tC (.int 1))) (tCons (tOp (rIxA K w) (tVar 4) (tC (.int 2))) (tNil))))) (tOp (rEqA K) (tCB (rReprA K) (tCons (tCall (toSp K (S_print_paper K)) [] E0 (tCons (tVar 10) (tNil))) (tNil))) (tCB (rReprA K) (tCons (tOp (rIxA K w) (tVar 5) (tC (.int 3))) (tNil))))))))))))))
theorem der__law_made (T : Txt K mg) (m_Machine : MkB P w K mg base 2 "Machine" (S_Machine_init K)) (c__law_machine_is : FnG P w K mg base 3 "_law_machine_is" (S__law_machine_is K)) (c_print_paper : FnB P w K mg base 4 "print_paper" (S_print_paper K)) (m_Heights : MkB P w K mg base 1 "Heights" (S_Heights_init K)) (c__law_heights_is : FnG P w K mg base 4 "_law_heights_is" (S__law_heights_is K)) (m_Run : MkB P w K mg base 1 "Run" (S_Run_init K)) (c__law_run_is : FnG P w K mg base 1 "_law_run_is" (S__law_run_is K)) (m_Ring : MkB P w K mg base 1 "Ring" (S_Ring_init K)) (c__law_ring_is : FnG P w K mg base 2 "_law_ring_is" (S__law_ring_is K)) {f : Addr} (cdv : Value) (A : Around) (outer : List Env) (s : Shared) (H : Hp) (E : XK) (hr : Room 4 (A.deeper (envOfC "_law_made" (defScope s__law_made) s.heap.objs.size f cdv))) (hg : (A.deeper (envOfC "_law_made" (defScope s__law_made) s.heap.objs.size f cdv)).guards = some []) :
    PSs (cxOf (L2.CX P w) P w K mg base ["width", "ties", "once", "pairs", "runs", "texts", "handed", "machine", "heights", "run", "ring"] "_law_made" (defScope s__law_made) f cdv A outer s H E) (defBody s__law_made) (t__law_made K w E) := by
  have tk := tk_of (P := P) (w := w) (K := K) (mg := mg) (base := base) (N := ["width", "ties", "once", "pairs", "runs", "texts", "handed", "machine", "heights", "run", "ring"]) (qual := "_law_made") (scope := defScope s__law_made) (f := f) (cdv := cdv) (A := A) (outer := outer) (s := s) (H := H) (E := E)
  have po := po_of (P := P) (w := w) (K := K) (mg := mg) (base := base) (N := ["width", "ties", "once", "pairs", "runs", "texts", "handed", "machine", "heights", "run", "ring"]) (qual := "_law_made") (scope := defScope s__law_made) (f := f) (cdv := cdv) (A := A) (outer := outer) (s := s) (H := H) (E := E)
  have hu1 := hu1_of hr
  have hu64 := hu64_of hr
  have hu65 := hu65_of hr
  unfold t__law_made
  exact pss_cons (ps_set (i := 6) sc__law_made.nd rfl (by first | exact .inl rfl | exact .inr rfl) (pe_callTy call_listA (by rfl) T.b_list (by decide +kernel) (pa_cons (pv 1) (pa_nil))))
    (pss_cons (ps_set (i := 7) sc__law_made.nd rfl (by first | exact .inl rfl | exact .inr rfl) (pe_frz (pe_mkD m_Machine hr (by decide) (by rfl) (pa_cons (pv 0) (pa_cons (pv 6) (pa_nil))))))
    (pss_cons (ps_expr (pe_bm PySem.F.plainAttrs_list PySem.F.slot_list_append PySem.F.type_list_append mt_append (pv 6) (pa_cons (pe_tup (pa_cons (pe_tup (pa_cons (pe_int) (pa_cons (pe_int) (pa_nil)))) (pa_cons (pe_tup (pa_cons (pe_int) (pa_cons (pe_int) (pa_cons (pe_int) (pa_cons (pe_int) (pa_nil)))))) (pa_cons (pe_tup (pa_nil)) (pa_nil))))) (pa_nil))))
    (pss_cons (ps_if (PW.pt (pw_or (pt_not (pt_val (pe_fnG c__law_machine_is hr (by decide) hg (by rfl) (pa_cons (pv 7) (pa_cons (pv 0) (pa_cons (pv 2) (pa_nil))))))) (pw_or1 (pt_cmpR (op_neA hu64) (pe_callB (call_reprA hg hu65) (by rfl) T.b_repr (by decide +kernel) (pa_cons (pe_fn c_print_paper hr (by decide) (by rfl) (pa_cons (pv 7) (pa_nil))) (pa_nil))) (pe_callB (call_reprA hg hu65) (by rfl) T.b_repr (by decide +kernel) (pa_cons (pe_ix (ix_A hu1) (pv 5) (pe_int) (fun _ _ => rfl)) (pa_nil))) (nomark _))))) (pss_one (ps_ret (pe_bl))) (pss_nil))
    (pss_cons (ps_set (i := 8) sc__law_made.nd rfl (by first | exact .inl rfl | exact .inr rfl) (pe_mkD m_Heights hr (by decide) (by rfl) (pa_cons (pe_frz (pe_mkD m_Machine hr (by decide) (by rfl) (pa_cons (pv 0) (pa_cons (pe_callTy call_listA (by rfl) T.b_list (by decide +kernel) (pa_cons (pv 1) (pa_nil))) (pa_nil))))) (pa_cons (pe_callTy call_listA (by rfl) T.b_list (by decide +kernel) (pa_cons (pv 3) (pa_nil))) (pa_nil)))))
    (pss_cons (ps_if (PW.pt (pw_or (pt_not (pt_val (pe_fnG c__law_heights_is hr (by decide) hg (by rfl) (pa_cons (pv 8) (pa_cons (pv 0) (pa_cons (pv 2) (pa_cons (pv 3) (pa_nil)))))))) (pw_or1 (pt_cmpR (op_neA hu64) (pe_callB (call_reprA hg hu65) (by rfl) T.b_repr (by decide +kernel) (pa_cons (pe_fn c_print_paper hr (by decide) (by rfl) (pa_cons (pv 8) (pa_nil))) (pa_nil))) (pe_callB (call_reprA hg hu65) (by rfl) T.b_repr (by decide +kernel) (pa_cons (pe_ix (ix_A hu1) (pv 5) (pe_int) (fun _ _ => rfl)) (pa_nil))) (nomark _))))) (pss_one (ps_ret (pe_bl))) (pss_nil))
    (pss_cons (ps_set (i := 9) sc__law_made.nd rfl (by first | exact .inl rfl | exact .inr rfl) (pe_mkD m_Run hr (by decide) (by rfl) (pa_cons (pe_callTy call_listA (by rfl) T.b_list (by decide +kernel) (pa_cons (pe_ix (ix_A hu1) (pe_ix (ix_A hu1) (pv 4) (pe_int) (fun _ _ => rfl)) (pe_int) (fun _ _ => rfl)) (pa_nil))) (pa_cons (pe_ix (ix_A hu1) (pe_ix (ix_A hu1) (pv 4) (pe_int) (fun _ _ => rfl)) (pe_int) (fun _ _ => rfl)) (pa_nil)))))
    (pss_cons (ps_if (PW.pt (pw_or (pt_not (pt_val (pe_fnG c__law_run_is hr (by decide) hg (by rfl) (pa_cons (pv 9) (pa_cons (pe_ix (ix_A hu1) (pv 4) (pe_int) (fun _ _ => rfl)) (pa_nil)))))) (pw_or1 (pt_cmpR (op_neA hu64) (pe_callB (call_reprA hg hu65) (by rfl) T.b_repr (by decide +kernel) (pa_cons (pe_fn c_print_paper hr (by decide) (by rfl) (pa_cons (pv 9) (pa_nil))) (pa_nil))) (pe_callB (call_reprA hg hu65) (by rfl) T.b_repr (by decide +kernel) (pa_cons (pe_ix (ix_A hu1) (pv 5) (pe_int) (fun _ _ => rfl)) (pa_nil))) (nomark _))))) (pss_one (ps_ret (pe_bl))) (pss_nil))
    (pss_cons (ps_set (i := 10) sc__law_made.nd rfl (by first | exact .inl rfl | exact .inr rfl) (pe_mkD m_Ring hr (by decide) (by rfl) (pa_cons (pe_mkD m_Run hr (by decide) (by rfl) (pa_cons (pe_callTy call_listA (by rfl) T.b_list (by decide +kernel) (pa_cons (pe_ix (ix_A hu1) (pe_ix (ix_A hu1) (pv 4) (pe_int) (fun _ _ => rfl)) (pe_int) (fun _ _ => rfl)) (pa_nil))) (pa_cons (pe_ix (ix_A hu1) (pe_ix (ix_A hu1) (pv 4) (pe_int) (fun _ _ => rfl)) (pe_int) (fun _ _ => rfl)) (pa_nil)))) (pa_cons (pe_mkD m_Run hr (by decide) (by rfl) (pa_cons (pe_callTy call_listA (by rfl) T.b_list (by decide +kernel) (pa_cons (pe_ix (ix_A hu1) (pe_ix (ix_A hu1) (pv 4) (pe_int) (fun _ _ => rfl)) (pe_int) (fun _ _ => rfl)) (pa_nil))) (pa_cons (pe_ix (ix_A hu1) (pe_ix (ix_A hu1) (pv 4) (pe_int) (fun _ _ => rfl)) (pe_int) (fun _ _ => rfl)) (pa_nil)))) (pa_nil)))))
    (pss_one (ps_ret (pe_and (pe_fnG c__law_ring_is hr (by decide) hg (by rfl) (pa_cons (pv 10) (pa_cons (pe_ix (ix_A hu1) (pv 4) (pe_int) (fun _ _ => rfl)) (pa_cons (pe_ix (ix_A hu1) (pv 4) (pe_int) (fun _ _ => rfl)) (pa_nil))))) (pe_one (pe_cmpR (op_eqA hu64) (pe_callB (call_reprA hg hu65) (by rfl) T.b_repr (by decide +kernel) (pa_cons (pe_fn c_print_paper hr (by decide) (by rfl) (pa_cons (pv 10) (pa_nil))) (pa_nil))) (pe_callB (call_reprA hg hu65) (by rfl) T.b_repr (by decide +kernel) (pa_cons (pe_ix (ix_A hu1) (pv 5) (pe_int) (fun _ _ => rfl)) (pa_nil))) (nomark _))))))))))))))
/-! law -/
abbrev s_law : Stmt := (top 69)
theorem sc_law : FnScope ["script", "rows", "width", "ties", "states", "pairs", "k", "used", "names", "runs", "once", "head", "beneath", "ring", "texts", "first", "second", "third", "fourth", "told", "state", "number"] ["script"] (defScope s_law) := ⟨rfl, rfl, rfl, by decide +kernel, rfl, by decide +kernel, by decide +kernel⟩
def t_law (K : PySem.W.Frag) (w : World) (E : XK) : TS :=
    tSeq (tAsg (tCall (toSp K (S__law_tape K)) [] E0 (tCons (tVar 0) (tNil))) (gName 1))
    (tSeq (tAsg (tCall (toSp K (S__law_machine K)) [] E0 (tCons (tVar 1) (tNil))) (gUnl K 3 (gCons (gName 2) (gCons (gName 3) (gCons (gName 4) (gNil))))))
    (tSeq (tAsg (tLst (tNil)) (gName 5))
    (tSeq (tFor (iRng1 (tCons (tOp (rAddA K) (tC (.int 1)) (tCall (toSp K (S__law_draw K)) [] E0 (tCons (tVar 1) (tCons (tC (.int 6)) (tNil))))) (tNil))) (gName 6) (tSeq (tAsg (tOp (rIxA K w) (tVar 4) (tCall (toSp K (S__law_draw K)) [] E0 (tCons (tVar 1) (tCons (tCB (rLenA K) (tCons (tVar 4) (tNil))) (tNil))))) (gName 20))
    (tDrop (tBM K "list" rAppend (tVar 5) (tCons (tTup (tCons (tVar 20) (tCons (tCall (toSp K (S__law_number K)) [] E0 (tCons (tVar 1) (tNil))) (tNil)))) (tNil))))))
    (tSeq (tAsg (tLst (tNil)) (gName 7))
    (tSeq (tAsg (tLc (iRng1 (tCons (tC (.int 3)) (tNil))) (gName 6) (tYes) (tCall (toSp K (S__law_name K)) [] E0 (tCons (tVar 1) (tCons (tVar 7) (tNil)))) [6]) (gName 8))
    (tSeq (tAsg (tLc (iRng1 (tCons (tC (.int 3)) (tNil))) (gName 6) (tYes) (tCall (toSp K (S__law_run K)) [] E0 (tCons (tVar 1) (tCons (tVar 8) (tNil)))) [6]) (gName 9))
    (tSeq (tAsg (tCall (toSp K (S__law_once K)) [] E0 (tCons (tVar 3) (tNil))) (gName 10))
    (tSeq (tAsg (tLst (tCons (tOp (rAddA K) (tC (.str "machine ")) (tCB (rStrA) (tCons (tVar 2) (tNil)))) (tNil))) (gName 11))
    (tSeq (tAsg (tLc (iAny K (tVar 5)) (gTup K 2 (gCons (gName 20) (gCons (gName 21) (gNil)))) (tYes) (tOp (rAddA K) (tOp (rAddA K) (tOp (rAddA K) (tC (.str "beneath ")) (tCall (toSp K (S__law_part K)) [] E0 (tCons (tVar 20) (tNil)))) (tC (.str " "))) (tCB (rStrA) (tCons (tVar 21) (tNil)))) [20, 21]) (gName 12))
    (tSeq (tAsg (tOp (rAddA K) (tCall (toSp K (S__law_run_lines K)) [] E0 (tCons (tC (.str "ring")) (tCons (tOp (rIxA K w) (tVar 9) (tC (.int 1))) (tNil)))) (tCall (toSp K (S__law_run_lines K)) [] E0 (tCons (tC (.str "loop")) (tCons (tOp (rIxA K w) (tVar 9) (tC (.int 2))) (tNil))))) (gName 13))
    (tSeq (tAsg (tLst (tCons (tM1 (rJoinA K) (tC (.str "\n")) (tOp (rAddA K) (tVar 11) (tCall (toSp K (S__law_tie_lines K)) [] E0 (tCons (tVar 10) (tNil))))) (tCons (tM1 (rJoinA K) (tC (.str "\n")) (tOp (rAddA K) (tOp (rAddA K) (tVar 11) (tCall (toSp K (S__law_tie_lines K)) [] E0 (tCons (tVar 10) (tNil)))) (tVar 12))) (tCons (tM1 (rJoinA K) (tC (.str "\n")) (tCall (toSp K (S__law_run_lines K)) [] E0 (tCons (tC (.str "run")) (tCons (tOp (rIxA K w) (tVar 9) (tC (.int 0))) (tNil))))) (tCons (tM1 (rJoinA K) (tC (.str "\n")) (tVar 13)) (tNil)))))) (gName 14))
    (tSeq (tAsg (tCall (toSp K (S_read_paper K)) [] E0 (tCons (tM1 (rJoinA K) (tC (.str "\n")) (tOp (rAddA K) (tVar 11) (tCall (toSp K (S__law_tie_lines K)) [] E0 (tCons (tVar 3) (tNil))))) (tNil))) (gName 15))
    (tSeq (tIfS (tOr (tB (tCB (rIsi K) (tCons (tVar 15) (tCons (tC (.ref (He.ga K "Heights"))) (tNil))))) (tNot (tB (tCall (toSp K (S__law_machine_is K)) [] E0 (tCons (tVar 15) (tCons (tVar 2) (tCons (tVar 10) (tNil)))))))) (tRet (tC (.bl false))) (tNext))
    (tSeq (tAsg (tCall (toSp K (S_read_paper K)) [] E0 (tCons (tM1 (rJoinA K) (tC (.str "\n")) (tOp (rAddA K) (tOp (rAddA K) (tVar 11) (tCall (toSp K (S__law_tie_lines K)) [] E0 (tCons (tVar 3) (tNil)))) (tVar 12))) (tNil))) (gName 16))
    (tSeq (tIfS (tNot (tB (tCall (toSp K (S__law_heights_is K)) [] E0 (tCons (tVar 16) (tCons (tVar 2) (tCons (tVar 10) (tCons (tVar 5) (tNil)))))))) (tRet (tC (.bl false))) (tNext))
    (tSeq (tAsg (tCall (toSp K (S_read_paper K)) [] E0 (tCons (tOp (rIxA K w) (tVar 14) (tC (.int 2))) (tNil))) (gName 17))
    (tSeq (tAsg (tCall (toSp K (S_read_paper K)) [] E0 (tCons (tOp (rIxA K w) (tVar 14) (tC (.int 3))) (tNil))) (gName 18))
    (tSeq (tIfS (tOr (tNot (tB (tCall (toSp K (S__law_run_is K)) [] E0 (tCons (tVar 17) (tCons (tOp (rIxA K w) (tVar 9) (tC (.int 0))) (tNil)))))) (tNot (tB (tCall (toSp K (S__law_ring_is K)) [] E0 (tCons (tVar 18) (tCons (tOp (rIxA K w) (tVar 9) (tC (.int 1))) (tCons (tOp (rIxA K w) (tVar 9) (tC (.int 2))) (tNil)))))))) (tRet (tC (.bl false))) (tNext))
    (tSeq (tAsg (tLst (tCons (tCall (toSp K (S_print_paper K)) [] E0 (tCons (tVar 15) (tNil))) (tCons (tCall (toSp K (S_print_paper K)) [] E0 (tCons (tVar 16) (tNil))) (tCons (tCall (toSp K (S_print_paper K)) [] E0 (tCons (tVar 17) (tNil))) (tCons (tCall (toSp K (S_print_paper K)) [] E0 (tCons (tVar 18) (tNil))) (tNil)))))) (gName 19))
    (tSeq (tIfS (tTest (tOp (rNeA K) (tCB (rReprA K) (tCons (tVar 19) (tNil))) (tCB (rReprA K) (tCons (tVar 14) (tNil))))) (tRet (tC (.bl false))) (tNext))
    (tSeq (tIfS (tNot (tB (tCall (toSp K (S__law_made K)) [] E0 (tCons (tVar 2) (tCons (tVar 3) (tCons (tVar 10) (tCons (tVar 5) (tCons (tVar 9) (tCons (tVar 14) (tNil)))))))))) (tRet (tC (.bl false))) (tNext))
    (tRet (tAndV (tCall (toSp K (S__law_machine_is K)) [] E0 (tCons (tVar 15) (tCons (tVar 2) (tCons (tVar 10) (tNil))))) (tOp (rEqA K) (tCB (rReprA K) (tCons (tCall (toSp K (S_print_paper K)) [] E0 (tCons (tVar 15) (tNil))) (tNil))) (tCB (rReprA K) (tCons (tOp (rIxA K w) (tVar 14) (tC (.int 0))) (tNil)))))))))))))))))))))))))))
theorem der_law (T : Txt K mg) (c__law_tape : FnB P w K mg base 1 "_law_tape" (S__law_tape K)) (c__law_machine : FnB P w K mg base 4 "_law_machine" (S__law_machine K)) (c__law_draw : FnB P w K mg base 1 "_law_draw" (S__law_draw K)) (c__law_number : FnB P w K mg base 2 "_law_number" (S__law_number K)) (c__law_name : FnB P w K mg base 2 "_law_name" (S__law_name K)) (c__law_run : FnB P w K mg base 3 "_law_run" (S__law_run K)) (c__law_once : FnB P w K mg base 1 "_law_once" (S__law_once K)) (c__law_part : FnB P w K mg base 1 "_law_part" (S__law_part K)) (c__law_run_lines : FnB P w K mg base 1 "_law_run_lines" (S__law_run_lines K)) (c__law_tie_lines : FnB P w K mg base 2 "_law_tie_lines" (S__law_tie_lines K)) (c_read_paper : FnB P w K mg base 7 "read_paper" (S_read_paper K)) (c__law_machine_is : FnG P w K mg base 3 "_law_machine_is" (S__law_machine_is K)) (c__law_heights_is : FnG P w K mg base 4 "_law_heights_is" (S__law_heights_is K)) (c__law_run_is : FnG P w K mg base 1 "_law_run_is" (S__law_run_is K)) (c__law_ring_is : FnG P w K mg base 2 "_law_ring_is" (S__law_ring_is K)) (c_print_paper : FnB P w K mg base 4 "print_paper" (S_print_paper K)) (c__law_made : FnG P w K mg base 5 "_law_made" (S__law_made K)) {f : Addr} (cdv : Value) (A : Around) (outer : List Env) (s : Shared) (H : Hp) (E : XK) (hr : Room 7 (A.deeper (envOfC "law" (defScope s_law) s.heap.objs.size f cdv))) (hg : (A.deeper (envOfC "law" (defScope s_law) s.heap.objs.size f cdv)).guards = some []) :
    PSs (cxOf (L2.CX P w) P w K mg base ["script", "rows", "width", "ties", "states", "pairs", "k", "used", "names", "runs", "once", "head", "beneath", "ring", "texts", "first", "second", "third", "fourth", "told", "state", "number"] "law" (defScope s_law) f cdv A outer s H E) (defBody s_law) (t_law K w E) := by
  have tk := tk_of (P := P) (w := w) (K := K) (mg := mg) (base := base) (N := ["script", "rows", "width", "ties", "states", "pairs", "k", "used", "names", "runs", "once", "head", "beneath", "ring", "texts", "first", "second", "third", "fourth", "told", "state", "number"]) (qual := "law") (scope := defScope s_law) (f := f) (cdv := cdv) (A := A) (outer := outer) (s := s) (H := H) (E := E)
  have po := po_of (P := P) (w := w) (K := K) (mg := mg) (base := base) (N := ["script", "rows", "width", "ties", "states", "pairs", "k", "used", "names", "runs", "once", "head", "beneath", "ring", "texts", "first", "second", "third", "fourth", "told", "state", "number"]) (qual := "law") (scope := defScope s_law) (f := f) (cdv := cdv) (A := A) (outer := outer) (s := s) (H := H) (E := E)
  have hu1 := hu1_of hr
  have hu64 := hu64_of hr
  have hu65 := hu65_of hr
  unfold t_law
  exact pss_cons (ps_set (i := 1) sc_law.nd rfl (by first | exact .inl rfl | exact .inr rfl) (pe_fn c__law_tape hr (by decide) (by rfl) (pa_cons (pv 0) (pa_nil))))
    (pss_cons (ps_asg (pe_fn c__law_machine hr (by decide) (by rfl) (pa_cons (pv 1) (pa_nil))) (pg_unl rfl (pgs_cons (pg_name (i := 2) sc_law.nd rfl (by first | exact .inl rfl | exact .inr rfl)) (pgs_cons (pg_name (i := 3) sc_law.nd rfl (by first | exact .inl rfl | exact .inr rfl)) (pgs_cons (pg_name (i := 4) sc_law.nd rfl (by first | exact .inl rfl | exact .inr rfl)) (pgs_nil))))))
    (pss_cons (ps_set (i := 5) sc_law.nd rfl (by first | exact .inl rfl | exact .inr rfl) (pe_lst (pa_nil)))
    (pss_cons (ps_for po rfl (pi_range1 (by rfl) T.b_range (pa_cons (pe_op op_addA (pe_int) (pe_fn c__law_draw hr (by decide) (by rfl) (pa_cons (pv 1) (pa_cons (pe_int) (pa_nil))))) (pa_nil))) (pg_name (i := 6) sc_law.nd rfl (by first | exact .inl rfl | exact .inr rfl)) (pss_cons (ps_set (i := 20) sc_law.nd rfl (by first | exact .inl rfl | exact .inr rfl) (pe_ix (ix_A hu1) (pv 4) (pe_fn c__law_draw hr (by decide) (by rfl) (pa_cons (pv 1) (pa_cons (pe_callB call_lenA (by rfl) T.b_len (by decide +kernel) (pa_cons (pv 4) (pa_nil))) (pa_nil)))) (fun _ _ => rfl)))
    (pss_one (ps_expr (pe_bm PySem.F.plainAttrs_list PySem.F.slot_list_append PySem.F.type_list_append mt_append (pv 5) (pa_cons (pe_tup (pa_cons (pv 20) (pa_cons (pe_fn c__law_number hr (by decide) (by rfl) (pa_cons (pv 1) (pa_nil))) (pa_nil)))) (pa_nil)))))))
    (pss_cons (ps_set (i := 7) sc_law.nd rfl (by first | exact .inl rfl | exact .inr rfl) (pe_lst (pa_nil)))
    (pss_cons (ps_set (i := 8) sc_law.nd rfl (by first | exact .inl rfl | exact .inr rfl) (pe_lc (own := [("k", 6)]) rfl sc_law.nd (pi_range1 (by rfl) T.b_range (pa_cons (pe_int) (pa_nil))) (blkOk_by (own := [("k", 6)]) (N := ["script", "rows", "width", "ties", "states", "pairs", "k", "used", "names", "runs", "once", "head", "beneath", "ring", "texts", "first", "second", "third", "fourth", "told", "state", "number"]) (sc := defScope s_law) (by decide +kernel)) (fun _ _ _ _ _ => pg_name (i := 6) sc_law.nd rfl (by first | exact .inl rfl | exact .inr rfl)) (fun _ _ _ _ _ => pts_nil) (fun _ _ _ _ _ => pe_fn c__law_name hr (by decide) (by rfl) (pa_cons (pv 1) (pa_cons (pv 7) (pa_nil))))))
    (pss_cons (ps_setLc (i := 9) (own := [("k", 6)]) rfl sc_law.nd rfl rfl (sw_true rfl rfl rfl (by decide +kernel)) (pi_range1 (by rfl) T.b_range (pa_cons (pe_int) (pa_nil))) (blkOk_by (own := [("k", 6)]) (N := ["script", "rows", "width", "ties", "states", "pairs", "k", "used", "names", "runs", "once", "head", "beneath", "ring", "texts", "first", "second", "third", "fourth", "told", "state", "number"]) (sc := defScope s_law) (by decide +kernel)) (fun _ _ _ _ _ => pg_name (i := 6) sc_law.nd rfl (by first | exact .inl rfl | exact .inr rfl)) (fun _ _ _ _ _ => pts_nil) (fun _ _ _ _ _ => pe_fn c__law_run hr (by decide) (by rfl) (pa_cons (pv 1) (pa_cons (pv 8) (pa_nil)))))
    (pss_cons (ps_set (i := 10) sc_law.nd rfl (by first | exact .inl rfl | exact .inr rfl) (pe_fn c__law_once hr (by decide) (by rfl) (pa_cons (pv 3) (pa_nil))))
    (pss_cons (ps_set (i := 11) sc_law.nd rfl (by first | exact .inl rfl | exact .inr rfl) (pe_lst (pa_cons (pe_op op_addA (pe_str) (pe_callTy call_strA (by rfl) T.b_str (by decide +kernel) (pa_cons (pv 2) (pa_nil)))) (pa_nil))))
    (pss_cons (ps_setLc (i := 12) (own := [("state", 20), ("number", 21)]) rfl sc_law.nd rfl rfl (sw_true rfl rfl rfl (by decide +kernel)) (pi_any (pv 5)) (blkOk_by (own := [("state", 20), ("number", 21)]) (N := ["script", "rows", "width", "ties", "states", "pairs", "k", "used", "names", "runs", "once", "head", "beneath", "ring", "texts", "first", "second", "third", "fourth", "told", "state", "number"]) (sc := defScope s_law) (by decide +kernel)) (fun _ _ _ _ _ => pg_tup rfl (pgs_cons (pg_name (i := 20) sc_law.nd rfl (by first | exact .inl rfl | exact .inr rfl)) (pgs_cons (pg_name (i := 21) sc_law.nd rfl (by first | exact .inl rfl | exact .inr rfl)) (pgs_nil)))) (fun _ _ _ _ _ => pts_nil) (fun _ _ _ _ _ => pe_op op_addA (pe_op op_addA (pe_op op_addA (pe_str) (pe_fn c__law_part hr (by decide) (by rfl) (pa_cons (pv 20) (pa_nil)))) (pe_str)) (pe_callTy call_strA (by rfl) T.b_str (by decide +kernel) (pa_cons (pv 21) (pa_nil)))))
    (pss_cons (ps_set (i := 13) sc_law.nd rfl (by first | exact .inl rfl | exact .inr rfl) (pe_op op_addA (pe_fn c__law_run_lines hr (by decide) (by rfl) (pa_cons (pe_str) (pa_cons (pe_ix (ix_A hu1) (pv 9) (pe_int) (fun _ _ => rfl)) (pa_nil)))) (pe_fn c__law_run_lines hr (by decide) (by rfl) (pa_cons (pe_str) (pa_cons (pe_ix (ix_A hu1) (pv 9) (pe_int) (fun _ _ => rfl)) (pa_nil))))))
    (pss_cons (ps_set (i := 14) sc_law.nd rfl (by first | exact .inl rfl | exact .inr rfl) (pe_lst (pa_cons (pe_join (pe_str) (pe_op op_addA (pv 11) (pe_fn c__law_tie_lines hr (by decide) (by rfl) (pa_cons (pv 10) (pa_nil))))) (pa_cons (pe_join (pe_str) (pe_op op_addA (pe_op op_addA (pv 11) (pe_fn c__law_tie_lines hr (by decide) (by rfl) (pa_cons (pv 10) (pa_nil)))) (pv 12))) (pa_cons (pe_join (pe_str) (pe_fn c__law_run_lines hr (by decide) (by rfl) (pa_cons (pe_str) (pa_cons (pe_ix (ix_A hu1) (pv 9) (pe_int) (fun _ _ => rfl)) (pa_nil))))) (pa_cons (pe_join (pe_str) (pv 13)) (pa_nil)))))))
    (pss_cons (ps_set (i := 15) sc_law.nd rfl (by first | exact .inl rfl | exact .inr rfl) (pe_fn c_read_paper hr (by decide) (by rfl) (pa_cons (pe_join (pe_str) (pe_op op_addA (pv 11) (pe_fn c__law_tie_lines hr (by decide) (by rfl) (pa_cons (pv 3) (pa_nil))))) (pa_nil))))
    (pss_cons (ps_if (PW.pt (pw_or (pt_val (pe_callB call_isi (by rfl) T.b_isinstance (by decide +kernel) (pa_cons (pv 15) (pa_cons (pe_gc (by rfl) T.g_Heights) (pa_nil))))) (pw_or1 (pt_not (pt_val (pe_fnG c__law_machine_is hr (by decide) hg (by rfl) (pa_cons (pv 15) (pa_cons (pv 2) (pa_cons (pv 10) (pa_nil)))))))))) (pss_one (ps_ret (pe_bl))) (pss_nil))
    (pss_cons (ps_set (i := 16) sc_law.nd rfl (by first | exact .inl rfl | exact .inr rfl) (pe_fn c_read_paper hr (by decide) (by rfl) (pa_cons (pe_join (pe_str) (pe_op op_addA (pe_op op_addA (pv 11) (pe_fn c__law_tie_lines hr (by decide) (by rfl) (pa_cons (pv 3) (pa_nil)))) (pv 12))) (pa_nil))))
    (pss_cons (ps_if (pt_not (pt_val (pe_fnG c__law_heights_is hr (by decide) hg (by rfl) (pa_cons (pv 16) (pa_cons (pv 2) (pa_cons (pv 10) (pa_cons (pv 5) (pa_nil)))))))) (pss_one (ps_ret (pe_bl))) (pss_nil))
    (pss_cons (ps_set (i := 17) sc_law.nd rfl (by first | exact .inl rfl | exact .inr rfl) (pe_fn c_read_paper hr (by decide) (by rfl) (pa_cons (pe_ix (ix_A hu1) (pv 14) (pe_int) (fun _ _ => rfl)) (pa_nil))))
    (pss_cons (ps_set (i := 18) sc_law.nd rfl (by first | exact .inl rfl | exact .inr rfl) (pe_fn c_read_paper hr (by decide) (by rfl) (pa_cons (pe_ix (ix_A hu1) (pv 14) (pe_int) (fun _ _ => rfl)) (pa_nil))))
    (pss_cons (ps_if (PW.pt (pw_or (pt_not (pt_val (pe_fnG c__law_run_is hr (by decide) hg (by rfl) (pa_cons (pv 17) (pa_cons (pe_ix (ix_A hu1) (pv 9) (pe_int) (fun _ _ => rfl)) (pa_nil)))))) (pw_or1 (pt_not (pt_val (pe_fnG c__law_ring_is hr (by decide) hg (by rfl) (pa_cons (pv 18) (pa_cons (pe_ix (ix_A hu1) (pv 9) (pe_int) (fun _ _ => rfl)) (pa_cons (pe_ix (ix_A hu1) (pv 9) (pe_int) (fun _ _ => rfl)) (pa_nil)))))))))) (pss_one (ps_ret (pe_bl))) (pss_nil))
    (pss_cons (ps_set (i := 19) sc_law.nd rfl (by first | exact .inl rfl | exact .inr rfl) (pe_lst (pa_cons (pe_fn c_print_paper hr (by decide) (by rfl) (pa_cons (pv 15) (pa_nil))) (pa_cons (pe_fn c_print_paper hr (by decide) (by rfl) (pa_cons (pv 16) (pa_nil))) (pa_cons (pe_fn c_print_paper hr (by decide) (by rfl) (pa_cons (pv 17) (pa_nil))) (pa_cons (pe_fn c_print_paper hr (by decide) (by rfl) (pa_cons (pv 18) (pa_nil))) (pa_nil)))))))
    (pss_cons (ps_if (pt_cmpR (op_neA hu64) (pe_callB (call_reprA hg hu65) (by rfl) T.b_repr (by decide +kernel) (pa_cons (pv 19) (pa_nil))) (pe_callB (call_reprA hg hu65) (by rfl) T.b_repr (by decide +kernel) (pa_cons (pv 14) (pa_nil))) (nomark _)) (pss_one (ps_ret (pe_bl))) (pss_nil))
    (pss_cons (ps_if (pt_not (pt_val (pe_fnG c__law_made hr (by decide) hg (by rfl) (pa_cons (pv 2) (pa_cons (pv 3) (pa_cons (pv 10) (pa_cons (pv 5) (pa_cons (pv 9) (pa_cons (pv 14) (pa_nil)))))))))) (pss_one (ps_ret (pe_bl))) (pss_nil))
    (pss_one (ps_ret (pe_and (pe_fnG c__law_machine_is hr (by decide) hg (by rfl) (pa_cons (pv 15) (pa_cons (pv 2) (pa_cons (pv 10) (pa_nil))))) (pe_one (pe_cmpR (op_eqA hu64) (pe_callB (call_reprA hg hu65) (by rfl) T.b_repr (by decide +kernel) (pa_cons (pe_fn c_print_paper hr (by decide) (by rfl) (pa_cons (pv 15) (pa_nil))) (pa_nil))) (pe_callB (call_reprA hg hu65) (by rfl) T.b_repr (by decide +kernel) (pa_cons (pe_ix (ix_A hu1) (pv 14) (pe_int) (fun _ _ => rfl)) (pa_nil))) (nomark _)))))))))))))))))))))))))))
end Lw
end

section
set_option Elab.async false
set_option linter.all false
set_option maxRecDepth 100000
set_option maxHeartbeats 4000000
namespace Lw
open PySem PySem.Spec PyProof.Rows L2 Evl
section
variable {K : PySem.W.Frag} {w : World} {E : XK} {X : Addr → List (Str × Dt) → Mem → Prop} {Q : Dt → Mem → Prop}
theorem atI_last {α : Type} {xs : List α} {x : α} (h : xs.getLast? = some x) : atI xs (-1) = some x := by
  have hne : xs ≠ [] := fun e => by rw [e] at h; cases h
  have hp : 0 < xs.length := List.length_pos_iff.mpr hne
  unfold atI ixN
  rw [if_neg (by omega), if_pos (by omega)]
  rw [List.getLast?_eq_getElem?] at h
  show xs[((-1 : Int) + (xs.length : Int)).toNat]? = some x
  rw [show ((-1 : Int) + (xs.length : Int)).toNat = xs.length - 1 by omega]
  exact h
theorem last_map {α β : Type} {f : α → β} {l : List α} {x : α} (h : l.getLast? = some x) : (l.map f).getLast? = some (f x) := by
  rw [List.getLast?_map, h]
  rfl
theorem rd_once {ds : List Dt} {M : Mem} (h : S__law_once K ds M Q X) : RnD ⟨K, E, X⟩ (t__law_once K w E) (startG ["ties", "found", "tie"] ds) M (retE Q) := by
  obtain ⟨rfl, d, hr, q⟩ := h
  cases hr with
  | mk ties hk =>
    unfold t__law_once
    have hl9 := hk.2
    refine rn_seq <| rn_asg <| ev_lstM <| ar_nil ⟨sl_le (by simp), fun p => gt_name ?_⟩
    refine rn_seq <| rn_for <| it_any <| ev_cb <| ar_cons <| ev_var (d := .lst (ties.map tieD)) rfl <| ar_nil <| sorted_ties (by omega) ⟨_, rfl, ?_⟩
    rw [sortD_ties]
    refine ⟨fun i Γ' M' => M' = [(p, .lst ((((ties.mergeSort leT).take i).foldl stepO []).map tieD))] ∧ ∃ a, Γ' = [some (.lst (ties.map tieD)), some (.ref p), a], ⟨rfl, none, rfl⟩, ?_, ?_⟩
    · rintro i d Γ' M' hd ⟨rfl, a, rfl⟩
      rw [List.getElem?_map] at hd
      obtain ⟨x, hi, rfl⟩ := Option.map_eq_some_iff.mp hd
      have hx := hk.1 x (List.mem_mergeSort.mp (List.mem_of_getElem? hi))
      have hlen : (((ties.mergeSort leT).take i).foldl stepO []).length ≤ 900 := by
        have := fold_len ((ties.mergeSort leT).take i) []
        rw [List.length_take, List.length_mergeSort, List.length_nil] at this
        omega
      have hfold : ((ties.mergeSort leT).take (i + 1)).foldl stepO [] = stepO (((ties.mergeSort leT).take i).foldl stepO []) x := by
        rw [take_at hi, List.foldl_append]
        rfl
      have hin : ∀ y ∈ (((ties.mergeSort leT).take i).foldl stepO []), numsOk y.1 ∧ numsOk y.2.1 ∧ numsOk y.2.2 := fun y hy => by
        have pw := (PySem.W.sort_pairwise totT ties).sublist (List.take_sublist i _)
        exact hk.1 y (List.mem_mergeSort.mp (List.mem_of_mem_take (((once_all _ _ rfl pw).mem y).mp hy)))
      dsimp only
      rw [hfold]
      generalize ((ties.mergeSort leT).take i).foldl stepO [] = acc at hlen hin
      have app : acc = [] ∨ acc.getLast? ≠ some x → ∀ P : EndD, P.nx [some (.lst (ties.map tieD)), some (.ref p), some (tieD x)] [(p, .lst ((stepO acc x).map tieD))] → RnD ⟨K, E, X⟩ (tDrop (tBM K "list" rAppend (tVar 1) (tCons (tVar 2) (tNil)))) [some (.lst (ties.map tieD)), some (.ref p), some (tieD x)] [(p, .lst (acc.map tieD))] P := fun c P k => by
        refine rn_drop <| ev_append (n := 0) (ds := acc.map tieD) <| ev_var (d := .ref p) rfl ⟨rfl, rfl, ar_cons <| ev_var (d := tieD x) rfl <| ar_nil ⟨_, _, rfl, rfl, by rw [List.length_map]; exact lt_line (by omega), ?_⟩⟩
        have e : (stepO acc x).map tieD = acc.map tieD ++ [tieD x] := by
          unfold stepO
          rw [if_pos c, List.map_append]
          rfl
        rw [e] at k
        exact k
      refine gt_name <| rn_if <| tt_or <| tt_test <| ev_op <| ev_cb <| ar_cons <| ev_var (d := .ref p) rfl <| ar_nil <| cd_lenM (n := 0) (ds := acc.map tieD) rfl <| ev_int <| od_eqI ⟨_, rfl, ifD (fun hz => ?_) fun hz => ?_⟩
      · have : acc = [] := List.eq_nil_of_length_eq_zero (by rw [List.length_map] at hz; omega)
        exact app (.inl this) _ ⟨rfl, _, rfl⟩
      · have hne : acc ≠ [] := fun e => hz (by rw [e]; rfl)
        have hl : acc.getLast? = some (acc.getLast hne) := List.getLast?_eq_some_getLast hne
        have hlm := hin _ (List.getLast_mem hne)
        generalize acc.getLast hne = z at hl hlm
        refine tt_test <| ev_op <| ev_op <| ev_var (d := .ref p) rfl <| ev_neg <| ev_int ⟨rfl, od_ixM (n := 0) (ds := acc.map tieD) rfl (atI_last (last_map hl)) <| ev_var (d := tieD x) rfl <| od_neT hlm hx ⟨_, rfl, ifND (fun hne2 => ?_) fun he => ?_⟩⟩
        · exact app (.inr fun e => hne2 (by rw [hl] at e; exact Option.some.inj e)) _ ⟨rfl, _, rfl⟩
        · refine rn_next ⟨?_, _, rfl⟩
          unfold stepO
          rw [if_neg]
          rintro (c | c)
          · exact hne c
          · exact c (by rw [hl, he])
    · rintro Γ' M' ⟨rfl, a, rfl⟩
      refine rn_ret <| ev_know <| ev_var (d := .ref p) rfl ⟨p, _, _, [], rfl, .refl _, .lst _, ?_⟩
      rw [List.length_map, List.take_length]
      exact q
theorem rd_part {ds : List Dt} {M : Mem} (h : S__law_part K ds M Q X) : RnD ⟨K, E, X⟩ (t__law_part K w E) (startG ["numbers", "number"] ds) M (retE Q) := by
  obtain ⟨rfl, d, hr, q⟩ := h
  cases hr with
  | mk ns hn =>
    unfold t__law_part
    refine rn_seq <| rn_if <| tt_test <| ev_op <| ev_cb <| ar_cons <| ev_var (d := tupI ns) rfl <| ar_nil <| cd_lenT <| ev_int <| od_eqI ⟨_, rfl, ifD (fun h1 => ?_) fun h1 => rn_next ?_⟩
    · refine rn_ret <| ev_str ?_
      have : ns = [] := List.eq_nil_of_length_eq_zero (by simpa using h1)
      subst this
      exact q
    · have hne : ns ≠ [] := fun e => h1 (by rw [e]; rfl)
      refine rn_ret <| ev_join <| ev_str ⟨",", rfl, ev_map (vs := [1]) (fun e => .str (strT e)) (gfix_name (i := 1) (vs := [1]) (by decide)) <| it_any <| ev_var (d := tupI ns) rfl ⟨ns.map Dt.int, rfl, ?_, fun i e hi => ?_, ns.map numT, by rw [List.map_map, List.map_map]; rfl, ?_, ?_⟩⟩
      · rw [List.length_map]
        exact sl_le (by have := hn.2; omega)
      · rw [List.getElem?_map] at hi
        obtain ⟨n, hn1, rfl⟩ := Option.map_eq_some_iff.mp hi
        exact gt_name <| ev_cb <| ar_cons <| ev_var (d := .int n) rfl <| ar_nil <| cd_strI (log_ok (hn.1 n (List.mem_of_getElem? hn1))) ⟨rfl, rfl⟩
      · have h1 := sum_le ((ns.map numT).map (·.length)) 5 fun x hx => by
          obtain ⟨y, hy, rfl⟩ := List.mem_map.mp hx
          obtain ⟨n, hm, rfl⟩ := List.mem_map.mp hy
          exact (numT_len (hn.1 n hm)).2
        have h2 := hn.2
        have h3 : ("," : Str).length = 1 := by decide +kernel
        rw [h3]
        simp only [List.length_map] at h1 ⊢
        omega
      · rw [← part_cons hne]
        exact q
theorem str_assoc (a b c : Str) : a ++ b ++ c = a ++ (b ++ c) := by
  have : ∀ x y : Str, x.cps.toList = y.cps.toList → x = y := fun x y h => by
    have := Array.toList_inj.mp h
    cases x
    cases y
    simp only [Str.mk.injEq]
    exact this
  refine this _ _ ?_
  rw [app_list, app_list, app_list, app_list, List.append_assoc]
theorem line_cons (a z : Str) (r : List Str) : lineT (a :: z :: r) = a ++ (" " : Str) ++ lineT (z :: r) := join_cons " " a z r
theorem line_one (a : Str) : lineT [a] = a := join_one " " a
theorem lit_tie : ("tie " : Str) = ("tie" : Str) ++ (" " : Str) := by decide +kernel
theorem lit_ask : ("ask " : Str) = ("ask" : Str) ++ (" " : Str) := by decide +kernel
theorem lit_mach : ("machine " : Str) = ("machine" : Str) ++ (" " : Str) := by decide +kernel
theorem lit_ben : ("beneath " : Str) = ("beneath" : Str) ++ (" " : Str) := by decide +kernel
theorem ask_text (t : Int) (n : Str) : ("ask " : Str) ++ numT t ++ (" " : Str) ++ n = lineT ["ask", numT t, n] := by
  rw [line_cons, line_cons, line_one, lit_ask]
  simp only [str_assoc]
theorem ben_text (s : Str) (t : Str) : ("beneath " : Str) ++ s ++ (" " : Str) ++ t = lineT ["beneath", s, t] := by
  rw [line_cons, line_cons, line_one, lit_ben]
  simp only [str_assoc]
theorem tie_text (a b c : Str) : ("tie " : Str) ++ Txt.join " " [a, b, c] = lineT ["tie", a, b, c] := by
  rw [line_cons, lit_tie]
  rfl
theorem word_text (a b : Str) : a ++ (" " : Str) ++ b = lineT [a, b] := by
  rw [line_cons, line_one]
theorem mach_text (b : Str) : ("machine " : Str) ++ b = lineT ["machine", b] := by
  rw [line_cons, line_one, lit_mach]
def tieL : Dt → Dt
  | .tup [.tup a, .tup b, .tup c] => .str (lineT ["tie", partT (a.map intOf), partT (b.map intOf), partT (c.map intOf)])
  | d => d
theorem add_small {a b : Str} {m n : Nat} (h1 : a.length ≤ m) (h2 : b.length ≤ n) (h : m + n ≤ 16777216) : a.length + b.length ≤ sizeLine := sl_le (by omega)
theorem rd_tie_lines {ds : List Dt} {M : Mem} (h : S__law_tie_lines K ds M Q X) : RnD ⟨K, E, X⟩ (t__law_tie_lines K w E) (startG ["ties", "tie", "part"] ds) M (retE Q) := by
  obtain ⟨rfl, d, hr, q⟩ := h
  cases hr with
  | mk ties hk =>
    unfold t__law_tie_lines
    refine rn_ret <| ev_map (vs := [1]) tieL (gfix_name (i := 1) (vs := [1]) (by decide)) <| it_any <| ev_var (d := .lst (ties.map tieD)) rfl ⟨_, rfl, by rw [List.length_map]; exact sl_le (by have := hk.2; omega), fun i d hd => ?_, ?_⟩
    · rw [List.getElem?_map] at hd
      obtain ⟨⟨x, y, z⟩, hi, rfl⟩ := Option.map_eq_some_iff.mp hd
      have hok := hk.1 _ (List.mem_of_getElem? hi)
      have l1 : (partT x).length ≤ 606 := part_len hok.1
      have l2 : (partT y).length ≤ 606 := part_len hok.2.1
      have l3 : (partT z).length ≤ 606 := part_len hok.2.2
      refine gt_name <| ev_op <| ev_str <| ev_join <| ev_str ⟨" ", rfl, ev_map (vs := [2]) numL (gfix_name (i := 2) (vs := [2]) (by decide)) <| it_any <| ev_var (d := tieD (x, y, z)) rfl ⟨[tupI x, tupI y, tupI z], rfl, three_le, fun j e he => ?_, [partT x, partT y, partT z], ?_, ?_, od_addS ?_ ⟨?_, rfl⟩⟩⟩
      · have fin : ∀ ns : List Int, numsOk ns → GtD (Cq.quiet (Cq.quiet ⟨K, E, X⟩)) (gName 2) (tupI ns) (wipeG (List.set (wipeG (startG ["ties", "tie", "part"] [.lst (ties.map tieD)]) [1]) 1 (some (tieD (x, y, z)))) [2]) [] fun Γ2 M2 => EvD (Cq.quiet (Cq.quiet ⟨K, E, X⟩)) (tCall (toSp K (S__law_part K)) [] E0 (tCons (tVar 2) tNil)) Γ2 M2 fun e M3 => e = numL (tupI ns) ∧ M3 = [] := fun ns hn =>
          gt_name <| ev_rel <| ar_cons <| ev_var (d := tupI ns) rfl <| ar_nil ⟨_, .mk ns hn, by show Dt.str (partT ns) = Dt.str (partT ((ns.map Dt.int).map intOf)); rw [intOf_map], rfl⟩
        match j, he with
        | 0, he => cases he; exact fin x hok.1
        | 1, he => cases he; exact fin y hok.2.1
        | 2, he => cases he; exact fin z hok.2.2
      · show Dt.lst [Dt.str (partT ((x.map Dt.int).map intOf)), Dt.str (partT ((y.map Dt.int).map intOf)), Dt.str (partT ((z.map Dt.int).map intOf))] = _
        rw [intOf_map, intOf_map, intOf_map]
        rfl
      · have h3 : (" " : Str).length = 1 := by decide +kernel
        rw [h3]
        simp only [List.map_cons, List.map_nil, List.sum_cons, List.sum_nil, List.length_cons, List.length_nil]
        omega
      · have h3 : (" " : Str).length = 1 := by decide +kernel
        have := join_len " " [partT x, partT y, partT z]
        rw [h3] at this
        simp only [List.map_cons, List.map_nil, List.sum_cons, List.sum_nil, List.length_cons, List.length_nil] at this
        exact add_small (m := 10) (n := 2000) (by decide +kernel) (by omega) (by decide)
      · rw [tie_text]
        show _ = Dt.str (lineT ["tie", partT ((x.map Dt.int).map intOf), partT ((y.map Dt.int).map intOf), partT ((z.map Dt.int).map intOf)])
        rw [intOf_map, intOf_map, intOf_map]
    · have e : (ties.map tieD).map tieL = ((ties.map tieW).map lineT).map Dt.str := by
        rw [List.map_map, List.map_map, List.map_map]
        refine List.map_congr_left fun t _ => ?_
        obtain ⟨x, y, z⟩ := t
        show Dt.str (lineT ["tie", partT ((x.map Dt.int).map intOf), partT ((y.map Dt.int).map intOf), partT ((z.map Dt.int).map intOf)]) = _
        rw [intOf_map, intOf_map, intOf_map]
        rfl
      rw [e]
      exact q
theorem rd_law_run_lines {ds : List Dt} {M : Mem} (h : S__law_run_lines K ds M Q X) : RnD ⟨K, E, X⟩ (t__law_run_lines K w E) (startG ["word", "run", "time", "name"] ds) M (retE Q) := by
  obtain ⟨rfl, d, hr, q⟩ := h
  cases hr with
  | mk word ms st h1 h2 h3 =>
    unfold t__law_run_lines
    have c1 : (" " : Str).length = 1 := by decide +kernel
    have n1 := (numT_cnt h1).2.1
    refine rn_ret <| ev_op <| ev_lst <| ar_cons <| ev_op <| ev_op <| ev_var (d := .str word) rfl <| ev_str <| od_addS (add_small h3 (Nat.le_of_eq c1) (by decide)) <| ev_cb <| ar_cons <| ev_op <| ev_var (d := runL ms st) rfl <| ev_int <| od_ixL (d := .int st) (atI_nat (n := 1) rfl) <| ar_nil <| cd_strI (log_ok ⟨by have := h1.1; omega, h1.2⟩) <| od_addS ?_ <| ar_nil ⟨sl_le (by simp), ?_⟩
    · refine add_small (m := 11) (n := 5) ?_ n1 (by decide)
      rw [Str.length_append]
      omega
    · refine ev_map (vs := [2, 3]) momL (gfix_t (gfix_cons (gfix_name (i := 2) (vs := [2, 3]) (by decide)) (gfix_cons (gfix_name (i := 3) (vs := [2, 3]) (by decide)) gfix_nil))) <| it_any <| ev_op <| ev_var (d := runL ms st) rfl <| ev_int <| od_ixL (d := .lst (ms.map momD)) (atI_nat (n := 0) rfl) ⟨_, rfl, moms_size h2.2, fun i d hd => ?_, od_addL ?_ ?_⟩
      · rw [List.getElem?_map] at hd
        obtain ⟨⟨t, n⟩, hi, rfl⟩ := Option.map_eq_some_iff.mp hd
        have hp := h2.1 _ (List.mem_of_getElem? hi)
        have t1 : (numT t).length ≤ 5 := (numT_cnt hp.1).2.1
        have hn : n.length ≤ 1000 := (name_word hp.2).2.2.1
        have c4 : ("ask " : Str).length = 4 := by decide +kernel
        refine gt_tup rfl <| gs_cons <| gt_name <| gs_cons <| gt_name <| gs_nil <| ev_op <| ev_op <| ev_op <| ev_str <| ev_cb <| ar_cons <| ev_var (d := .int t) rfl <| ar_nil <| cd_strI (log_ok ⟨by have := hp.1.1; omega, hp.1.2⟩) <| od_addS (add_small (Nat.le_of_eq c4) t1 (by decide)) <| ev_str <| od_addS ?_ <| ev_var (d := .str n) rfl <| od_addS ?_ ⟨?_, rfl⟩
        · refine add_small (m := 9) (n := 1) ?_ (Nat.le_of_eq c1) (by decide)
          rw [Str.length_append]
          show ("ask " : Str).length + (numT t).length ≤ 9
          omega
        · refine add_small (m := 10) (n := 1000) ?_ hn (by decide)
          rw [Str.length_append, Str.length_append]
          show ("ask " : Str).length + (numT t).length + (" " : Str).length ≤ 10
          omega
        · show Dt.str (("ask " : Str) ++ numT t ++ (" " : Str) ++ n) = _
          rw [ask_text]
          rfl
      · rw [List.length_map, List.length_map]
        exact sl_le (by have := h2.2; simp only [List.length_cons, List.length_nil]; omega)
      · have e : [Dt.str (word ++ (" " : Str) ++ numT st)] ++ (ms.map momD).map momL = ((runLs word ms st).map lineT).map Dt.str := by
          rw [word_text]
          unfold runLs
          rw [List.map_cons, List.map_cons, List.map_map, List.map_map, List.map_map]
          rfl
        have q2 := q
        unfold textsD at q2
        rw [← e] at q2
        exact q2
end
end Lw
end

section
set_option Elab.async false
set_option linter.all false
set_option maxRecDepth 100000
set_option maxHeartbeats 4000000
namespace Lw
open PySem PySem.Spec PyProof.Rows L2 Evl
section
variable {K : PySem.W.Frag} {w : World} {E : XK} {X : Addr → List (Str × Dt) → Mem → Prop} {Q : Dt → Mem → Prop}
theorem py_int_ne {n : Int} : (Dt.int n).py ≠ .none := by rw [Dt.py]; nofun
theorem py_int_nb {n : Int} : ∀ b, (Dt.int n).py ≠ .bool b := by rw [Dt.py]; nofun
theorem py_str_ne {x : Str} : (Dt.str x).py ≠ .none := by rw [Dt.py]; nofun
theorem py_str_nb {x : Str} : ∀ b, (Dt.str x).py ≠ .bool b := by rw [Dt.py]; nofun
theorem py_lst_ne {l : List Dt} : (Dt.lst l).py ≠ .none := by rw [Dt.py]; nofun
theorem py_lst_nb {l : List Dt} : ∀ b, (Dt.lst l).py ≠ .bool b := by rw [Dt.py]; nofun
theorem py_tup_ne {l : List Dt} : (Dt.tup l).py ≠ .none := by rw [Dt.py]; nofun
theorem py_tup_nb {l : List Dt} : ∀ b, (Dt.tup l).py ≠ .bool b := by rw [Dt.py]; nofun
theorem num_of_cnt {n : Int} (h : cntOk n) : numOk n := ⟨by have := h.1; omega, h.2⟩
theorem rd_machine_is (c : Clss K) (I : Isis K) {ds : List Dt} {M : Mem} (h : S__law_machine_is K ds M Q X) : RnD ⟨K, E, X⟩ (t__law_machine_is K w E) (startG ["paper", "width", "once", "heads", "source", "frame", "target_v"] ds) M (retE Q) := by
  obtain ⟨rfl, d, hr, q⟩ := h
  cases hr with
  | mk width ties h1 h2 =>
    unfold t__law_machine_is
    have h9 := h2.2
    have o9 := once_len ties
    have ot := once_tiesOk h2
    have cnt := tab_count _ ties rfl
    refine rn_seq <| rn_if <| tt_or <| tt_not <| tt_B <| ev_cb <| ar_cons <| ev_var (d := machD K width ties) rfl <| ar_cons <| ev_adr <| ar_nil <| cd_isi I.iMachine I.iMachine.me ⟨_, rfl, ifF ?_⟩
    refine tt_or <| tt_differ (d := .int width) (rp_int (num_of_cnt h1)) (by decide) (by decide) py_int_ne py_int_nb <| ev_fld c.cMachine c.nWidth <| ev_var rfl ⟨_, _, rfl, rfl, rfl, ev_var rfl ⟨rfl, ifF ?_⟩⟩
    refine tt_differ (d := .int ((onceT ties).length : Nat)) (rp_int ⟨by omega, by omega⟩) (by decide) (by decide) py_int_ne py_int_nb <| ev_fld c.cMachine c.nTotal <| ev_var rfl ⟨_, _, rfl, rfl, by rw [cnt], ev_cb <| ar_cons <| ev_var (d := .lst ((onceT ties).map tieD)) rfl <| ar_nil <| cd_lenL ⟨by rw [List.length_map], ifF <| rn_next ?_⟩⟩
    refine rn_seq <| rn_asg <| ev_lstM <| ar_nil ⟨sl_le (by simp), fun p => gt_name ?_⟩
    have pwo : ∀ i, ((onceT ties).take i).Pairwise fun a b => leT a b = true := fun i => (once_ok ties).pw.sublist (List.take_sublist i _)
    have hin : ∀ i, ∀ y ∈ headsL width ((onceT ties).take i), numsOk y.1 ∧ numsOk y.2 := fun i y hy => by
      obtain ⟨_, t, ht⟩ := ((head_all width _ _ rfl (pwo i)).mem y).mp hy
      have := ot.1 _ (List.mem_of_mem_take ht)
      exact ⟨this.1, this.2.1⟩
    refine rn_seq <| rn_for <| it_any <| ev_var (d := .lst ((onceT ties).map tieD)) rfl ⟨_, rfl, fun i Γ' M' => M' = [(p, .lst ((headsL width ((onceT ties).take i)).map pairD))] ∧ ∃ a b e, Γ' = [some (machD K width ties), some (.int width), some (.lst ((onceT ties).map tieD)), some (.ref p), a, b, e], ⟨rfl, none, none, none, rfl⟩, ?_, ?_⟩
    · rintro i d Γ' M' hd ⟨rfl, a, b, e, rfl⟩
      rw [List.getElem?_map] at hd
      obtain ⟨⟨x, y, z⟩, hi, rfl⟩ := Option.map_eq_some_iff.mp hd
      have hx := ot.1 _ (List.mem_of_getElem? hi)
      have hacc := hin i
      have hlen : (headsL width ((onceT ties).take i)).length ≤ 900 := by
        have := headsL_len width ((onceT ties).take i)
        rw [List.length_take] at this
        omega
      have hfold : headsL width ((onceT ties).take (i + 1)) = stepH width (headsL width ((onceT ties).take i)) (x, y, z) := by
        unfold headsL
        rw [take_at hi, List.foldl_append]
        rfl
      dsimp only
      rw [hfold]
      generalize headsL width ((onceT ties).take i) = acc at hacc hlen
      have same : ¬ ((x.length : Int) = width ∧ (x, y) ∉ acc) → stepH width acc (x, y, z) = acc := fun n => if_neg n
      refine gt_tup rfl <| gs_cons <| gt_name <| gs_cons <| gt_name <| gs_cons <| gt_name <| gs_nil <| rn_if <| tt_and <| tt_test <| ev_op <| ev_cb <| ar_cons <| ev_var (d := tupI x) rfl <| ar_nil <| cd_lenT <| ev_var (d := .int width) rfl <| od_eqI ⟨_, rfl, ifD (fun hw => ?_) fun hw => ?_⟩
      · rw [List.length_map] at hw
        refine tt_test <| ev_op <| ev_tup <| ar_cons <| ev_var (d := tupI x) rfl <| ar_cons <| ev_var (d := tupI y) rfl <| ar_nil ⟨two_le, ev_var (d := .ref p) rfl <| od_notInH (p := (x, y)) (l := acc) List.mem_cons_self ⟨hx.1, hx.2.1⟩ hacc ⟨_, rfl, ifND (fun hn => ?_) fun hm => ?_⟩⟩
        · refine rn_drop <| ev_append (n := 0) (ds := acc.map pairD) <| ev_var (d := .ref p) rfl ⟨rfl, rfl, ar_cons <| ev_tup <| ar_cons <| ev_var (d := tupI x) rfl <| ar_cons <| ev_var (d := tupI y) rfl <| ar_nil ⟨two_le, ar_nil ⟨_, _, rfl, rfl, by rw [List.length_map]; exact lt_line (by omega), ?_, _, _, _, rfl⟩⟩⟩
          have es : stepH width acc (x, y, z) = acc ++ [(x, y)] := if_pos ⟨hw, hn⟩
          rw [es, List.map_append]
          rfl
        · rw [same fun n => n.2 hm]
          exact rn_next ⟨rfl, _, _, _, rfl⟩
      · rw [List.length_map] at hw
        rw [same fun n => hw n.1]
        exact ifF <| rn_next ⟨rfl, _, _, _, rfl⟩
    · rintro Γ' M' ⟨rfl, a, b, e, rfl⟩
      have wf := tab_wf h9
      have ra := rows_are h9
      have hh := hin (onceT ties).length
      rw [List.length_map, List.take_length] at *
      have hhl : (headsL width (onceT ties)).length ≤ 900 := by
        have := headsL_len width (onceT ties)
        omega
      refine rn_ret <| ev_andV <| ev_same (b := true) (rp_ties ot) (by decide) (by decide) py_lst_ne py_lst_nb <| ev_mrel <| ev_var (d := machD K width ties) rfl ⟨_, rfl, rfl, ar_nil ⟨_, .mk width _ _ wf ra.2.1, ra.2.2 ▸ rfl, ev_var rfl ⟨rfl, true, rfl, ifT ?_⟩⟩⟩
      refine ev_same (b := true) (rp_heads hh hhl) (by decide) (by decide) py_lst_ne py_lst_nb <| ev_mrel <| ev_var (d := machD K width ties) rfl ⟨_, rfl, rfl, ar_nil ⟨_, .mk width _ _ wf (by rw [headsT_len]; omega), congrArg Dt.lst (heads_are width ties), ev_know <| ev_var (d := .ref p) rfl ⟨p, _, _, [], rfl, .refl _, .lst _, rfl, q⟩⟩⟩
theorem rd_heights_is (c : Clss K) (I : Isis K) {ds : List Dt} {M : Mem} (h : S__law_heights_is K ds M Q X) : RnD ⟨K, E, X⟩ (t__law_heights_is K w E) (startG ["paper", "width", "once", "pairs"] ds) M (retE Q) := by
  obtain ⟨rfl, d, hr, q⟩ := h
  cases hr with
  | mk width ties ps h1 h2 h3 =>
    unfold t__law_heights_is
    refine rn_seq <| rn_if <| tt_or <| tt_not <| tt_B <| ev_cb <| ar_cons <| ev_var (d := htsD (machD K width ties) ps K) rfl <| ar_cons <| ev_adr <| ar_nil <| cd_isi I.iHeights I.iHeights.me ⟨_, rfl, ifF ?_⟩
    refine tt_not <| tt_B <| ev_rel <| ar_cons <| ev_fld c.cHeights c.nMach <| ev_var rfl ⟨_, _, rfl, rfl, ar_cons <| ev_var rfl <| ar_cons <| ev_var rfl <| ar_nil ⟨_, .mk width ties h1 h2, _, rfl, ifF <| rn_next ?_⟩⟩
    exact rn_ret <| ev_same (b := true) (rp_bens h3) (by decide) (by decide) py_lst_ne py_lst_nb <| ev_fld c.cHeights c.nBeneath <| ev_var rfl ⟨_, _, rfl, rfl, rfl, ev_var rfl ⟨rfl, q⟩⟩
theorem rd_run_is (c : Clss K) (I : Isis K) {ds : List Dt} {M : Mem} (h : S__law_run_is K ds M Q X) : RnD ⟨K, E, X⟩ (t__law_run_is K w E) (startG ["paper", "run"] ds) M (retE Q) := by
  obtain ⟨rfl, d, hr, q⟩ := h
  cases hr with
  | mk ms st h1 h2 h3 =>
    unfold t__law_run_is
    refine rn_seq <| rn_if <| tt_not <| tt_B <| ev_cb <| ar_cons <| ev_var (d := runD K ms st) rfl <| ar_cons <| ev_adr <| ar_nil <| cd_isi I.iRun I.iRun.me ⟨_, rfl, ifF <| rn_next ?_⟩
    refine rn_ret <| ev_andV <| ev_same (b := true) (rp_moms h2 (by omega)) (by decide) (by decide) py_tup_ne py_tup_nb <| ev_fld c.cRun c.nMoments <| ev_var rfl ⟨_, _, rfl, rfl, rfl, ev_cb <| ar_cons <| ev_op <| ev_var (d := runL ms st) rfl <| ev_int <| od_ixL (d := .lst (ms.map momD)) (atI_nat (n := 0) rfl) <| ar_nil <| cd_tupL ⟨rfl, true, rfl, ifT ?_⟩⟩
    exact ev_same (b := true) (rp_int (num_of_cnt h1)) (by decide) (by decide) py_int_ne py_int_nb <| ev_fld c.cRun c.nSteps <| ev_var rfl ⟨_, _, rfl, rfl, rfl, ev_op <| ev_var (d := runL ms st) rfl <| ev_int <| od_ixL (d := .int st) (atI_nat (n := 1) rfl) ⟨rfl, q⟩⟩
theorem rd_ring_is (c : Clss K) (I : Isis K) {ds : List Dt} {M : Mem} (h : S__law_ring_is K ds M Q X) : RnD ⟨K, E, X⟩ (t__law_ring_is K w E) (startG ["paper", "lead", "loop"] ds) M (retE Q) := by
  obtain ⟨rfl, d, hr, q⟩ := h
  cases hr with
  | mk ms ms2 st st2 h1 h2 h3 h4 h5 h6 =>
    unfold t__law_ring_is
    refine rn_ret <| ev_andV <| ev_cb <| ar_cons <| ev_var (d := ringD (runD K ms st) (runD K ms2 st2) K) rfl <| ar_cons <| ev_adr <| ar_nil <| cd_isi I.iRing I.iRing.me ⟨_, rfl, ifT ?_⟩
    refine ev_andV <| ev_rel <| ar_cons <| ev_fld c.cRing c.nLead <| ev_var rfl ⟨_, _, rfl, rfl, ar_cons <| ev_var rfl <| ar_nil ⟨_, .mk ms st h1 h2 h3, _, rfl, ifT ?_⟩⟩
    exact ev_rel <| ar_cons <| ev_fld c.cRing c.nLoop <| ev_var rfl ⟨_, _, rfl, rfl, ar_cons <| ev_var rfl <| ar_nil ⟨_, .mk ms2 st2 h4 h5 h6, q⟩⟩
end
end Lw
end

section
set_option Elab.async false
set_option linter.all false
set_option maxRecDepth 100000
set_option maxHeartbeats 4000000
namespace Lw
open PySem PySem.Spec PyProof.Rows L2 Evl
section
variable {K : PySem.W.Frag} {w : World} {E : XK} {X : Addr → List (Str × Dt) → Mem → Prop} {Q : Dt → Mem → Prop}
theorem cd_list {Z : Cq} {M : Mem} {Q : Dt → Mem → Prop} {ds : List Dt} (q : ∀ p, Q (.ref p) (M ++ [(p, .lst ds)])) : ClD Z (rListA Z.K) [.lst ds] M Q := fun F W H vs s dv R k => by
  obtain ⟨v, us, rfl, d1, d2⟩ := dv.cons_inv
  obtain rfl := d2.nil_inv
  cases d1 with
  | @lst a xs _ hw l r => exact ⟨a, xs, rfl, .inl (sq_of (s.ex _ _ hw)), fun p hp => k _ _ _ _ _ (q p) (Ex.refl W) (s.newM hp ⟨xs, upd_same, ⟨l, r⟩⟩) (.ref p)⟩
/-- list(..), known as soon as it is made -/
theorem ev_listK {Z : Cq} {Γ : Gam} {M : Mem} {Q : Dt → Mem → Prop} {ta : TE} (h : EvD Z ta Γ M fun x M1 => ∃ ds, x = .lst ds ∧ Q (.lst ds) M1) : EvD Z (tCB (rListA Z.K) (tCons ta tNil)) Γ M Q :=
  ev_know <| ev_cb <| ar_cons <| ev_mono h fun x M1 ⟨ds, e, q⟩ => by
    subst e
    exact ar_nil <| cd_list fun p => ⟨p, _, _, M1, rfl, List.perm_append_comm, .lst _, q⟩
theorem td_add {Z : Cq} {M : Mem} {Q : Dt → Mem → Prop} {a b : List (List Str)} (h : a.length + b.length ≤ 3000) (q : Q (textsD (a ++ b)) M) : OpD Z (rAddA Z.K) (textsD a) (textsD b) M Q := by
  refine od_addL ?_ ?_
  · simp only [List.length_map]
    exact sl_le (by omega)
  · unfold textsD at q
    rw [List.map_append, List.map_append] at q
    exact q
theorem rd_made (c : Clss K) (I : Isis K) {ds : List Dt} {M : Mem} (h : S__law_made K ds M Q X) : RnD ⟨K, E, X⟩ (t__law_made K w E) (startG ["width", "ties", "once", "pairs", "runs", "texts", "handed", "machine", "heights", "run", "ring"] ds) M (retE Q) := by
  obtain ⟨rfl, d, hr, q⟩ := h
  cases hr with
  | mk width ties ps q0 q1 q2 hk =>
    unfold t__law_made
    have hw := hk.w
    have ht := hk.t
    have ht21 := hk.t21
    have hps := hk.p
    have hp6 := hk.p6
    have ot := once_tiesOk ht
    have o21 := once_len ties
    have ra := rows_are ht.2
    have k0 := hk.r q0 (by simp)
    have k1 := hk.r q1 (by simp)
    have k2 := hk.r q2 (by simp)
    have l0 : (machLs width (onceT ties)).length ≤ 30 := by rw [mach_len]; omega
    have l1 : (machLs width (onceT ties) ++ ps.map benW).length ≤ 30 := by rw [List.length_append, mach_len, List.length_map]; omega
    have l2 : (runLs "run" q0.1 q0.2).length ≤ 30 := by rw [run_len]; have := k0.2.1; omega
    have l3 : (runLs "ring" q1.1 q1.2 ++ runLs "loop" q2.1 q2.2).length ≤ 30 := by rw [List.length_append, run_len, run_len]; have := k1.2.1; have := k2.2.1; omega
    have a1 : ∀ l ∈ machLs width (onceT ties) ++ ps.map benW, lineOk l := fun l hl => by
      rcases List.mem_append.mp hl with hl | hl
      · exact mach_line hw ot l hl
      · exact ben_line hps l hl
    have a2 : ∀ l ∈ runLs "run" q0.1 q0.2, lineOk l := run_line (lit_word _ (by decide +kernel)) k0.2.2 k0.1
    have a3 : ∀ l ∈ runLs "ring" q1.1 q1.2 ++ runLs "loop" q2.1 q2.2, lineOk l := fun l hl => by
      rcases List.mem_append.mp hl with hl | hl
      · exact run_line (lit_word _ (by decide +kernel)) k1.2.2 k1.1 l hl
      · exact run_line (lit_word _ (by decide +kernel)) k2.2.2 k2.1 l hl
    refine rn_seq <| rn_asg <| ev_cb <| ar_cons <| ev_var (d := .lst (ties.map tieD)) rfl <| ar_nil <| cd_list fun l => gt_name ?_
    refine rn_seq <| rn_asg <| ev_machineM <| ar_cons <| ev_var (d := .int width) rfl <| ar_cons <| ev_var (d := .ref l) rfl <| ar_nil ⟨width, ties, l, rfl, ht.2, rfl, gt_name ?_⟩
    refine rn_seq <| rn_drop <| ev_append (n := 0) (ds := ties.map tieD) <| ev_var (d := .ref l) rfl ⟨rfl, rfl, ar_cons <| ev_tup <| ar_cons <| ev_tup <| ar_cons <| ev_int <| ar_cons <| ev_int <| ar_nil ⟨sl_le (by simp), ar_cons <| ev_tup <| ar_cons <| ev_int <| ar_cons <| ev_int <| ar_cons <| ev_int <| ar_cons <| ev_int <| ar_nil ⟨sl_le (by simp), ar_cons <| ev_tup <| ar_nil ⟨sl_le (by simp), ar_nil ⟨sl_le (by simp), ar_nil ⟨_, _, rfl, rfl, by rw [List.length_map]; exact lt_line (by omega), rn_forget (.refl _) ?_⟩⟩⟩⟩⟩⟩
    refine rn_seq <| rn_if <| tt_or <| tt_not <| tt_B <| ev_rel <| ar_cons <| ev_var (d := machD K width ties) rfl <| ar_cons <| ev_var (d := .int width) rfl <| ar_cons <| ev_var (d := .lst ((onceT ties).map tieD)) rfl <| ar_nil ⟨_, .mk width ties hw ht, _, rfl, ifF ?_⟩
    refine tt_differ (d := .str (text0 width ties)) (rp_text (mach_line hw ot) l0) (by decide) (by decide) py_str_ne py_str_nb <| ev_rel <| ar_cons <| ev_var (d := machD K width ties) rfl <| ar_nil ⟨_, .mach width _ _ _ hw ot ra, rfl, ev_op <| ev_var rfl <| ev_int <| od_ixL (d := .str (text0 width ties)) (atI_nat (n := 0) rfl) ⟨rfl, ifF <| rn_next ?_⟩⟩
    refine rn_seq <| rn_asg <| ev_init <| ar_cons <| ev_machine <| ar_cons <| ev_var (d := .int width) rfl <| ar_cons <| ev_listK <| ev_var (d := .lst (ties.map tieD)) rfl ⟨_, rfl, ar_nil ⟨width, ties, rfl, ht.2, ar_cons <| ev_listK <| ev_var (d := .lst (ps.map benD)) rfl ⟨_, rfl, ar_nil ⟨_, .mk _ ps hps.2, gt_name ?_⟩⟩⟩⟩
    refine rn_seq <| rn_if <| tt_or <| tt_not <| tt_B <| ev_rel <| ar_cons <| ev_var (d := htsD (machD K width ties) ps K) rfl <| ar_cons <| ev_var (d := .int width) rfl <| ar_cons <| ev_var (d := .lst ((onceT ties).map tieD)) rfl <| ar_cons <| ev_var (d := .lst (ps.map benD)) rfl <| ar_nil ⟨_, .mk width ties ps hw ht hps, _, rfl, ifF ?_⟩
    refine tt_differ (d := .str (text1 width ties ps)) (rp_text a1 l1) (by decide) (by decide) py_str_ne py_str_nb <| ev_rel <| ar_cons <| ev_var (d := htsD (machD K width ties) ps K) rfl <| ar_nil ⟨_, .hts width _ _ _ ps hw ot ra hps, rfl, ev_op <| ev_var rfl <| ev_int <| od_ixL (d := .str (text1 width ties ps)) (atI_nat (n := 1) rfl) ⟨rfl, ifF <| rn_next ?_⟩⟩
    refine rn_seq <| rn_asg <| ev_init <| ar_cons <| ev_listK <| ev_op <| ev_op <| ev_var (d := runsD [q0, q1, q2]) rfl <| ev_int <| od_ixL (d := runL q0.1 q0.2) (atI_nat (n := 0) rfl) <| ev_int <| od_ixL (d := .lst (q0.1.map momD)) (atI_nat (n := 0) rfl) ⟨_, rfl, ar_cons <| ev_op <| ev_op <| ev_var (d := runsD [q0, q1, q2]) rfl <| ev_int <| od_ixL (d := runL q0.1 q0.2) (atI_nat (n := 0) rfl) <| ev_int <| od_ixL (d := .int q0.2) (atI_nat (n := 1) rfl) <| ar_nil ⟨_, .mk q0.1 q0.2 k0.1.2, gt_name ?_⟩⟩
    refine rn_seq <| rn_if <| tt_or <| tt_not <| tt_B <| ev_rel <| ar_cons <| ev_var (d := runD K q0.1 q0.2) rfl <| ar_cons <| ev_op <| ev_var (d := runsD [q0, q1, q2]) rfl <| ev_int <| od_ixL (d := runL q0.1 q0.2) (atI_nat (n := 0) rfl) <| ar_nil ⟨_, .mk q0.1 q0.2 k0.2.2 k0.1 k0.2.1, _, rfl, ifF ?_⟩
    refine tt_differ (d := .str (text2 q0)) (rp_text a2 l2) (by decide) (by decide) py_str_ne py_str_nb <| ev_rel <| ar_cons <| ev_var (d := runD K q0.1 q0.2) rfl <| ar_nil ⟨_, .run q0.1 q0.2 k0.2.2 k0.1, rfl, ev_op <| ev_var rfl <| ev_int <| od_ixL (d := .str (text2 q0)) (atI_nat (n := 2) rfl) ⟨rfl, ifF <| rn_next ?_⟩⟩
    refine rn_seq <| rn_asg <| ev_init <| ar_cons <| ev_init <| ar_cons <| ev_listK <| ev_op <| ev_op <| ev_var (d := runsD [q0, q1, q2]) rfl <| ev_int <| od_ixL (d := runL q1.1 q1.2) (atI_nat (n := 1) rfl) <| ev_int <| od_ixL (d := .lst (q1.1.map momD)) (atI_nat (n := 0) rfl) ⟨_, rfl, ar_cons <| ev_op <| ev_op <| ev_var (d := runsD [q0, q1, q2]) rfl <| ev_int <| od_ixL (d := runL q1.1 q1.2) (atI_nat (n := 1) rfl) <| ev_int <| od_ixL (d := .int q1.2) (atI_nat (n := 1) rfl) <| ar_nil ⟨_, .mk q1.1 q1.2 k1.1.2, ?_⟩⟩
    refine ar_cons <| ev_init <| ar_cons <| ev_listK <| ev_op <| ev_op <| ev_var (d := runsD [q0, q1, q2]) rfl <| ev_int <| od_ixL (d := runL q2.1 q2.2) (atI_nat (n := 2) rfl) <| ev_int <| od_ixL (d := .lst (q2.1.map momD)) (atI_nat (n := 0) rfl) ⟨_, rfl, ar_cons <| ev_op <| ev_op <| ev_var (d := runsD [q0, q1, q2]) rfl <| ev_int <| od_ixL (d := runL q2.1 q2.2) (atI_nat (n := 2) rfl) <| ev_int <| od_ixL (d := .int q2.2) (atI_nat (n := 1) rfl) <| ar_nil ⟨_, .mk q2.1 q2.2 k2.1.2, ar_nil ⟨_, .mk _ _, gt_name ?_⟩⟩⟩
    refine rn_ret <| ev_andV <| ev_rel <| ar_cons <| ev_var (d := ringD (runD K q1.1 q1.2) (runD K q2.1 q2.2) K) rfl <| ar_cons <| ev_op <| ev_var (d := runsD [q0, q1, q2]) rfl <| ev_int <| od_ixL (d := runL q1.1 q1.2) (atI_nat (n := 1) rfl) <| ar_cons <| ev_op <| ev_var (d := runsD [q0, q1, q2]) rfl <| ev_int <| od_ixL (d := runL q2.1 q2.2) (atI_nat (n := 2) rfl) <| ar_nil ⟨_, .mk q1.1 q2.1 q1.2 q2.2 k1.2.2 k1.1 k1.2.1 k2.2.2 k2.1 k2.2.1, _, rfl, ifT ?_⟩
    exact ev_same (b := true) (d := .str (text3 q1 q2)) (rp_text a3 l3) (by decide) (by decide) py_str_ne py_str_nb <| ev_rel <| ar_cons <| ev_var (d := ringD (runD K q1.1 q1.2) (runD K q2.1 q2.2) K) rfl <| ar_nil ⟨_, .ring q1.1 q2.1 q1.2 q2.2 k1.2.2 k1.1 k2.2.2 k2.1, rfl, ev_op <| ev_var rfl <| ev_int <| od_ixL (d := .str (text3 q1 q2)) (atI_nat (n := 3) rfl) ⟨rfl, q⟩⟩
end
end Lw
end

section
set_option Elab.async false
set_option linter.all false
set_option maxRecDepth 100000
set_option maxHeartbeats 4000000
namespace Lw
open PySem PySem.Spec PyProof.Rows L2 Evl
section
variable {K : PySem.W.Frag} {w : World} {E : XK} {X : Addr → List (Str × Dt) → Mem → Prop} {Q : Dt → Mem → Prop}
def benL : Dt → Dt
  | .tup [.tup s, .int n] => .str (lineT ["beneath", partT (s.map intOf), numT n])
  | d => d
theorem rd_law (c : Clss K) (I : Isis K) {ds : List Dt} {M : Mem} (h : S_law K ds M Q X) : RnD ⟨K, E, X⟩ (t_law K w E) (startG ["script", "rows", "width", "ties", "states", "pairs", "k", "used", "names", "runs", "once", "head", "beneath", "ring", "texts", "first", "second", "third", "fourth", "told", "state", "number"] ds) M (retE Q) := by
  obtain ⟨rfl, ns, rfl, hns, q⟩ := h
  unfold t_law
  refine rn_seq <| rn_asg <| ev_call <| ar_cons <| ev_var (d := .sq (ns.map Dt.int)) rfl <| ar_nil ⟨[], [], .refl _, rfl, ns, rfl, hns, fun p rs0 => gt_name ?_⟩
  refine rn_seq <| rn_asg <| ev_call <| ar_cons <| ev_var (d := .ref p) rfl <| ar_nil ⟨[(p, rowsM rs0)], [], .refl _, p, rs0, rfl, rfl, fun width ties states rs1 hw ht ht21 hst => gt_unl rfl <| gs_cons <| gt_name <| gs_cons <| gt_name <| gs_cons <| gt_name <| gs_nil ?_⟩
  have hsp : 0 < states.length := List.length_pos_iff.mpr hst.1
  refine rn_seq <| rn_asg <| ev_lstM <| ar_nil ⟨sl_le (by simp), fun P => gt_name ?_⟩
  -- pairs
  refine rn_seq <| rn_for <| it_rng1 <| ar_cons <| ev_op <| ev_int <| ev_draw <| ar_cons <| ev_var (d := .ref p) rfl <| ar_cons <| ev_int <| ar_nil ⟨p, 6, rs1, [(P, .lst [])], rfl, by decide, .refl _, fun r rs2 r0 r1 => od_addI <| ar_nil ⟨1 + r, rfl, by omega, by omega, fun i Γ' M' => ∃ (ps : List (List Int × Int)) (rs' : List Int), (∀ x ∈ ps, numsOk x.1 ∧ cntOk x.2) ∧ ps.length = i ∧ M' = [(p, rowsM rs'), (P, .lst (ps.map benD))] ∧ ∃ a b, Γ' = [some (.sq (ns.map Dt.int)), some (.ref p), some (.int width), some (.lst (ties.map tieD)), some (.lst (states.map tupI)), some (.ref P), a, none, none, none, none, none, none, none, none, none, none, none, none, none, b, none], ⟨[], rs2, (fun x hx => by cases hx), rfl, rfl, none, none, rfl⟩, ?_, ?_⟩⟩
  · rintro i d Γ' M' hd ⟨ps, rs', hps, hl, rfl, a, b, rfl⟩
    obtain ⟨hi, rfl⟩ := range_at hd
    refine gt_name <| rn_seq <| rn_asg <| ev_op <| ev_var (d := .lst (states.map tupI)) rfl <| ev_draw <| ar_cons <| ev_var (d := .ref p) rfl <| ar_cons <| ev_cb <| ar_cons <| ev_var (d := .lst (states.map tupI)) rfl <| ar_nil <| cd_lenL <| ar_nil ⟨p, _, rs', [(P, .lst (ps.map benD))], rfl, by rw [List.length_map]; omega, .refl _, fun k rs3 k0 k1 => ?_⟩
    rw [List.length_map] at k1
    obtain ⟨s, hs, hsm⟩ := pick k0 k1
    refine od_ixL (atI_map k0 hs) <| gt_name ?_
    refine rn_drop <| ev_append (n := 1) (ds := ps.map benD) <| ev_var (d := .ref P) rfl ⟨rfl, rfl, ar_cons <| ev_tup <| ar_cons <| ev_var (d := tupI s) rfl <| ar_cons <| ev_call <| ar_cons <| ev_var (d := .ref p) rfl <| ar_nil ⟨[(p, rowsM rs3)], [(P, .lst (ps.map benD))], .refl _, p, rs3, rfl, rfl, fun n rs4 hn => ar_nil ⟨two_le, ar_nil ⟨_, _, rfl, rfl, by rw [List.length_map]; exact lt_line (by omega), ps ++ [(s, n)], rs4, fun x hx => ?_, by rw [List.length_append, hl]; rfl, by rw [List.map_append]; rfl, _, _, rfl⟩⟩⟩⟩
    rcases List.mem_append.mp hx with hx | hx
    · exact hps x hx
    · obtain rfl := List.mem_singleton.mp hx
      exact ⟨hst.2.2 s hsm, hn⟩
  rintro Γ' M' ⟨ps, rs5, hps, hpl, rfl, ga, gb, rfl⟩
  rw [List.length_map, List.length_range] at hpl
  have hpl2 : 1 ≤ ps.length ∧ ps.length ≤ 6 := by omega
  have hpo : pairsOk ps := ⟨hps, by omega⟩
  refine rn_know (i := 5) (a := P) (d := .lst (ps.map benD)) (Mr := [(p, rowsM rs5)]) rfl (List.Perm.swap _ _ _) (.lst _) ?_
  refine rn_seq <| rn_asg <| ev_lstM <| ar_nil ⟨sl_le (by simp), fun U => gt_name ?_⟩
  -- names
  refine rn_seq <| rn_asg <| ev_lc (vs := [6]) (gfix_name (i := 6) (vs := [6]) (by decide)) <| it_rng1 <| ar_cons <| ev_int <| ar_nil ⟨3, rfl, by decide, by decide, by rw [List.length_map, List.length_range]; exact sl_le (by decide), fun i acc M' => ∃ (xs : List Str) (rs' : List Int), (∀ x ∈ xs, isNameB x = true) ∧ acc = xs.map Dt.str ∧ xs.length = i ∧ M' = [(p, rowsM rs'), (U, .lst (xs.map Dt.str))], ⟨[], rs5, (fun x hx => by cases hx), rfl, rfl, rfl⟩, ?_, ?_⟩
  · rintro i d acc M' hd ⟨xs, rs', hxs, rfl, hl, rfl⟩
    obtain ⟨hi, rfl⟩ := range_at hd
    have hi3 : i < 3 := hi
    refine gt_name <| tt_yes <| ifT <| ev_call <| ar_cons <| ev_var (d := .ref p) rfl <| ar_cons <| ev_var (d := .ref U) rfl <| ar_nil ⟨[(p, rowsM rs'), (U, .lst (xs.map Dt.str))], [], .refl _, p, U, rs', xs, rfl, rfl, by omega, hxs, fun x rs3 hx => ⟨xs ++ [x], rs3, fun y hy => ?_, by rw [List.map_append]; rfl, by rw [List.length_append, hl]; rfl, rfl⟩⟩
    rcases List.mem_append.mp hy with hy | hy
    · exact hxs y hy
    · obtain rfl := List.mem_singleton.mp hy
      exact hx
  rintro acc M' ⟨names, rs6, hnm, rfl, hnl, rfl⟩
  rw [List.length_map, List.length_range] at hnl
  have hnl3 : names.length = 3 := hnl
  refine gt_name <| rn_forget (a := U) (mo := .lst (names.map Dt.str)) (Mr := [(p, rowsM rs6)]) (List.Perm.swap _ _ _) ?_
  -- runs
  refine rn_seq <| rn_asg <| ev_lc (vs := [6]) (gfix_name (i := 6) (vs := [6]) (by decide)) <| it_rng1 <| ar_cons <| ev_int <| ar_nil ⟨3, rfl, by decide, by decide, by rw [List.length_map, List.length_range]; exact sl_le (by decide), fun i acc M' => ∃ (xs : List (List (Int × Str) × Int)) (rs' : List Int), (∀ x ∈ xs, momsOk x.1 ∧ x.1.length ≤ 10 ∧ cntOk x.2) ∧ acc = xs.map (fun x => runL x.1 x.2) ∧ xs.length = i ∧ M' = [(p, rowsM rs')], ⟨[], rs6, (fun x hx => by cases hx), rfl, rfl, rfl⟩, ?_, ?_⟩
  · rintro i d acc M' hd ⟨xs, rs', hxs, rfl, hl, rfl⟩
    obtain ⟨hi, rfl⟩ := range_at hd
    refine gt_name <| tt_yes <| ifT <| ev_call <| ar_cons <| ev_var (d := .ref p) rfl <| ar_cons <| ev_var (d := .lst (names.map Dt.str)) rfl <| ar_nil ⟨[(p, rowsM rs')], [], .refl _, p, rs', names, rfl, rfl, (fun e => by rw [e] at hnl3; cases hnl3), by omega, hnm, fun ms st rs3 hms hml hst => ⟨xs ++ [(ms, st)], rs3, fun y hy => ?_, by rw [List.map_append]; rfl, by rw [List.length_append, hl]; rfl, rfl⟩⟩
    rcases List.mem_append.mp hy with hy | hy
    · exact hxs y hy
    · obtain rfl := List.mem_singleton.mp hy
      exact ⟨hms, hml, hst⟩
  rintro acc M' ⟨runs, rs7, hrs, rfl, hrl, rfl⟩
  rw [List.length_map, List.length_range] at hrl
  obtain ⟨q0, q1, q2, rfl⟩ : ∃ q0 q1 q2, runs = [q0, q1, q2] := by
    match runs, hrl with
    | [a, b, c], _ => exact ⟨a, b, c, rfl⟩
  refine gt_name <| rn_forget (a := p) (mo := rowsM rs7) (Mr := []) (.refl _) ?_
  have hk : DrawOk width ties ps [q0, q1, q2] := ⟨hw, ht, ht21, hpo, hpl2.2, (fun e => by rw [e] at hpl2; exact absurd hpl2.1 (by decide)), rfl, hrs⟩
  clear hrs hrl hnl hnl3 hnm hpl hps hst hsp
  have hps := hpo
  have hpne := hk.pne
  have ot := once_tiesOk ht
  have o21 := once_len ties
  have ra := rows_are ht.2
  have k0 := hk.r q0 (by simp)
  have k1 := hk.r q1 (by simp)
  have k2 := hk.r q2 (by simp)
  have l0 : (machLs width (onceT ties)).length ≤ 30 := by rw [mach_len]; omega
  have l1 : (machLs width (onceT ties) ++ ps.map benW).length ≤ 30 := by rw [List.length_append, mach_len, List.length_map]; omega
  have l2 : (runLs "run" q0.1 q0.2).length ≤ 30 := by rw [run_len]; have := k0.2.1; omega
  have l3 : (runLs "ring" q1.1 q1.2 ++ runLs "loop" q2.1 q2.2).length ≤ 30 := by rw [List.length_append, run_len, run_len]; have := k1.2.1; have := k2.2.1; omega
  have l4 : (machLs width ties).length ≤ 30 := by rw [mach_len]; omega
  have l5 : (machLs width ties ++ ps.map benW).length ≤ 30 := by rw [List.length_append, mach_len, List.length_map]; omega
  have a1 : ∀ l ∈ machLs width (onceT ties) ++ ps.map benW, lineOk l := fun l hl => by
    rcases List.mem_append.mp hl with hl | hl
    · exact mach_line hw ot l hl
    · exact ben_line hps l hl
  have a2 : ∀ l ∈ runLs "run" q0.1 q0.2, lineOk l := run_line (lit_word _ (by decide +kernel)) k0.2.2 k0.1
  have a3 : ∀ l ∈ runLs "ring" q1.1 q1.2 ++ runLs "loop" q2.1 q2.2, lineOk l := fun l hl => by
    rcases List.mem_append.mp hl with hl | hl
    · exact run_line (lit_word _ (by decide +kernel)) k1.2.2 k1.1 l hl
    · exact run_line (lit_word _ (by decide +kernel)) k2.2.2 k2.1 l hl
  have a5 : ∀ l ∈ machLs width ties ++ ps.map benW, lineOk l := fun l hl => by
    rcases List.mem_append.mp hl with hl | hl
    · exact mach_line hw ht l hl
    · exact ben_line hps l hl
  -- once, head, beneath, ring
  refine rn_seq <| rn_asg <| ev_rel <| ar_cons <| ev_var (d := .lst (ties.map tieD)) rfl <| ar_nil ⟨_, .mk ties ht, gt_name ?_⟩
  have w5 := (numT_cnt hw).2.1
  refine rn_seq <| rn_asg <| ev_lst <| ar_cons <| ev_op <| ev_str <| ev_cb <| ar_cons <| ev_var (d := .int width) rfl <| ar_nil <| cd_strI (log_ok (num_of_cnt hw)) <| od_addS (add_small (m := 10) (by decide +kernel) w5 (by decide)) <| ar_nil ⟨sl_le (by simp), gt_name ?_⟩
  rw [show Dt.lst [Dt.str (("machine " : Str) ++ Str.ofString (toString width))] = textsD [["machine", numT width]] by
    show Dt.lst [Dt.str (("machine " : Str) ++ numT width)] = _
    rw [mach_text]
    rfl]
  refine rn_seq <| rn_asg <| ev_map (vs := [20, 21]) benL (gfix_t (gfix_cons (gfix_name (i := 20) (vs := [20, 21]) (by decide)) (gfix_cons (gfix_name (i := 21) (vs := [20, 21]) (by decide)) gfix_nil))) <| it_any <| ev_var (d := .lst (ps.map benD)) rfl ⟨_, rfl, by rw [List.length_map]; exact sl_le (by omega), fun i d hd => ?_, ?_⟩
  · rw [List.getElem?_map] at hd
    obtain ⟨⟨s, n⟩, hi, rfl⟩ := Option.map_eq_some_iff.mp hd
    have hp := hps.1 _ (List.mem_of_getElem? hi)
    have s1 : (partT s).length ≤ 606 := part_len hp.1
    have n1 : (numT n).length ≤ 5 := (numT_cnt hp.2).2.1
    have c1 : (" " : Str).length = 1 := by decide +kernel
    have c9 : ("beneath " : Str).length = 8 := by decide +kernel
    refine gt_tup rfl <| gs_cons <| gt_name <| gs_cons <| gt_name <| gs_nil <| ev_op <| ev_op <| ev_op <| ev_str <| ev_rel <| ar_cons <| ev_var (d := tupI s) rfl <| ar_nil ⟨_, .mk s hp.1, od_addS (add_small (m := 8) (Nat.le_of_eq c9) s1 (by decide)) <| ev_str <| od_addS ?_ <| ev_cb <| ar_cons <| ev_var (d := .int n) rfl <| ar_nil <| cd_strI (log_ok (num_of_cnt hp.2)) <| od_addS ?_ ⟨?_, rfl⟩⟩
    · refine add_small (m := 700) (n := 1) ?_ (Nat.le_of_eq c1) (by decide)
      rw [Str.length_append]
      omega
    · refine add_small (m := 700) (n := 5) ?_ n1 (by decide)
      rw [Str.length_append, Str.length_append]
      omega
    · show Dt.str (("beneath " : Str) ++ partT s ++ (" " : Str) ++ numT n) = Dt.str (lineT ["beneath", partT ((s.map Dt.int).map intOf), numT n])
      rw [ben_text, intOf_map]
  rw [show (ps.map benD).map benL = ((ps.map benW).map lineT).map Dt.str by
    rw [List.map_map, List.map_map, List.map_map]
    refine List.map_congr_left fun x _ => ?_
    obtain ⟨s, n⟩ := x
    show Dt.str (lineT ["beneath", partT ((s.map Dt.int).map intOf), numT n]) = _
    rw [intOf_map]
    rfl]
  refine gt_name ?_
  refine rn_seq <| rn_asg <| ev_op <| ev_rel <| ar_cons <| ev_str <| ar_cons <| ev_op <| ev_var (d := runsD [q0, q1, q2]) rfl <| ev_int <| od_ixL (d := runL q1.1 q1.2) (atI_nat (n := 1) rfl) <| ar_nil ⟨_, .mk "ring" q1.1 q1.2 k1.2.2 k1.1 (by decide +kernel), ev_rel <| ar_cons <| ev_str <| ar_cons <| ev_op <| ev_var (d := runsD [q0, q1, q2]) rfl <| ev_int <| od_ixL (d := runL q2.1 q2.2) (atI_nat (n := 2) rfl) <| ar_nil ⟨_, .mk "loop" q2.1 q2.2 k2.2.2 k2.1 (by decide +kernel), td_add (by rw [List.length_append] at l3; omega) <| gt_name ?_⟩⟩
  -- texts
  have add0 : ∀ {Z : Cq} {M : Mem} {Q : Dt → Mem → Prop} {ts : List Trip}, ts.length ≤ 21 → Q (textsD (machLs width ts)) M → OpD Z (rAddA Z.K) (textsD [["machine", numT width]]) (textsD (ts.map tieW)) M Q := fun h q => td_add (by rw [List.length_map]; show 1 + _ ≤ _; omega) q
  refine rn_seq <| rn_asg <| ev_lst <| ar_cons <| join_textD (ls := machLs width (onceT ties)) ⟨by omega, mach_line hw ot⟩ <| ev_op <| ev_var rfl <| ev_rel <| ar_cons <| ev_var (d := .lst ((onceT ties).map tieD)) rfl <| ar_nil ⟨_, .mk (onceT ties) ot, add0 (by omega) ⟨rfl, ?_⟩⟩
  refine ar_cons <| join_textD (ls := machLs width (onceT ties) ++ ps.map benW) ⟨by omega, a1⟩ <| ev_op <| ev_op <| ev_var rfl <| ev_rel <| ar_cons <| ev_var (d := .lst ((onceT ties).map tieD)) rfl <| ar_nil ⟨_, .mk (onceT ties) ot, add0 (by omega) <| ev_var (d := textsD (ps.map benW)) rfl <| td_add (by rw [List.length_append] at l1; omega) ⟨rfl, ?_⟩⟩
  refine ar_cons <| join_textD (ls := runLs "run" q0.1 q0.2) ⟨by omega, a2⟩ <| ev_rel <| ar_cons <| ev_str <| ar_cons <| ev_op <| ev_var (d := runsD [q0, q1, q2]) rfl <| ev_int <| od_ixL (d := runL q0.1 q0.2) (atI_nat (n := 0) rfl) <| ar_nil ⟨_, .mk "run" q0.1 q0.2 k0.2.2 k0.1 (by decide +kernel), rfl, ?_⟩
  refine ar_cons <| join_textD (ls := runLs "ring" q1.1 q1.2 ++ runLs "loop" q2.1 q2.2) ⟨by omega, a3⟩ <| ev_var rfl ⟨rfl, ar_nil ⟨sl_le (by simp), gt_name ?_⟩⟩
  -- first
  refine rn_seq <| rn_asg <| ev_rel <| ar_cons <| join_textD (ls := machLs width ties) ⟨by omega, mach_line hw ht⟩ <| ev_op <| ev_var rfl <| ev_rel <| ar_cons <| ev_var (d := .lst (ties.map tieD)) rfl <| ar_nil ⟨_, .mk ties ht, add0 ht21 ⟨rfl, ar_nil ⟨_, .mk _ _ (.mach width ties hw ht), gt_name ?_⟩⟩⟩
  refine rn_seq <| rn_if <| tt_or <| tt_B <| ev_cb <| ar_cons <| ev_var (d := machD K width ties) rfl <| ar_cons <| ev_adr <| ar_nil <| cd_isi I.iMachine I.machHts ⟨_, rfl, ifF ?_⟩
  refine tt_not <| tt_B <| ev_rel <| ar_cons <| ev_var (d := machD K width ties) rfl <| ar_cons <| ev_var (d := .int width) rfl <| ar_cons <| ev_var (d := .lst ((onceT ties).map tieD)) rfl <| ar_nil ⟨_, .mk width ties hw ht, _, rfl, ifF <| rn_next ?_⟩
  -- second
  refine rn_seq <| rn_asg <| ev_rel <| ar_cons <| join_textD (ls := machLs width ties ++ ps.map benW) ⟨by omega, a5⟩ <| ev_op <| ev_op <| ev_var rfl <| ev_rel <| ar_cons <| ev_var (d := .lst (ties.map tieD)) rfl <| ar_nil ⟨_, .mk ties ht, add0 ht21 <| ev_var (d := textsD (ps.map benW)) rfl <| td_add (by rw [List.length_append] at l5; omega) ⟨rfl, ar_nil ⟨_, .mk _ _ (.hts width ties ps hw ht hps hpne), gt_name ?_⟩⟩⟩
  refine rn_seq <| rn_if <| tt_not <| tt_B <| ev_rel <| ar_cons <| ev_var (d := htsD (machD K width ties) ps K) rfl <| ar_cons <| ev_var (d := .int width) rfl <| ar_cons <| ev_var (d := .lst ((onceT ties).map tieD)) rfl <| ar_cons <| ev_var (d := .lst (ps.map benD)) rfl <| ar_nil ⟨_, .mk width ties ps hw ht hps, _, rfl, ifF <| rn_next ?_⟩
  -- third, fourth
  refine rn_seq <| rn_asg <| ev_rel <| ar_cons <| ev_op <| ev_var rfl <| ev_int <| od_ixL (d := .str (text2 q0)) (atI_nat (n := 2) rfl) <| ar_nil ⟨_, .mk _ _ (.run q0.1 q0.2 k0.2.2 k0.1), gt_name ?_⟩
  refine rn_seq <| rn_asg <| ev_rel <| ar_cons <| ev_op <| ev_var rfl <| ev_int <| od_ixL (d := .str (text3 q1 q2)) (atI_nat (n := 3) rfl) <| ar_nil ⟨_, .mk _ _ (.ring q1.1 q2.1 q1.2 q2.2 k1.2.2 k1.1 k2.2.2 k2.1), gt_name ?_⟩
  refine rn_seq <| rn_if <| tt_or <| tt_not <| tt_B <| ev_rel <| ar_cons <| ev_var (d := runD K q0.1 q0.2) rfl <| ar_cons <| ev_op <| ev_var (d := runsD [q0, q1, q2]) rfl <| ev_int <| od_ixL (d := runL q0.1 q0.2) (atI_nat (n := 0) rfl) <| ar_nil ⟨_, .mk q0.1 q0.2 k0.2.2 k0.1 k0.2.1, _, rfl, ifF ?_⟩
  refine tt_not <| tt_B <| ev_rel <| ar_cons <| ev_var (d := ringD (runD K q1.1 q1.2) (runD K q2.1 q2.2) K) rfl <| ar_cons <| ev_op <| ev_var (d := runsD [q0, q1, q2]) rfl <| ev_int <| od_ixL (d := runL q1.1 q1.2) (atI_nat (n := 1) rfl) <| ar_cons <| ev_op <| ev_var (d := runsD [q0, q1, q2]) rfl <| ev_int <| od_ixL (d := runL q2.1 q2.2) (atI_nat (n := 2) rfl) <| ar_nil ⟨_, .mk q1.1 q2.1 q1.2 q2.2 k1.2.2 k1.1 k1.2.1 k2.2.2 k2.1 k2.2.1, _, rfl, ifF <| rn_next ?_⟩
  -- told
  refine rn_seq <| rn_asg <| ev_lst <| ar_cons <| ev_rel <| ar_cons <| ev_var (d := machD K width ties) rfl <| ar_nil ⟨_, .mach width _ _ _ hw ot ra, ar_cons <| ev_rel <| ar_cons <| ev_var (d := htsD (machD K width ties) ps K) rfl <| ar_nil ⟨_, .hts width _ _ _ ps hw ot ra hps, ar_cons <| ev_rel <| ar_cons <| ev_var (d := runD K q0.1 q0.2) rfl <| ar_nil ⟨_, .run q0.1 q0.2 k0.2.2 k0.1, ar_cons <| ev_rel <| ar_cons <| ev_var (d := ringD (runD K q1.1 q1.2) (runD K q2.1 q2.2) K) rfl <| ar_nil ⟨_, .ring q1.1 q2.1 q1.2 q2.2 k1.2.2 k1.1 k2.2.2 k2.1, ar_nil ⟨sl_le (by simp), gt_name ?_⟩⟩⟩⟩⟩
  have r4 : Rp (.lst [.str (text0 width ties), .str (text1 width ties ps), .str (text2 q0), .str (text3 q1 q2)]) (3 + 4 * (1201502 + 2)) 1 := rp_lst fun d hd => by
    rcases List.mem_cons.mp hd with rfl | hd
    · exact rp_text (mach_line hw ot) l0
    · rcases List.mem_cons.mp hd with rfl | hd
      · exact rp_text a1 l1
      · rcases List.mem_cons.mp hd with rfl | hd
        · exact rp_text a2 l2
        · obtain rfl := List.mem_singleton.mp hd
          exact rp_text a3 l3
  refine rn_seq <| rn_if <| tt_differ r4 (by decide) (by decide) py_lst_ne py_lst_nb <| ev_var rfl ⟨rfl, ev_var rfl ⟨rfl, ifF <| rn_next ?_⟩⟩
  refine rn_seq <| rn_if <| tt_not <| tt_B <| ev_rel <| ar_cons <| ev_var (d := .int width) rfl <| ar_cons <| ev_var (d := .lst (ties.map tieD)) rfl <| ar_cons <| ev_var (d := .lst ((onceT ties).map tieD)) rfl <| ar_cons <| ev_var (d := .lst (ps.map benD)) rfl <| ar_cons <| ev_var (d := runsD [q0, q1, q2]) rfl <| ar_cons <| ev_var rfl <| ar_nil ⟨_, .mk width ties ps q0 q1 q2 hk, _, rfl, ifF <| rn_next ?_⟩
  refine rn_ret <| ev_andV <| ev_rel <| ar_cons <| ev_var (d := machD K width ties) rfl <| ar_cons <| ev_var (d := .int width) rfl <| ar_cons <| ev_var (d := .lst ((onceT ties).map tieD)) rfl <| ar_nil ⟨_, .mk width ties hw ht, _, rfl, ifT ?_⟩
  exact ev_same (b := true) (d := .str (text0 width ties)) (rp_text (mach_line hw ot) l0) (by decide) (by decide) py_str_ne py_str_nb <| ev_rel <| ar_cons <| ev_var (d := machD K width ties) rfl <| ar_nil ⟨_, .mach width _ _ _ hw ot ra, rfl, ev_op <| ev_var rfl <| ev_int <| od_ixL (d := .str (text0 width ties)) (atI_nat (n := 0) rfl) ⟨rfl, q _⟩⟩
end
end Lw
end

section
set_option Elab.async false
set_option linter.all false
set_option maxRecDepth 100000
set_option maxHeartbeats 0
namespace Lw
open PySem PySem.Spec PyProof.Rows L2
/-! ### the head: what the module is made of -/
def fn0 : List He.DefD := [⟨("is_name", none), "is_name", "is_name", defArgs s_is_name, defBody s_is_name, defScope s_is_name, [], []⟩,
  ⟨("joined", none), "joined", "joined", defArgs s_joined, defBody s_joined, defScope s_joined, [], []⟩,
  ⟨("Run", some "__init__"), "__init__", "Run.__init__", defArgs s_Run_init, defBody s_Run_init, defScope s_Run_init, [], []⟩,
  ⟨("Machine", some "tie"), "tie", "Machine.tie", defArgs s_Machine_tie, defBody s_Machine_tie, defScope s_Machine_tie, [], []⟩,
  ⟨("Machine", some "__init__"), "__init__", "Machine.__init__", defArgs s_Machine_init, defBody s_Machine_init, defScope s_Machine_init, [], []⟩,
  ⟨("Machine", some "ties_from"), "ties_from", "Machine.ties_from", defArgs s_Machine_ties_from, defBody s_Machine_ties_from, defScope s_Machine_ties_from, [], []⟩,
  ⟨("Machine", some "rows"), "rows", "Machine.rows", defArgs s_Machine_rows, defBody s_Machine_rows, defScope s_Machine_rows, [], []⟩,
  ⟨("Machine", some "heads"), "heads", "Machine.heads", defArgs s_Machine_heads, defBody s_Machine_heads, defScope s_Machine_heads, [], []⟩,
  ⟨("Ring", some "__init__"), "__init__", "Ring.__init__", defArgs s_Ring_init, defBody s_Ring_init, defScope s_Ring_init, [], []⟩,
  ⟨("Heights", some "__init__"), "__init__", "Heights.__init__", defArgs s_Heights_init, defBody s_Heights_init, defScope s_Heights_init, [], []⟩]
def fn1 : List He.DefD := [⟨("is_count", none), "is_count", "is_count", defArgs s_is_count, defBody s_is_count, defScope s_is_count, [], []⟩,
  ⟨("numbers_text", none), "numbers_text", "numbers_text", defArgs s_numbers_text, defBody s_numbers_text, defScope s_numbers_text, [], []⟩,
  ⟨("numbers_of", none), "numbers_of", "numbers_of", defArgs s_numbers_of, defBody s_numbers_of, defScope s_numbers_of, [], []⟩,
  ⟨("part_of", none), "part_of", "part_of", defArgs s_part_of, defBody s_part_of, defScope s_part_of, [], []⟩,
  ⟨("values_at", none), "values_at", "values_at", defArgs s_values_at, defBody s_values_at, defScope s_values_at, [], []⟩,
  ⟨("rows_from", none), "rows_from", "rows_from", defArgs s_rows_from, defBody s_rows_from, defScope s_rows_from, [], []⟩,
  ⟨("run_from", none), "run_from", "run_from", defArgs s_run_from, defBody s_run_from, defScope s_run_from, [], []⟩,
  ⟨("machine_from", none), "machine_from", "machine_from", defArgs s_machine_from, defBody s_machine_from, defScope s_machine_from, [], []⟩,
  ⟨("read_paper", none), "read_paper", "read_paper", defArgs s_read_paper, defBody s_read_paper, defScope s_read_paper, [], []⟩,
  ⟨("run_lines", none), "run_lines", "run_lines", defArgs s_run_lines, defBody s_run_lines, defScope s_run_lines, [], []⟩]
def fn2 : List He.DefD := [⟨("machine_lines", none), "machine_lines", "machine_lines", defArgs s_machine_lines, defBody s_machine_lines, defScope s_machine_lines, [], []⟩,
  ⟨("print_paper", none), "print_paper", "print_paper", defArgs s_print_paper, defBody s_print_paper, defScope s_print_paper, [], []⟩,
  ⟨("_law_tape", none), "_law_tape", "_law_tape", defArgs s__law_tape, defBody s__law_tape, defScope s__law_tape, [], []⟩,
  ⟨("_law_draw", none), "_law_draw", "_law_draw", defArgs s__law_draw, defBody s__law_draw, defScope s__law_draw, [], []⟩,
  ⟨("_law_name", none), "_law_name", "_law_name", defArgs s__law_name, defBody s__law_name, defScope s__law_name, [], []⟩,
  ⟨("_law_number", none), "_law_number", "_law_number", defArgs s__law_number, defBody s__law_number, defScope s__law_number, [], []⟩,
  ⟨("_law_integers", none), "_law_integers", "_law_integers", defArgs s__law_integers, defBody s__law_integers, defScope s__law_integers, [], []⟩,
  ⟨("_law_machine", none), "_law_machine", "_law_machine", defArgs s__law_machine, defBody s__law_machine, defScope s__law_machine, [], []⟩,
  ⟨("_law_run", none), "_law_run", "_law_run", defArgs s__law_run, defBody s__law_run, defScope s__law_run, [], []⟩,
  ⟨("_law_once", none), "_law_once", "_law_once", defArgs s__law_once, defBody s__law_once, defScope s__law_once, [], []⟩]
def fn3 : List He.DefD := [⟨("_law_part", none), "_law_part", "_law_part", defArgs s__law_part, defBody s__law_part, defScope s__law_part, [], []⟩,
  ⟨("_law_tie_lines", none), "_law_tie_lines", "_law_tie_lines", defArgs s__law_tie_lines, defBody s__law_tie_lines, defScope s__law_tie_lines, [], []⟩,
  ⟨("_law_run_lines", none), "_law_run_lines", "_law_run_lines", defArgs s__law_run_lines, defBody s__law_run_lines, defScope s__law_run_lines, [], []⟩,
  ⟨("_law_machine_is", none), "_law_machine_is", "_law_machine_is", defArgs s__law_machine_is, defBody s__law_machine_is, defScope s__law_machine_is, [], []⟩,
  ⟨("_law_heights_is", none), "_law_heights_is", "_law_heights_is", defArgs s__law_heights_is, defBody s__law_heights_is, defScope s__law_heights_is, [], []⟩,
  ⟨("_law_run_is", none), "_law_run_is", "_law_run_is", defArgs s__law_run_is, defBody s__law_run_is, defScope s__law_run_is, [], []⟩,
  ⟨("_law_ring_is", none), "_law_ring_is", "_law_ring_is", defArgs s__law_ring_is, defBody s__law_ring_is, defScope s__law_ring_is, [], []⟩,
  ⟨("_law_made", none), "_law_made", "_law_made", defArgs s__law_made, defBody s__law_made, defScope s__law_made, [], []⟩,
  ⟨("law", none), "law", "law", defArgs s_law, defBody s_law, defScope s_law, [], []⟩]
def fn : List He.DefD := fn0 ++ fn1 ++ fn2 ++ fn3
def fa0 : List He.Fa := [.glo "is_name",
  .glo "joined",
  .glo "is_count",
  .glo "numbers_text",
  .glo "numbers_of",
  .glo "part_of",
  .glo "values_at",
  .glo "rows_from",
  .glo "run_from",
  .glo "machine_from",
  .glo "read_paper",
  .glo "run_lines",
  .glo "machine_lines",
  .glo "print_paper",
  .glo "_law_tape",
  .glo "_law_draw",
  .glo "_law_name",
  .glo "_law_number",
  .glo "_law_integers",
  .glo "_law_machine"]
def fa1 : List He.Fa := [.glo "_law_run",
  .glo "_law_once",
  .glo "_law_part",
  .glo "_law_tie_lines",
  .glo "_law_run_lines",
  .glo "_law_machine_is",
  .glo "_law_heights_is",
  .glo "_law_run_is",
  .glo "_law_ring_is",
  .glo "_law_made",
  .glo "law",
  .glo "Run",
  .cls "Run",
  .mkr "Run",
  .glo "Ring",
  .cls "Ring",
  .mkr "Ring",
  .glo "Heights",
  .cls "Heights",
  .mkr "Heights"]
def fa2 : List He.Fa := [.glo "Machine",
  .cls "Machine",
  .mkr "Machine",
  .noat "Run" "moments",
  .noat "Run" "steps",
  .noat "Ring" "lead",
  .noat "Ring" "loop",
  .noat "Heights" "machine",
  .noat "Heights" "beneath",
  .noat "Machine" "width",
  .noat "Machine" "total",
  .noat "Machine" "table",
  .meth "Machine" "tie",
  .meth "Machine" "ties_from",
  .meth "Machine" "rows",
  .meth "Machine" "heads",
  .glo "PAPER_LINES",
  .str "LETTERS" "abcdefghijklmnopqrstuvwxyz",
  .str "DIGITS" "0123456789",
  .free "len"]
def fa3 : List He.Fa := [.free "str",
  .free "tuple",
  .free "sorted",
  .free "int",
  .free "zip",
  .free "isinstance",
  .free "range",
  .free "repr",
  .free "list"]
def fa : List He.Fa := fa0 ++ fa1 ++ fa2 ++ fa3
/-- own checks of the part of the heap -/
def insB (x : Str) (K : PySem.W.Frag) : Bool := He.eqO (PySem.W.findIn K (.ref (He.ga K x)) "__class__") (some (some (.builtin "object.__class__"))) && (He.eqO (PySem.W.specialIn K (.builtin "object.__class__") "__get__") (some (some (.builtin "getset_descriptor.__get__"))) &&
  (decide (PySem.W.takesIn K (.builtin "object.__class__") = some true) && (decide (PySem.W.mroIn K (He.ga K x) (.type "object") = some true) && decide (PySem.W.kitOne K (.ref (He.ga K x)) (.ref (He.ga K x)) = some true))))
def kitB (x y : Str) (K : PySem.W.Frag) : Bool := decide (PySem.W.kitOne K (.ref (He.ga K x)) (.ref (He.ga K y)) = some false)
def formB (q : Str × List Str) (K : PySem.W.Frag) : Bool := match PySem.W.nsIn K (He.ga K "PAPER_LINES") q.1 with
  | some (some (.ref t)) => (match K.lookup t with
    | some ⟨.type "tuple", _, .seq its _, _⟩ => He.relAll (q.2.map V.str) its.toList
    | _ => false)
  | _ => false
def gs : List (PySem.W.Frag → Bool) := [insB "Run", insB "Ring", insB "Heights", insB "Machine", kitB "Ring" "Run", kitB "Machine" "Run", kitB "Machine" "Ring", kitB "Machine" "Heights", kitB "Heights" "Run", kitB "Heights" "Ring"] ++ paperForms.map formB
def tabs : List He.Tab := [(fun K => He.ga K "PAPER_LINES", paperForms.map (·.1))]
abbrev AlX : Type := He.AlT × Bool
def obsX (g : Addr → Option Obj) : AlX := (He.obsT fa fn tabs (He.frG g (He.asD g 5)), gs.all fun p => p (He.frG g (He.asD g 5)))
def SaysX (w : World) (K : PySem.W.Frag) : Prop := He.SaysT fa fn tabs w K ∧ (gs.all fun p => p K) = true
def hk : PySem.W.Hook where
  α := AlX
  obs := fun s => obsX s.heap.get?
  val := fun w => (He.valT fn tabs w, true)
  says := fun w h => ∃ K : PySem.W.Frag, K.In h ∧ SaysX w K
  of := fun _ _ e => ⟨_, He.frG_in, congrArg Prod.fst e, congrArg Prod.snd e⟩
  keeps := fun _ _ _ ⟨K, hK, c⟩ k => ⟨K, PySem.W.Frag.In.keeps hK k, c⟩
def ob (s : PySem.W.SharedT) : AlX := obsX (HandSHeadRun.getT s)
theorem ob_eq (s : PySem.W.SharedT) : ob s = hk.obs s.abs := by
  have e : HandSHeadRun.getT s = s.abs.heap.get? := funext (HandSHeadRun.getT_eq s)
  show obsX _ = obsX _
  rw [e]
abbrev Rw : PySem.W.OpenRow := PySem.W.OpenLaw.row PySem.Challenge.rw_betweenanytwosteps_k80_papers_read_back
abbrev qv : Program := PySem.W.view Rw.prog [69]
def names0 : List PySem.Str := ["_wall",
  "StepsError",
  "TooMany",
  "NoSuch",
  "NotNow",
  "BadRun",
  "Stuck",
  "BadPaper",
  "LETTERS",
  "is_name",
  "DIGITS",
  "joined",
  "MOST_STEPS",
  "with_value",
  "taken_at"]
def names1 : List PySem.Str := ["after_event",
  "take",
  "leave",
  "changed",
  "target",
  "move",
  "may_ask",
  "start",
  "request",
  "after_step",
  "check_times",
  "played_from",
  "played",
  "Run",
  "Machine"]
def names2 : List PySem.Str := ["Ring",
  "PAPER_LINES",
  "Heights",
  "is_count",
  "numbers_text",
  "numbers_of",
  "part_of",
  "values_at",
  "rows_from",
  "run_from",
  "machine_from",
  "read_paper",
  "run_lines",
  "machine_lines",
  "print_paper"]
def names3 : List PySem.Str := ["_law_tape",
  "_law_draw",
  "_law_name",
  "_law_number",
  "_law_integers",
  "_law_machine",
  "_law_run",
  "_law_once",
  "_law_part",
  "_law_tie_lines",
  "_law_run_lines",
  "_law_machine_is",
  "_law_heights_is",
  "_law_run_is",
  "_law_ring_is"]
def names4 : List PySem.Str := ["_law_made"]
def names : List PySem.Str := names0 ++ names1 ++ names2 ++ names3 ++ names4
end Lw
end

section
set_option Elab.async false
set_option linter.all false
set_option maxRecDepth 100000
set_option maxHeartbeats 0
namespace Lw
open PySem PySem.Spec PyProof.Rows L2
section
variable {P : Program} {w : World} {K : PySem.W.Frag} {mg : Str → Option Value} {base h : Heap}
theorem SaysX.g (c : SaysX w K) (i : Nat) {p : PySem.W.Frag → Bool} (e : gs[i]? = some p) : p K = true := List.all_eq_true.mp c.2 p (List.mem_of_getElem? e)
theorem insB_ok {x : Str} (cl : Cls K (He.ga K x)) (e : insB x K = true) : C8.InsC K (He.ga K x) := by
  obtain ⟨e1, e⟩ := He.ba e
  obtain ⟨e2, e⟩ := He.ba e
  obtain ⟨e3, e⟩ := He.ba e
  obtain ⟨e4, e5⟩ := He.ba e
  exact ⟨cl, He.eqO_ok e1, He.eqO_ok e2, of_decide_eq_true e3, of_decide_eq_true e4, of_decide_eq_true e5⟩
theorem txt_of (X : K.In h) (G : h.Ns mainGlobals mg) (c : SaysX w K) : Txt K mg := ⟨He.free_ok X G (c.1.d.fact 59 rfl), (let ⟨_, e⟩ := He.str_ok X G (c.1.d.fact 57 rfl); ⟨_, e, _, rfl⟩), He.free_ok X G (c.1.d.fact 60 rfl), He.free_ok X G (c.1.d.fact 61 rfl), He.free_ok X G (c.1.d.fact 62 rfl), (let ⟨_, e⟩ := He.str_ok X G (c.1.d.fact 58 rfl); ⟨_, e, _, rfl⟩), He.free_ok X G (c.1.d.fact 63 rfl), ⟨_, He.glo_ok X G (c.1.d.fact 56 rfl), rfl⟩, He.free_ok X G (c.1.d.fact 64 rfl), ⟨_, He.glo_ok X G (c.1.d.fact 31 rfl), rfl⟩, ⟨_, He.glo_ok X G (c.1.d.fact 40 rfl), rfl⟩, ⟨_, He.glo_ok X G (c.1.d.fact 34 rfl), rfl⟩, ⟨_, He.glo_ok X G (c.1.d.fact 37 rfl), rfl⟩, He.free_ok X G (c.1.d.fact 65 rfl), He.free_ok X G (c.1.d.fact 66 rfl), He.free_ok X G (c.1.d.fact 67 rfl), He.free_ok X G (c.1.d.fact 68 rfl)⟩
theorem clss_of (c : SaysX w K) : Clss K := ⟨He.cls_ok (c.1.d.fact 32 rfl), He.cls_ok (c.1.d.fact 35 rfl), He.cls_ok (c.1.d.fact 38 rfl), He.cls_ok (c.1.d.fact 41 rfl), He.noat_ok (c.1.d.fact 43 rfl), He.noat_ok (c.1.d.fact 44 rfl), He.noat_ok (c.1.d.fact 45 rfl), He.noat_ok (c.1.d.fact 46 rfl), He.noat_ok (c.1.d.fact 47 rfl), He.noat_ok (c.1.d.fact 48 rfl), He.noat_ok (c.1.d.fact 49 rfl), He.noat_ok (c.1.d.fact 50 rfl), He.noat_ok (c.1.d.fact 51 rfl)⟩
theorem isis_of (c : SaysX w K) : Isis K := ⟨insB_ok (clss_of c).cRun (c.g 0 rfl), insB_ok (clss_of c).cRing (c.g 1 rfl), insB_ok (clss_of c).cHeights (c.g 2 rfl), insB_ok (clss_of c).cMachine (c.g 3 rfl),
  of_decide_eq_true (c.g 4 rfl), of_decide_eq_true (c.g 5 rfl), of_decide_eq_true (c.g 6 rfl), of_decide_eq_true (c.g 7 rfl), of_decide_eq_true (c.g 8 rfl), of_decide_eq_true (c.g 9 rfl)⟩
theorem strs_dv (W : Hp) : ∀ (l : List Str) (i : Nat) (v : V) (d : Dt), (l.map V.str)[i]? = some v → (l.map Dt.str)[i]? = some d → DV K W v d := fun l i v d h1 h2 => by
  rw [List.getElem?_map] at h1 h2
  cases e : l[i]? with
  | none => rw [e] at h1; cases h1
  | some x =>
    rw [e] at h1 h2
    cases h1
    cases h2
    exact .str x
theorem form_ok {es : Array DictEntry} {n : Nat} (D : KDict K w (He.ga K "PAPER_LINES") es n) {q : Str × List Str} (hq : q.2.length ≤ 4) (e : formB q K = true) (W : Hp) : ∃ v, KDct K w (He.ga K "PAPER_LINES") q.1 v ∧ DV K W v (.tq (q.2.map Dt.str)) := by
  unfold formB at e
  split at e
  · rename_i t hn
    split at e
    · rename_i od its n2 osl hl
      have rv := He.relAll_ok e
      refine ⟨.ref t, ⟨es, n, .ref t, D.at_, D.lit, hn, rfl⟩, .tq (.inr ⟨_, its, n2, hl, rfl, rfl, ?_, rv⟩) (by simp) fun i v d h1 h2 => strs_dv W q.2 i v d h1 h2⟩
      have l1 := rv.length
      rw [List.length_map, Array.length_toList] at l1
      rw [← l1]
      exact Nat.le_trans hq (by decide)
    · cases e
  · cases e
theorem tabs_of (c : SaysX w K) : Tabs K w := ⟨fun q hq W => by
  obtain ⟨es, n, D⟩ := c.1.tab 0 rfl
  have e : formB q K = true := List.all_eq_true.mp c.2 (formB q) (List.mem_append_right _ (List.mem_map_of_mem hq))
  have hl : q.2.length ≤ 4 := by
    simp only [paperForms, List.mem_cons, List.not_mem_nil, or_false] at hq
    rcases hq with rfl | rfl | rfl | rfl | rfl | rfl | rfl <;> decide
  exact form_ok D hl e W⟩
theorem fb__law_tape (X : K.In h) (G : h.Ns mainGlobals mg) (c : SaysX w K) : FnB P w K mg base 1 "_law_tape" (S__law_tape K) := by
  obtain ⟨fd, F⟩ := c.1.d.def_ 22 rfl
  exact ⟨⟨_, fd, _, (fn_ok F sc__law_tape (fun ds M Q XX hS => by obtain ⟨_, ns, rfl, _⟩ := hS; rfl) (fun cdv A outer s H E hr => der__law_tape (txt_of X G c)  cdv A outer s H E hr) fun E ds M QD XD h => rd_tape  h), He.glo_ok X G (c.1.d.fact 14 rfl), F.kp, F.bindsN fun _ _ _ _ _ _ us hl => match us, hl with | [_], _ => rfl⟩⟩
theorem fb__law_draw (X : K.In h) (G : h.Ns mainGlobals mg) (c : SaysX w K) : FnB P w K mg base 1 "_law_draw" (S__law_draw K) := by
  obtain ⟨fd, F⟩ := c.1.d.def_ 23 rfl
  exact ⟨⟨_, fd, _, (fn_ok F sc__law_draw (fun ds M Q XX hS => by obtain ⟨p, size, rs, rfl, _⟩ := hS; rfl) (fun cdv A outer s H E hr => der__law_draw (txt_of X G c)  cdv A outer s H E hr) fun E ds M QD XD h => rd_draw  h), He.glo_ok X G (c.1.d.fact 15 rfl), F.kp, F.bindsN fun _ _ _ _ _ _ us hl => match us, hl with | [_, _], _ => rfl⟩⟩
theorem fb__law_number (X : K.In h) (G : h.Ns mainGlobals mg) (c : SaysX w K) : FnB P w K mg base 2 "_law_number" (S__law_number K) := by
  obtain ⟨fd, F⟩ := c.1.d.def_ 25 rfl
  exact ⟨⟨_, fd, _, (fn_ok F sc__law_number (fun ds M Q XX hS => by obtain ⟨p, rs, rfl, _⟩ := hS; rfl) (fun cdv A outer s H E hr => der__law_number (txt_of X G c) (fb__law_draw X G c) cdv A outer s H E hr) fun E ds M QD XD h => rd_number  h), He.glo_ok X G (c.1.d.fact 17 rfl), F.kp, F.bindsN fun _ _ _ _ _ _ us hl => match us, hl with | [_], _ => rfl⟩⟩
theorem fb__law_integers (X : K.In h) (G : h.Ns mainGlobals mg) (c : SaysX w K) : FnB P w K mg base 3 "_law_integers" (S__law_integers K) := by
  obtain ⟨fd, F⟩ := c.1.d.def_ 26 rfl
  exact ⟨⟨_, fd, _, (fn_ok F sc__law_integers (fun ds M Q XX hS => by obtain ⟨p, count, rs, rfl, _⟩ := hS; rfl) (fun cdv A outer s H E hr => der__law_integers (txt_of X G c) (fb__law_draw X G c) (fb__law_number X G c) cdv A outer s H E hr) fun E ds M QD XD h => rd_integers  h), He.glo_ok X G (c.1.d.fact 18 rfl), F.kp, F.bindsN fun _ _ _ _ _ _ us hl => match us, hl with | [_, _], _ => rfl⟩⟩
theorem fb__law_machine (X : K.In h) (G : h.Ns mainGlobals mg) (c : SaysX w K) : FnB P w K mg base 4 "_law_machine" (S__law_machine K) := by
  obtain ⟨fd, F⟩ := c.1.d.def_ 27 rfl
  exact ⟨⟨_, fd, _, (fn_ok F sc__law_machine (fun ds M Q XX hS => by obtain ⟨p, rs, rfl, _⟩ := hS; rfl) (fun cdv A outer s H E hr => der__law_machine (txt_of X G c) (fb__law_draw X G c) (fb__law_integers X G c) (fb__law_number X G c) cdv A outer s H E hr) fun E ds M QD XD h => rd_machine  h), He.glo_ok X G (c.1.d.fact 19 rfl), F.kp, F.bindsN fun _ _ _ _ _ _ us hl => match us, hl with | [_], _ => rfl⟩⟩
theorem fb__law_name (X : K.In h) (G : h.Ns mainGlobals mg) (c : SaysX w K) : FnB P w K mg base 2 "_law_name" (S__law_name K) := by
  obtain ⟨fd, F⟩ := c.1.d.def_ 24 rfl
  exact ⟨⟨_, fd, _, (fn_ok F sc__law_name (fun ds M Q XX hS => by obtain ⟨p, u, rs, used, rfl, _⟩ := hS; rfl) (fun cdv A outer s H E hr => der__law_name (txt_of X G c) (fb__law_draw X G c) cdv A outer s H E hr) fun E ds M QD XD h => rd_name  h), He.glo_ok X G (c.1.d.fact 16 rfl), F.kp, F.bindsN fun _ _ _ _ _ _ us hl => match us, hl with | [_, _], _ => rfl⟩⟩
theorem fb__law_run (X : K.In h) (G : h.Ns mainGlobals mg) (c : SaysX w K) : FnB P w K mg base 3 "_law_run" (S__law_run K) := by
  obtain ⟨fd, F⟩ := c.1.d.def_ 28 rfl
  exact ⟨⟨_, fd, _, (fn_ok F sc__law_run (fun ds M Q XX hS => by obtain ⟨p, rs, ns, rfl, _⟩ := hS; rfl) (fun cdv A outer s H E hr => der__law_run (txt_of X G c) (fb__law_draw X G c) (fb__law_number X G c) cdv A outer s H E hr) fun E ds M QD XD h => rd_run  h), He.glo_ok X G (c.1.d.fact 20 rfl), F.kp, F.bindsN fun _ _ _ _ _ _ us hl => match us, hl with | [_, _], _ => rfl⟩⟩
theorem fb__law_once (X : K.In h) (G : h.Ns mainGlobals mg) (c : SaysX w K) : FnB P w K mg base 1 "_law_once" (S__law_once K) := by
  obtain ⟨fd, F⟩ := c.1.d.def_ 29 rfl
  exact ⟨⟨_, fd, _, (fn_ok F sc__law_once (fun ds M Q XX hS => by obtain ⟨_, d, hR, _⟩ := hS; cases hR <;> rfl) (fun cdv A outer s H E hr => der__law_once (txt_of X G c)  cdv A outer s H E hr) fun E ds M QD XD h => rd_once  h), He.glo_ok X G (c.1.d.fact 21 rfl), F.kp, F.bindsN fun _ _ _ _ _ _ us hl => match us, hl with | [_], _ => rfl⟩⟩
theorem fb__law_part (X : K.In h) (G : h.Ns mainGlobals mg) (c : SaysX w K) : FnB P w K mg base 1 "_law_part" (S__law_part K) := by
  obtain ⟨fd, F⟩ := c.1.d.def_ 30 rfl
  exact ⟨⟨_, fd, _, (fn_ok F sc__law_part (fun ds M Q XX hS => by obtain ⟨_, d, hR, _⟩ := hS; cases hR <;> rfl) (fun cdv A outer s H E hr => der__law_part (txt_of X G c)  cdv A outer s H E hr) fun E ds M QD XD h => rd_part  h), He.glo_ok X G (c.1.d.fact 22 rfl), F.kp, F.bindsN fun _ _ _ _ _ _ us hl => match us, hl with | [_], _ => rfl⟩⟩
theorem fb__law_run_lines (X : K.In h) (G : h.Ns mainGlobals mg) (c : SaysX w K) : FnB P w K mg base 1 "_law_run_lines" (S__law_run_lines K) := by
  obtain ⟨fd, F⟩ := c.1.d.def_ 32 rfl
  exact ⟨⟨_, fd, _, (fn_ok F sc__law_run_lines (fun ds M Q XX hS => by obtain ⟨_, d, hR, _⟩ := hS; cases hR <;> rfl) (fun cdv A outer s H E hr => der__law_run_lines (txt_of X G c)  cdv A outer s H E hr) fun E ds M QD XD h => rd_law_run_lines  h), He.glo_ok X G (c.1.d.fact 24 rfl), F.kp, F.bindsN fun _ _ _ _ _ _ us hl => match us, hl with | [_, _], _ => rfl⟩⟩
theorem fb__law_tie_lines (X : K.In h) (G : h.Ns mainGlobals mg) (c : SaysX w K) : FnB P w K mg base 2 "_law_tie_lines" (S__law_tie_lines K) := by
  obtain ⟨fd, F⟩ := c.1.d.def_ 31 rfl
  exact ⟨⟨_, fd, _, (fn_ok F sc__law_tie_lines (fun ds M Q XX hS => by obtain ⟨_, d, hR, _⟩ := hS; cases hR <;> rfl) (fun cdv A outer s H E hr => der__law_tie_lines (txt_of X G c) (fb__law_part X G c) cdv A outer s H E hr) fun E ds M QD XD h => rd_tie_lines  h), He.glo_ok X G (c.1.d.fact 23 rfl), F.kp, F.bindsN fun _ _ _ _ _ _ us hl => match us, hl with | [_], _ => rfl⟩⟩
theorem fb_is_count (X : K.In h) (G : h.Ns mainGlobals mg) (c : SaysX w K) : FnB P w K mg base 1 "is_count" (S_is_count K) := by
  obtain ⟨fd, F⟩ := c.1.d.def_ 10 rfl
  exact ⟨⟨_, fd, _, (fn_ok F sc_is_count (fun ds M Q XX hS => by obtain ⟨_, d, hR, _⟩ := hS; cases hR <;> rfl) (fun cdv A outer s H E hr => der_is_count (txt_of X G c)  cdv A outer s H E hr) fun E ds M QD XD h => rd_is_count  h), He.glo_ok X G (c.1.d.fact 2 rfl), F.kp, F.bindsN fun _ _ _ _ _ _ us hl => match us, hl with | [_], _ => rfl⟩⟩
theorem fb_is_name (X : K.In h) (G : h.Ns mainGlobals mg) (c : SaysX w K) : FnB P w K mg base 1 "is_name" (S_is_name K) := by
  obtain ⟨fd, F⟩ := c.1.d.def_ 0 rfl
  exact ⟨⟨_, fd, _, (fn_ok F sc_is_name (fun ds M Q XX hS => by obtain ⟨_, d, hR, _⟩ := hS; cases hR <;> rfl) (fun cdv A outer s H E hr => der_is_name (txt_of X G c)  cdv A outer s H E hr) fun E ds M QD XD h => rd_is_name  h), He.glo_ok X G (c.1.d.fact 0 rfl), F.kp, F.bindsN fun _ _ _ _ _ _ us hl => match us, hl with | [_], _ => rfl⟩⟩
theorem fb_numbers_of (X : K.In h) (G : h.Ns mainGlobals mg) (c : SaysX w K) : FnB P w K mg base 2 "numbers_of" (S_numbers_of K) := by
  obtain ⟨fd, F⟩ := c.1.d.def_ 12 rfl
  exact ⟨⟨_, fd, _, (fn_ok F sc_numbers_of (fun ds M Q XX hS => by obtain ⟨_, d, hR, _⟩ := hS; cases hR <;> rfl) (fun cdv A outer s H E hr => der_numbers_of (txt_of X G c) (fb_is_count X G c) cdv A outer s H E hr) fun E ds M QD XD h => rd_numbers_of  h), He.glo_ok X G (c.1.d.fact 4 rfl), F.kp, F.bindsN fun _ _ _ _ _ _ us hl => match us, hl with | [_], _ => rfl⟩⟩
theorem fb_part_of (X : K.In h) (G : h.Ns mainGlobals mg) (c : SaysX w K) : FnB P w K mg base 3 "part_of" (S_part_of K) := by
  obtain ⟨fd, F⟩ := c.1.d.def_ 13 rfl
  exact ⟨⟨_, fd, _, (fn_ok F sc_part_of (fun ds M Q XX hS => by obtain ⟨_, d, hR, _⟩ := hS; cases hR <;> rfl) (fun cdv A outer s H E hr => der_part_of (txt_of X G c) (fb_is_count X G c) (fb_is_name X G c) (fb_numbers_of X G c) cdv A outer s H E hr) fun E ds M QD XD h => rd_part_of  h), He.glo_ok X G (c.1.d.fact 5 rfl), F.kp, F.bindsN fun _ _ _ _ _ _ us hl => match us, hl with | [_, _], _ => rfl⟩⟩
theorem fb_values_at (X : K.In h) (G : h.Ns mainGlobals mg) (c : SaysX w K) : FnB P w K mg base 4 "values_at" (S_values_at K) := by
  obtain ⟨fd, F⟩ := c.1.d.def_ 14 rfl
  exact ⟨⟨_, fd, _, (fn_ok F sc_values_at (fun ds M Q XX hS => by obtain ⟨_, d, hR, _⟩ := hS; cases hR <;> rfl) (fun cdv A outer s H E hr => der_values_at (txt_of X G c) (fb_part_of X G c) cdv A outer s H E hr) fun E ds M QD XD h => rd_values_at (tabs_of c) h), He.glo_ok X G (c.1.d.fact 6 rfl), F.kp, F.bindsN fun _ _ _ _ _ _ us hl => match us, hl with | [_, _, _], _ => rfl⟩⟩
theorem fb_rows_from (X : K.In h) (G : h.Ns mainGlobals mg) (c : SaysX w K) : FnB P w K mg base 5 "rows_from" (S_rows_from K) := by
  obtain ⟨fd, F⟩ := c.1.d.def_ 15 rfl
  exact ⟨⟨_, fd, _, (fn_ok F sc_rows_from (fun ds M Q XX hS => by obtain ⟨_, d, hR, _⟩ := hS; cases hR <;> rfl) (fun cdv A outer s H E hr => der_rows_from (txt_of X G c) (fb_values_at X G c) cdv A outer s H E hr) fun E ds M QD XD h => rd_rows_from  h), He.glo_ok X G (c.1.d.fact 7 rfl), F.kp, F.bindsN fun _ _ _ _ _ _ us hl => match us, hl with | [_, _, _], _ => rfl⟩⟩
theorem mb_Run (X : K.In h) (G : h.Ns mainGlobals mg) (c : SaysX w K) : MkB P w K mg base 1 "Run" (S_Run_init K) := by
  obtain ⟨fd, F⟩ := c.1.d.def_ 2 rfl
  exact ⟨⟨_, fd, _, He.mkr_ok (c.1.d.fact 33 rfl), (fn_ok F sc_Run_init (fun ds M Q XX hS => by obtain ⟨a, es, fs, rfl, _, hR, _⟩ := hS; cases hR <;> rfl) (fun cdv A outer s H E hr => der_Run_init (txt_of X G c)  cdv A outer s H E hr) fun E ds M QD XD h => rd_Run_init (clss_of c) h), He.glo_ok X G (c.1.d.fact 31 rfl), F.bindsN fun _ _ _ _ _ _ us hl => match us, hl with | [_, _, _], _ => rfl⟩⟩
theorem fb_run_from (X : K.In h) (G : h.Ns mainGlobals mg) (c : SaysX w K) : FnB P w K mg base 6 "run_from" (S_run_from K) := by
  obtain ⟨fd, F⟩ := c.1.d.def_ 16 rfl
  exact ⟨⟨_, fd, _, (fn_ok F sc_run_from (fun ds M Q XX hS => by obtain ⟨_, d, hR, _⟩ := hS; cases hR <;> rfl) (fun cdv A outer s H E hr => der_run_from (txt_of X G c) (fb_values_at X G c) (fb_rows_from X G c) (mb_Run X G c) cdv A outer s H E hr) fun E ds M QD XD h => rd_run_from  h), He.glo_ok X G (c.1.d.fact 8 rfl), F.kp, F.bindsN fun _ _ _ _ _ _ us hl => match us, hl with | [_, _, _], _ => rfl⟩⟩
theorem mb_Ring (X : K.In h) (G : h.Ns mainGlobals mg) (c : SaysX w K) : MkB P w K mg base 1 "Ring" (S_Ring_init K) := by
  obtain ⟨fd, F⟩ := c.1.d.def_ 8 rfl
  exact ⟨⟨_, fd, _, He.mkr_ok (c.1.d.fact 36 rfl), (fn_ok F sc_Ring_init (fun ds M Q XX hS => by obtain ⟨a, es, fs, rfl, _, hR, _⟩ := hS; cases hR <;> rfl) (fun cdv A outer s H E hr => der_Ring_init (txt_of X G c)  cdv A outer s H E hr) fun E ds M QD XD h => rd_Ring_init (clss_of c) h), He.glo_ok X G (c.1.d.fact 34 rfl), F.bindsN fun _ _ _ _ _ _ us hl => match us, hl with | [_, _, _], _ => rfl⟩⟩
theorem tb_Machine_tie (X : K.In h) (G : h.Ns mainGlobals mg) (c : SaysX w K) : MtB P w K mg base 1 "Machine" "tie" (S_Machine_tie K) := by
  obtain ⟨fd, F⟩ := c.1.d.def_ 3 rfl
  exact ⟨⟨_, fd, _, He.cls_ok (c.1.d.fact 41 rfl), He.meth_ok (c.1.d.fact 52 rfl), (fn_ok F sc_Machine_tie (fun ds M Q XX hS => by obtain ⟨a, tb, width, n, T, s, f, t, rfl, _⟩ := hS; rfl) (fun cdv A outer s H E hr => der_Machine_tie (txt_of X G c)  cdv A outer s H E hr) fun E ds M QD XD h => rd_Machine_tie (clss_of c) h), F.bindsN fun _ _ _ _ _ _ us hl => match us, hl with | [_, _, _, _], _ => rfl⟩⟩
theorem mb_Machine (X : K.In h) (G : h.Ns mainGlobals mg) (c : SaysX w K) : MkB P w K mg base 2 "Machine" (S_Machine_init K) := by
  obtain ⟨fd, F⟩ := c.1.d.def_ 4 rfl
  exact ⟨⟨_, fd, _, He.mkr_ok (c.1.d.fact 42 rfl), (fn_ok F sc_Machine_init (fun ds M Q XX hS => by obtain ⟨a, width, ties, _, ⟨rfl, _⟩ | ⟨hh, rfl, _⟩⟩ := hS <;> rfl) (fun cdv A outer s H E hr => der_Machine_init (txt_of X G c) (tb_Machine_tie X G c) cdv A outer s H E hr) fun E ds M QD XD h => rd_Machine_init (clss_of c) h), He.glo_ok X G (c.1.d.fact 40 rfl), F.bindsN fun _ _ _ _ _ _ us hl => match us, hl with | [_, _, _], _ => rfl⟩⟩
theorem fb_machine_from (X : K.In h) (G : h.Ns mainGlobals mg) (c : SaysX w K) : FnB P w K mg base 6 "machine_from" (S_machine_from K) := by
  obtain ⟨fd, F⟩ := c.1.d.def_ 17 rfl
  exact ⟨⟨_, fd, _, (fn_ok F sc_machine_from (fun ds M Q XX hS => by obtain ⟨_, d, hR, _⟩ := hS; cases hR <;> rfl) (fun cdv A outer s H E hr => der_machine_from (txt_of X G c) (fb_values_at X G c) (fb_rows_from X G c) (mb_Machine X G c) cdv A outer s H E hr) fun E ds M QD XD h => rd_machine_from  h), He.glo_ok X G (c.1.d.fact 9 rfl), F.kp, F.bindsN fun _ _ _ _ _ _ us hl => match us, hl with | [_], _ => rfl⟩⟩
theorem mb_Heights (X : K.In h) (G : h.Ns mainGlobals mg) (c : SaysX w K) : MkB P w K mg base 1 "Heights" (S_Heights_init K) := by
  obtain ⟨fd, F⟩ := c.1.d.def_ 9 rfl
  exact ⟨⟨_, fd, _, He.mkr_ok (c.1.d.fact 39 rfl), (fn_ok F sc_Heights_init (fun ds M Q XX hS => by obtain ⟨a, es, fs, rfl, _, hR, _⟩ := hS; cases hR <;> rfl) (fun cdv A outer s H E hr => der_Heights_init (txt_of X G c)  cdv A outer s H E hr) fun E ds M QD XD h => rd_Heights_init (clss_of c) h), He.glo_ok X G (c.1.d.fact 37 rfl), F.bindsN fun _ _ _ _ _ _ us hl => match us, hl with | [_, _, _], _ => rfl⟩⟩
theorem fb_read_paper (X : K.In h) (G : h.Ns mainGlobals mg) (c : SaysX w K) : FnB P w K mg base 7 "read_paper" (S_read_paper K) := by
  obtain ⟨fd, F⟩ := c.1.d.def_ 18 rfl
  exact ⟨⟨_, fd, _, (fn_ok F sc_read_paper (fun ds M Q XX hS => by obtain ⟨_, d, hR, _⟩ := hS; cases hR <;> rfl) (fun cdv A outer s H E hr => der_read_paper (txt_of X G c) (fb_run_from X G c) (mb_Ring X G c) (fb_machine_from X G c) (fb_rows_from X G c) (mb_Heights X G c) cdv A outer s H E hr) fun E ds M QD XD h => rd_read_paper (clss_of c) h), He.glo_ok X G (c.1.d.fact 10 rfl), F.kp, F.bindsN fun _ _ _ _ _ _ us hl => match us, hl with | [_], _ => rfl⟩⟩
theorem tb_Machine_ties_from (X : K.In h) (G : h.Ns mainGlobals mg) (c : SaysX w K) : MtB P w K mg base 1 "Machine" "ties_from" (S_Machine_ties_from K) := by
  obtain ⟨fd, F⟩ := c.1.d.def_ 5 rfl
  exact ⟨⟨_, fd, _, He.cls_ok (c.1.d.fact 41 rfl), He.meth_ok (c.1.d.fact 53 rfl), (fn_ok F sc_Machine_ties_from (fun ds M Q XX hS => by obtain ⟨_, d, hR, _⟩ := hS; cases hR <;> rfl) (fun cdv A outer s H E hr => der_Machine_ties_from (txt_of X G c)  cdv A outer s H E hr) fun E ds M QD XD h => rd_Machine_ties_from (clss_of c) h), F.bindsN fun _ _ _ _ _ _ us hl => match us, hl with | [_, _], _ => rfl⟩⟩
theorem tb_Machine_rows (X : K.In h) (G : h.Ns mainGlobals mg) (c : SaysX w K) : MtB P w K mg base 2 "Machine" "rows" (S_Machine_rows K) := by
  obtain ⟨fd, F⟩ := c.1.d.def_ 6 rfl
  exact ⟨⟨_, fd, _, He.cls_ok (c.1.d.fact 41 rfl), He.meth_ok (c.1.d.fact 54 rfl), (fn_ok F sc_Machine_rows (fun ds M Q XX hS => by obtain ⟨_, d, hR, _⟩ := hS; cases hR <;> rfl) (fun cdv A outer s H E hr => der_Machine_rows (txt_of X G c) (tb_Machine_ties_from X G c) cdv A outer s H E hr) fun E ds M QD XD h => rd_Machine_rows (clss_of c) h), F.bindsN fun _ _ _ _ _ _ us hl => match us, hl with | [_], _ => rfl⟩⟩
theorem tb_Machine_heads (X : K.In h) (G : h.Ns mainGlobals mg) (c : SaysX w K) : MtB P w K mg base 1 "Machine" "heads" (S_Machine_heads K) := by
  obtain ⟨fd, F⟩ := c.1.d.def_ 7 rfl
  exact ⟨⟨_, fd, _, He.cls_ok (c.1.d.fact 41 rfl), He.meth_ok (c.1.d.fact 55 rfl), (fn_ok F sc_Machine_heads (fun ds M Q XX hS => by obtain ⟨_, d, hR, _⟩ := hS; cases hR <;> rfl) (fun cdv A outer s H E hr => der_Machine_heads (txt_of X G c)  cdv A outer s H E hr) fun E ds M QD XD h => rd_Machine_heads (clss_of c) h), F.bindsN fun _ _ _ _ _ _ us hl => match us, hl with | [_], _ => rfl⟩⟩
theorem fb__law_machine_is (X : K.In h) (G : h.Ns mainGlobals mg) (c : SaysX w K) : FnG P w K mg base 3 "_law_machine_is" (S__law_machine_is K) := by
  obtain ⟨fd, F⟩ := c.1.d.def_ 33 rfl
  exact ⟨⟨_, fd, _, (fn_okG F sc__law_machine_is (fun ds M Q XX hS => by obtain ⟨_, d, hR, _⟩ := hS; cases hR <;> rfl) (fun cdv A outer s H E hr hg => der__law_machine_is (txt_of X G c) (tb_Machine_rows X G c) (tb_Machine_heads X G c) cdv A outer s H E hr hg) fun E ds M QD XD h => rd_machine_is (clss_of c) (isis_of c) h), He.glo_ok X G (c.1.d.fact 25 rfl), F.kp, F.bindsN fun _ _ _ _ _ _ us hl => match us, hl with | [_, _, _], _ => rfl⟩⟩
theorem fb__law_heights_is (X : K.In h) (G : h.Ns mainGlobals mg) (c : SaysX w K) : FnG P w K mg base 4 "_law_heights_is" (S__law_heights_is K) := by
  obtain ⟨fd, F⟩ := c.1.d.def_ 34 rfl
  exact ⟨⟨_, fd, _, (fn_okG F sc__law_heights_is (fun ds M Q XX hS => by obtain ⟨_, d, hR, _⟩ := hS; cases hR <;> rfl) (fun cdv A outer s H E hr hg => der__law_heights_is (txt_of X G c) (fb__law_machine_is X G c) cdv A outer s H E hr hg) fun E ds M QD XD h => rd_heights_is (clss_of c) (isis_of c) h), He.glo_ok X G (c.1.d.fact 26 rfl), F.kp, F.bindsN fun _ _ _ _ _ _ us hl => match us, hl with | [_, _, _, _], _ => rfl⟩⟩
theorem fb__law_run_is (X : K.In h) (G : h.Ns mainGlobals mg) (c : SaysX w K) : FnG P w K mg base 1 "_law_run_is" (S__law_run_is K) := by
  obtain ⟨fd, F⟩ := c.1.d.def_ 35 rfl
  exact ⟨⟨_, fd, _, (fn_okG F sc__law_run_is (fun ds M Q XX hS => by obtain ⟨_, d, hR, _⟩ := hS; cases hR <;> rfl) (fun cdv A outer s H E hr hg => der__law_run_is (txt_of X G c)  cdv A outer s H E hr hg) fun E ds M QD XD h => rd_run_is (clss_of c) (isis_of c) h), He.glo_ok X G (c.1.d.fact 27 rfl), F.kp, F.bindsN fun _ _ _ _ _ _ us hl => match us, hl with | [_, _], _ => rfl⟩⟩
theorem fb__law_ring_is (X : K.In h) (G : h.Ns mainGlobals mg) (c : SaysX w K) : FnG P w K mg base 2 "_law_ring_is" (S__law_ring_is K) := by
  obtain ⟨fd, F⟩ := c.1.d.def_ 36 rfl
  exact ⟨⟨_, fd, _, (fn_okG F sc__law_ring_is (fun ds M Q XX hS => by obtain ⟨_, d, hR, _⟩ := hS; cases hR <;> rfl) (fun cdv A outer s H E hr hg => der__law_ring_is (txt_of X G c) (fb__law_run_is X G c) cdv A outer s H E hr hg) fun E ds M QD XD h => rd_ring_is (clss_of c) (isis_of c) h), He.glo_ok X G (c.1.d.fact 28 rfl), F.kp, F.bindsN fun _ _ _ _ _ _ us hl => match us, hl with | [_, _, _], _ => rfl⟩⟩
theorem fb_joined (X : K.In h) (G : h.Ns mainGlobals mg) (c : SaysX w K) : FnB P w K mg base 1 "joined" (S_joined K) := by
  obtain ⟨fd, F⟩ := c.1.d.def_ 1 rfl
  exact ⟨⟨_, fd, _, (fn_ok F sc_joined (fun ds M Q XX hS => by obtain ⟨_, d, hR, _⟩ := hS; cases hR <;> rfl) (fun cdv A outer s H E hr => der_joined (txt_of X G c)  cdv A outer s H E hr) fun E ds M QD XD h => rd_joined  h), He.glo_ok X G (c.1.d.fact 1 rfl), F.kp, F.bindsN fun _ _ _ _ _ _ us hl => match us, hl with | [_], _ => rfl⟩⟩
theorem fb_run_lines (X : K.In h) (G : h.Ns mainGlobals mg) (c : SaysX w K) : FnB P w K mg base 2 "run_lines" (S_run_lines K) := by
  obtain ⟨fd, F⟩ := c.1.d.def_ 19 rfl
  exact ⟨⟨_, fd, _, (fn_ok F sc_run_lines (fun ds M Q XX hS => by obtain ⟨_, d, hR, _⟩ := hS; cases hR <;> rfl) (fun cdv A outer s H E hr => der_run_lines (txt_of X G c) (fb_joined X G c) cdv A outer s H E hr) fun E ds M QD XD h => rd_run_lines (clss_of c) h), He.glo_ok X G (c.1.d.fact 11 rfl), F.kp, F.bindsN fun _ _ _ _ _ _ us hl => match us, hl with | [_, _], _ => rfl⟩⟩
theorem fb_numbers_text (X : K.In h) (G : h.Ns mainGlobals mg) (c : SaysX w K) : FnB P w K mg base 1 "numbers_text" (S_numbers_text K) := by
  obtain ⟨fd, F⟩ := c.1.d.def_ 11 rfl
  exact ⟨⟨_, fd, _, (fn_ok F sc_numbers_text (fun ds M Q XX hS => by obtain ⟨_, d, hR, _⟩ := hS; cases hR <;> rfl) (fun cdv A outer s H E hr => der_numbers_text (txt_of X G c)  cdv A outer s H E hr) fun E ds M QD XD h => rd_numbers_text  h), He.glo_ok X G (c.1.d.fact 3 rfl), F.kp, F.bindsN fun _ _ _ _ _ _ us hl => match us, hl with | [_], _ => rfl⟩⟩
theorem fb_machine_lines (X : K.In h) (G : h.Ns mainGlobals mg) (c : SaysX w K) : FnB P w K mg base 3 "machine_lines" (S_machine_lines K) := by
  obtain ⟨fd, F⟩ := c.1.d.def_ 20 rfl
  exact ⟨⟨_, fd, _, (fn_ok F sc_machine_lines (fun ds M Q XX hS => by obtain ⟨_, width, n, t, once, rfl, _⟩ := hS; rfl) (fun cdv A outer s H E hr => der_machine_lines (txt_of X G c) (fb_joined X G c) (tb_Machine_rows X G c) (fb_numbers_text X G c) cdv A outer s H E hr) fun E ds M QD XD h => rd_machine_lines (clss_of c) h), He.glo_ok X G (c.1.d.fact 12 rfl), F.kp, F.bindsN fun _ _ _ _ _ _ us hl => match us, hl with | [_], _ => rfl⟩⟩
theorem fb_print_paper (X : K.In h) (G : h.Ns mainGlobals mg) (c : SaysX w K) : FnB P w K mg base 4 "print_paper" (S_print_paper K) := by
  obtain ⟨fd, F⟩ := c.1.d.def_ 21 rfl
  exact ⟨⟨_, fd, _, (fn_ok F sc_print_paper (fun ds M Q XX hS => by obtain ⟨_, d, hR, _⟩ := hS; cases hR <;> rfl) (fun cdv A outer s H E hr => der_print_paper (txt_of X G c) (fb_run_lines X G c) (fb_machine_lines X G c) (fb_numbers_text X G c) (fb_joined X G c) cdv A outer s H E hr) fun E ds M QD XD h => rd_print_paper (clss_of c) (isis_of c) h), He.glo_ok X G (c.1.d.fact 13 rfl), F.kp, F.bindsN fun _ _ _ _ _ _ us hl => match us, hl with | [_], _ => rfl⟩⟩
theorem fb__law_made (X : K.In h) (G : h.Ns mainGlobals mg) (c : SaysX w K) : FnG P w K mg base 5 "_law_made" (S__law_made K) := by
  obtain ⟨fd, F⟩ := c.1.d.def_ 37 rfl
  exact ⟨⟨_, fd, _, (fn_okG F sc__law_made (fun ds M Q XX hS => by obtain ⟨_, d, hR, _⟩ := hS; cases hR <;> rfl) (fun cdv A outer s H E hr hg => der__law_made (txt_of X G c) (mb_Machine X G c) (fb__law_machine_is X G c) (fb_print_paper X G c) (mb_Heights X G c) (fb__law_heights_is X G c) (mb_Run X G c) (fb__law_run_is X G c) (mb_Ring X G c) (fb__law_ring_is X G c) cdv A outer s H E hr hg) fun E ds M QD XD h => rd_made (clss_of c) (isis_of c) h), He.glo_ok X G (c.1.d.fact 29 rfl), F.kp, F.bindsN fun _ _ _ _ _ _ us hl => match us, hl with | [_, _, _, _, _, _], _ => rfl⟩⟩
theorem fb_law (X : K.In h) (G : h.Ns mainGlobals mg) (c : SaysX w K) : ∃ (f : Addr) (fd : FuncData), mg "law" = some (.ref f) ∧ (∀ (s : Shared) (u : Value), BindsTo s fd ⟨[u], []⟩ [("script", u)]) ∧ ∀ base : Heap, FnOkG P w K mg base 8 f fd ["script"] (toSp K (S_law K)) := by
  obtain ⟨fd, F⟩ := c.1.d.def_ 38 rfl
  have b := FunD.bindsA (ps := ["script"]) F fun _ _ _ _ _ _ us hl => match us, hl with | [_], _ => rfl
  exact ⟨_, fd, He.glo_ok X G (c.1.d.fact 30 rfl), fun s u => b s [u] rfl, fun base => (fn_okG F sc_law (fun ds M Q XX hS => by obtain ⟨_, ns, rfl, _⟩ := hS; rfl) (fun cdv A outer s H E hr hg => der_law (txt_of X G c) (fb__law_tape X G c) (fb__law_machine X G c) (fb__law_draw X G c) (fb__law_number X G c) (fb__law_name X G c) (fb__law_run X G c) (fb__law_once X G c) (fb__law_part X G c) (fb__law_run_lines X G c) (fb__law_tie_lines X G c) (fb_read_paper X G c) (fb__law_machine_is X G c) (fb__law_heights_is X G c) (fb__law_run_is X G c) (fb__law_ring_is X G c) (fb_print_paper X G c) (fb__law_made X G c) cdv A outer s H E hr hg) fun E ds M QD XD h => rd_law (clss_of c) (isis_of c) h)⟩
end
end Lw
end

section
set_option Elab.async false
set_option linter.all false
set_option maxRecDepth 100000
set_option maxHeartbeats 0
namespace Lw
open PySem PySem.Spec PyProof.Rows L2 Evl
theorem opt_no {α : Type} {u : α} (e : (none : Option α) = some u) : False := by cases e
/-- the law's promise at the heap behind the top, for a def promised where no repr is under way -/
theorem law_callG {P : Program} {w : World} {K : PySem.W.Frag} {g mb : Str → Option Value} {k : Nat} {p q : Addr} {fd : FuncData} {x : Str} {S : SD} {t : Shared} {us : List Value} {ns : List Int}
    (inK : K.In t.heap) (nsg : t.heap.Ns mainGlobals g) (nsb : t.heap.Ns builtinsNs mb) (nbb : ∀ x : Str, x ≠ "__name__" → mb x = bootBuiltins x) (nol : t.heap.NoLimit) (gens : t.gens = #[])
    (hq : t.heap.get? q = some { cls := .type "list", data := .seq us.toArray }) (are : IntsAre us ns) (len : ns.length ≤ sizeLine) (room : Room k callerA)
    (F : ∀ base : Heap, K.In base → base.Ns mainGlobals g → FnOkG P w K g base k p fd [x] (toSp K S)) (bd : ∀ (s : Shared) (u : Value), BindsTo s fd ⟨[u], []⟩ [(x, u)])
    (spec : ∀ Q : Dt → Mem → Prop, ∀ XD, (∀ M', Q (.bl true) M') → S [.sq (ns.map Dt.int)] [] Q XD) :
    codeAny (model P w) callerA (.call (.ref p) ⟨[.ref q], []⟩) (fun r t' => r = .ok (.ret (.bool true)) ∧ OldK t.heap t'.heap ∧ t'.os = t.os ∧ AllBare t'.gens) t := by
  have rel := vals_ints are
  have lenU := are.length
  have main : ∀ H : Hp, Only H → SqL K H q (ns.map V.int) → HOk P w H t.heap → (∀ b, H b ≠ none → b = q) → (H q ≠ none → K.lookup q = none) →
      codeAny (model P w) callerA (.call (.ref p) ⟨[.ref q], []⟩) (fun r t' => r = .ok (.ret (.bool true)) ∧ OldK t.heap t'.heap ∧ t'.os = t.os ∧ AllBare t'.gens) t := by
    intro H only sq hok one free
    have stay : ∀ {b : Addr} {o : Obj}, t.heap.get? b = some o → H b = none → (hidT t.heap H).get? b = some o := fun e1 e2 => hidT_get e1 e2
    have noD : ∀ {b : Addr} {o : Obj} {es : Array DictEntry} {ep : Nat}, t.heap.get? b = some o → o.data = .dict es ep → H b = none := fun {b o es ep} e1 e2 => by
      by_cases z : H b = none
      · exact z
      · have e3 := one b z
        rw [e3, hq] at e1
        cases e1
        exact absurd e2 (by intro z2; injection z2)
    have nsT : ∀ {b : Addr} {m : Str → Option Value}, t.heap.Ns b m → (hidT t.heap H).Ns b m := fun {b m} ⟨o, es, ep, e1, e2, r⟩ => ⟨o, es, ep, stay e1 (noD e1 e2), e2, r⟩
    have inB : K.In (hidT t.heap H) := fun b o e1 => stay (inK b o e1) (by
      by_cases z : H b = none
      · exact z
      · have e3 := one b z
        rw [e3] at e1 z
        rw [free z] at e1
        exact (opt_no e1).elim)
    have md : Mod K g (hidT t.heap H) := ⟨inB, nsT nsg, ⟨mb, nsT nsb, nbb⟩, let ⟨mc, h1, h2⟩ := nol; ⟨mc, nsT h1, h2⟩⟩
    have env : Env0 P w K g (hidT t.heap H) callerA [] t H := ⟨rfl, md, fun b o e => of_hidT e, Nat.le_of_eq (hidT_size _ _), trivial, fun b hb => absurd (show b ∈ ([] : List Addr) from hb) (by simp), hok, .of_eq gens⟩
    have sp : toSp K S [.ref q] H (fun v _ => v = .bl true) fun _ _ _ => False := by
      refine ⟨[], H, [], [.sq (ns.map Dt.int)], fun d _ => d = .bl true, fun _ _ _ => False, ?st, .cons (.sq sq (by simp) fun i v d h1 h2 => ?_) .nil, spec _ _ fun _ => rfl, fun d M' v W' H' e1 _ _ dv => ?_, fun _ _ _ _ _ _ _ z => False.elim z⟩
      case st => exact ⟨Ex.refl H, fun b hb => (by cases hb), fun b hb => (by cases hb), fun b hb => (by cases hb), by simp⟩
      · rw [List.getElem?_map] at h1 h2
        cases e : ns[i]? with
        | none => rw [e] at h1; exact (opt_no h1).elim
        | some n =>
          rw [e] at h1 h2
          cases h1
          cases h2
          exact .int n
      · subst e1
        cases dv
        rfl
    refine codeAny_mono ((F _ inB (nsT nsg)).run callerA [] t H ⟨[.ref q], []⟩ [.ref q] [.ref q] _ _ room rfl env (bd t (.ref q)) (.cons rfl .nil) sp) fun r t' res => ?_
    cases r with
    | error e =>
      obtain ⟨a0, B0, H0, c0, d0, _, _, _, _, _, _, _, z⟩ := res
      exact z.elim
    | ok fl =>
      cases fl with
      | ret u =>
        obtain ⟨v, H', os, bare, un, hok', rv, e⟩ := res
        have e' : v = .bl true := e
        subst e'
        obtain rfl : u = Value.bool true := rv
        refine ⟨rfl, OldK.of_keep fun b o e => ?_, os, bare⟩
        rcases only b with z | ⟨ob, xs, z⟩
        · exact un.keep b o e z (by intro z; exact absurd (show b ∈ ([] : List Addr) from z) (by simp)) (by simp)
        · have z2 := un.frzs b ob _ z
          have e1 := (hok b _ z).1
          have e2 := (hok' b _ z2).1
          rw [e] at e1
          cases e1
          exact e2
      | next => exact False.elim res
      | brk => exact False.elim res
      | cont => exact False.elim res
  by_cases lk : K.lookup q = none
  · refine main (fun b => if b = q then some (.frz { cls := .type "list", data := .seq us.toArray } (.lst (ns.map V.int))) else none) (fun b => ?_) (.inl (.inr ⟨{ cls := .type "list", data := .seq us.toArray }, if_pos rfl⟩)) (fun b u z => ?_) (fun b z => ?_) fun _ => lk
    · by_cases hb : b = q
      · exact .inr ⟨_, _, if_pos hb⟩
      · exact .inl (if_neg hb)
    · by_cases hb : b = q
      · have z2 := (if_pos hb).symm.trans z
        cases z2
        rw [hb]
        exact ⟨hq, by rw [List.length_map]; exact len, us, _, rel, hq⟩
      · exact (opt_no ((if_neg hb).symm.trans z)).elim
    · by_cases hb : b = q
      · exact hb
      · exact absurd (if_neg hb) z
  · obtain ⟨o, lk2⟩ := Option.ne_none_iff_exists'.mp lk
    have e1 := inK q o lk2
    rw [hq] at e1
    cases e1
    exact main (fun _ => none) (fun _ => .inl rfl) (.inr ⟨_, us.toArray, _, lk2, rfl, rfl, rfl, by rw [List.size_toArray, lenU]; exact len, by simpa using rel⟩) (fun b u z => (opt_no z).elim) (fun b z => absurd rfl z) fun z => absurd rfl z
end Lw
end

section
set_option Elab.async false
set_option linter.all false
set_option maxRecDepth 100000
set_option maxHeartbeats 0
namespace Lw
open PySem PySem.Spec PyProof.Rows L2
theorem runA (w : World) : HandSHeadRun.RunEq Rw qv hk ob 8000 names (w.withFollow "special-get-raises" false) := by
  intro os
  kernel_rfl
theorem runB (w : World) : HandSHeadRun.RunEq Rw qv hk ob 8000 names (w.withFollow "special-get-raises" true) := by
  intro os
  kernel_rfl
theorem runW (w : World) : HandSHeadRun.RunEq Rw qv hk ob 8000 names w := PySem.W.byRow2 "special-get-raises" runA runB w
end Lw
end

section
set_option Elab.async false
set_option linter.all false
set_option maxRecDepth 100000
set_option maxHeartbeats 0
open PySem PySem.W PySem.Calls PyProof.Rows
theorem PySem.Challenge.cw_betweenanytwosteps_k80_papers_read_back_holds : PySem.Challenge.rw_betweenanytwosteps_k80_papers_read_back.Holds := by
  w_on; o_law
  refine HandSHeadRun.head_any (r := OpenLaw.row PySem.Challenge.rw_betweenanytwosteps_k80_papers_read_back) (q := Lw.qv) (H := Lw.hk) (ob := Lw.ob) (M := 8000) (loose := Lw.names) (d := HandSHeadRun.topDef (OpenLaw.row PySem.Challenge.rw_betweenanytwosteps_k80_papers_read_back).prog 69) (kwd := []) Lw.ob_eq
    (by kernel_rfl) (fun s => by kernel_rfl) Lw.runW (by kernel_rfl) (by kernel_rfl) (by kernel_rfl) (by rfl) (by first | assumption | decide +kernel) (by decide +kernel) ⟨rfl, rfl, rfl, rfl, rfl, by decide +kernel⟩ ?hw ?hc
  case hw => w_witness2
  case hc =>
    refine Att.attach_callB (l := PySem.Challenge.rw_betweenanytwosteps_k80_papers_read_back) (n := 63) rfl (by kernel_rfl) fun w s₀ t g mb fa o pm cd doc q us ns G Y ho hd hcd hmg0 hq are hlen hbits gens => ?_
    obtain ⟨K, KX, c⟩ := Y
    have hmg : g ("law" : PySem.Str) = some (.ref fa) := by
      have e : (HandSHeadRun.topDef (OpenLaw.row PySem.Challenge.rw_betweenanytwosteps_k80_papers_read_back).prog 69).name = ("law" : PySem.Str) := by kernel_rfl
      rw [← e]
      exact hmg0
    obtain ⟨f, fd, e, hb, hF⟩ := Lw.fb_law (P := (PySem.Challenge.rw_betweenanytwosteps_k80_papers_read_back).prog) (w := w) KX G.T.g c
    rw [hmg] at e
    cases e
    exact Lw.law_callG KX G.T.g G.T.b G.T.builtins G.T.nolimit gens hq are (Nat.le_trans hlen (by decide)) ⟨rfl, by decide, by decide⟩ (fun base _ _ => hF base) hb fun Q XD hQ => ⟨rfl, ns, rfl, hlen, hQ⟩
end
