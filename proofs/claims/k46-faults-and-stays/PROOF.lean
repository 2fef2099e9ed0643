import PyProof.Rows.All
import Wide.All
import OpenK.AllK
import Wide.FinOn
import HandS.ForMost
import HandS.ForExc
import HandS.TryMany
import HandS.ExcInit
import HandS.ExcField
import HandS.CallSlots
import HandS.IsInst
import HandS.SortKw
import HandS.SortInts
import HandS.Flow
import HandS.Wide
import HandS.TupAny
import HandS.Deep
import HandS.Style
import HandS.SetFor
import HandS.RaiseMore
import PySem.Challenge.RW_parcelbank_k46_faults_and_box_stays
set_option Elab.async false
set_option linter.all false
set_option autoImplicit false
set_option maxRecDepth 100000
set_option maxHeartbeats 1000000
namespace PL
open PySem PySem.Spec PyProof.Rows L2

/-! ## data -/
inductive D where
  | non | bl (b : Bool) | int (i : Int) | str (s : Str) | tup (xs : List D) | lst (xs : List D) | scr (ns : List Int)
  deriving Inhabited

inductive Exc where
  | badValue (what : D) | tooMany (limit : D) | badText (line word what : D) | noPlacing (members : D) | refused (reason : D)
def Exc.cls : Exc → Str
  | .badValue _ => "BadValue" | .tooMany _ => "TooMany" | .badText _ _ _ => "BadText" | .noPlacing _ => "NoPlacing" | .refused _ => "Refused"
/-- in the order in which the dict is told: the last stored first -/
def Exc.flds : Exc → List (Str × D)
  | .badValue w => [("what", w)] | .tooMany l => [("limit", l)] | .badText l w x => [("what", x), ("word", w), ("line", l)] | .noPlacing m => [("members", m)] | .refused r => [("reason", r)]

inductive Res (α : Type) where
  | ok (a : α) | exc (e : Exc) | stuck
def Res.bind {α β : Type} : Res α → (α → Res β) → Res β
  | .ok a, f => f a
  | .exc e, _ => .exc e
  | .stuck, _ => .stuck
inductive RV where
  | sh (d : D) | ow (xs : List D)
/-- what a slot may own: an object that nothing else knows -/
inductive OB where
  | lst (xs : List D) | dk (kvs : List (Key × D))
inductive Sl where
  | no | sh (d : D) | ow (o : OB)
abbrev En := List Sl
inductive Out where
  | next (ρ : En) | ret (r : RV) | brk (ρ : En) | cont (ρ : En) | exc (e : Exc) (ρ : En) | stuck

/-! ## what stands for what -/
mutual
inductive Rep (K : PySem.W.Frag) (G : Hp) : V → D → Prop
  | non : Rep K G .non .non
  | bl (b : Bool) : Rep K G (.bl b) (.bl b)
  | int (i : Int) : Rep K G (.int i) (.int i)
  | str (x : Str) : Rep K G (.str x) (.str x)
  | tup {a : Addr} {vs : List V} {ds : List D} : SqT K G a vs → Reps K G vs ds → Rep K G (.ref a) (.tup ds)
  | lst {a : Addr} {vs : List V} {ds : List D} : G a = some (.lst vs) → Reps K G vs ds → Rep K G (.ref a) (.lst ds)
  | scr {a : Addr} {ns : List Int} : SqL K G a (ns.map V.int) → Rep K G (.ref a) (.scr ns)
inductive Reps (K : PySem.W.Frag) (G : Hp) : List V → List D → Prop
  | nil : Reps K G [] []
  | cons {v : V} {vs : List V} {d : D} {ds : List D} : Rep K G v d → Reps K G vs ds → Reps K G (v :: vs) (d :: ds)
end

theorem same_tup {K : PySem.W.Frag} {G G' : Hp} {a : Addr} {xs : List V} (e : Same G G') (h : SqT K G a xs) : SqT K G' a xs := by
  rcases h with (h | ⟨o, h⟩) | h
  · exact .inl (.inl (e _ _ h))
  · exact .inl (.inr ⟨o, e _ _ h⟩)
  · exact .inr h

section
variable {K : PySem.W.Frag} {G G' H H' : Hp}
mutual
theorem Rep.mono (e : Same G G') : ∀ (d : D) (v : V), Rep K G v d → Rep K G' v d
  | .non, _, .non => .non
  | .bl _, _, .bl b => .bl b
  | .int _, _, .int b => .int b
  | .str _, _, .str b => .str b
  | .tup ds, _, .tup h r => .tup (same_tup e h) (Reps.mono e ds _ r)
  | .lst ds, _, .lst h r => .lst (e _ _ h) (Reps.mono e ds _ r)
  | .scr _, _, .scr h => .scr (Same.seq e h)
theorem Reps.mono (e : Same G G') : ∀ (ds : List D) (vs : List V), Reps K G vs ds → Reps K G' vs ds
  | [], _, .nil => .nil
  | d :: ds, _, .cons h r => .cons (Rep.mono e d _ h) (Reps.mono e ds _ r)
end
theorem Reps.len : ∀ {ds : List D} {vs : List V}, Reps K G vs ds → vs.length = ds.length
  | [], _, .nil => rfl
  | d :: ds, _, .cons h r => by rw [List.length_cons, List.length_cons, Reps.len r]
theorem Reps.get : ∀ {ds : List D} {vs : List V} {i : Nat} {d : D}, Reps K G vs ds → ds[i]? = some d → ∃ v, vs[i]? = some v ∧ Rep K G v d
  | [], _, i, d, .nil, h => by simp at h
  | d0 :: ds, _, 0, d, .cons h r, e => by
    simp at e; subst e; exact ⟨_, rfl, h⟩
  | d0 :: ds, _, i + 1, d, .cons h r, e => by
    obtain ⟨v, e1, e2⟩ := Reps.get (i := i) (d := d) r (by simpa using e)
    exact ⟨v, by simpa using e1, e2⟩
theorem Reps.getV : ∀ {ds : List D} {vs : List V} {i : Nat} {v : V}, Reps K G vs ds → vs[i]? = some v → ∃ d, ds[i]? = some d ∧ Rep K G v d
  | [], _, i, d, .nil, h => by simp at h
  | d0 :: ds, _, 0, d, .cons h r, e => by
    simp at e; subst e; exact ⟨_, rfl, h⟩
  | d0 :: ds, _, i + 1, d, .cons h r, e => by
    obtain ⟨v, e1, e2⟩ := Reps.getV (i := i) (v := d) r (by simpa using e)
    exact ⟨v, by simpa using e1, e2⟩
theorem Reps.app : ∀ {ds es : List D} {vs us : List V}, Reps K G vs ds → Reps K G us es → Reps K G (vs ++ us) (ds ++ es)
  | [], _, _, _, .nil, s => s
  | d :: ds, _, _, _, .cons h r, s => .cons h (Reps.app r s)
theorem Reps.take : ∀ {ds : List D} {vs : List V} (n : Nat), Reps K G vs ds → Reps K G (vs.take n) (ds.take n)
  | _, _, 0, _ => by simpa using Reps.nil
  | [], _, n + 1, .nil => .nil
  | d :: ds, _, n + 1, .cons h r => .cons h (Reps.take n r)
theorem Reps.drop : ∀ {ds : List D} {vs : List V} (n : Nat), Reps K G vs ds → Reps K G (vs.drop n) (ds.drop n)
  | _, _, 0, r => r
  | [], _, n + 1, .nil => .nil
  | d :: ds, _, n + 1, .cons h r => Reps.drop n r
theorem Reps.set {v : V} {d : D} (q : Rep K G v d) : ∀ {ds : List D} {vs : List V} (n : Nat), Reps K G vs ds → Reps K G (vs.set n v) (ds.set n d)
  | [], _, n, .nil => .nil
  | d0 :: ds, _, 0, .cons h r => .cons q r
  | d0 :: ds, _, n + 1, .cons h r => .cons h (Reps.set q n r)
theorem Reps.rep : ∀ {ds : List D} {vs : List V} (k : Nat), Reps K G vs ds → Reps K G (List.replicate k vs).flatten (List.replicate k ds).flatten
  | _, _, 0, _ => .nil
  | _, _, k + 1, r => by
    rw [List.replicate_succ, List.replicate_succ, List.flatten_cons, List.flatten_cons]
    exact Reps.app r (Reps.rep k r)
theorem Reps.ints : ∀ {ns : List Int} {vs : List V}, Reps K G vs (ns.map D.int) → vs = ns.map V.int
  | [], _, .nil => rfl
  | n :: ns, _, .cons (.int _) r => by rw [List.map_cons, ← Reps.ints r]
theorem Reps.ofInts : ∀ (ns : List Int), Reps K G (ns.map V.int) (ns.map D.int)
  | [] => .nil
  | n :: ns => .cons (.int n) (Reps.ofInts ns)
end

inductive KReps (K : PySem.W.Frag) (G : Hp) : List (Key × V) → List (Key × D) → Prop
  | nil : KReps K G [] []
  | cons {k : Key} {v : V} {vs : List (Key × V)} {d : D} {ds : List (Key × D)} : Rep K G v d → KReps K G vs ds → KReps K G ((k, v) :: vs) ((k, d) :: ds)
inductive RepO (K : PySem.W.Frag) (G : Hp) : HO → OB → Prop
  | lst {vs : List V} {ds : List D} : Reps K G vs ds → RepO K G (.lst vs) (.lst ds)
  | dk {vs : List (Key × V)} {ds : List (Key × D)} : KReps K G vs ds → RepO K G (.dK vs) (.dk ds)
theorem KReps.mono {K : PySem.W.Frag} {G G' : Hp} (e : Same G G') : ∀ {vs : List (Key × V)} {ds : List (Key × D)}, KReps K G vs ds → KReps K G' vs ds
  | _, _, .nil => .nil
  | _, _, .cons h r => .cons (Rep.mono e _ _ h) (KReps.mono e r)
theorem RepO.mono {K : PySem.W.Frag} {G G' : Hp} (e : Same G G') {h : HO} {o : OB} : RepO K G h o → RepO K G' h o
  | .lst r => .lst (Reps.mono e _ _ r)
  | .dk r => .dk (KReps.mono e r)

/-! ## growth of heaps -/
/-- G: what is shared (read, never written); H: what is tracked -/
structure Grow (G H G' H' : Hp) : Prop where
  g : Same G G'
  h : Same H H'
  s : Same G' H'
  f : ∀ a, G a = none → H a ≠ none → G' a = none
section
variable {K : PySem.W.Frag} {G G1 G2 H H1 H2 : Hp}
theorem Grow.refl (s : Same G H) : Grow G H G H := ⟨Same.refl _, Same.refl _, s, fun _ h _ => h⟩
theorem Grow.trans (a : Grow G H G1 H1) (b : Grow G1 H1 G2 H2) : Grow G H G2 H2 :=
  ⟨a.g.trans b.g, a.h.trans b.h, b.s, fun x e1 e2 => b.f x (a.f x e1 e2) (by
    cases q : H x with
    | none => exact absurd q e2
    | some o => rw [a.h x o q]; simp)⟩
theorem same_new {H : Hp} {p : Addr} {o : HO} (h : H p = none) : Same H (upd H p o) := fun b x e => by
  rw [upd_ne (ne_of_none e h)]; exact e
/-- a new object, shared at once -/
theorem Grow.new (s : Same G H) {p : Addr} {o : HO} (h : H p = none) : Grow G H (upd G p o) (upd H p o) :=
  ⟨same_new (s.free h), same_new h, fun b x e => by
    by_cases hb : b = p
    · subst hb; rw [upd_same] at e ⊢; exact e
    · rw [upd_ne hb] at e ⊢; exact s b x e, fun a e1 e2 => by
    have : a ≠ p := fun z => by rw [z] at e2; exact e2 h
    rw [upd_ne this]; exact e1⟩
/-- a new object, not shared -/
theorem Grow.own (s : Same G H) {p : Addr} {o : HO} (h : H p = none) : Grow G H G (upd H p o) :=
  ⟨Same.refl _, same_new h, fun b x e => by
    have : b ≠ p := ne_of_none (s b x e) h
    rw [upd_ne this]; exact s b x e, fun a e1 _ => e1⟩
/-- a fresh object becomes shared -/
theorem Grow.share (a : Grow G H G1 H1) {p : Addr} {o : HO} (h : H p = none) (h1 : G1 p = none) (e : H1 p = some o) : Grow G H (upd G1 p o) H1 :=
  ⟨fun b x q => by
    have : b ≠ p := ne_of_none (a.g b x q) h1
    rw [upd_ne this]; exact a.g b x q, a.h, fun b x q => by
    by_cases hb : b = p
    · subst hb; rw [upd_same] at q; cases q; exact e
    · rw [upd_ne hb] at q; exact a.s b x q, fun b e1 e2 => by
    have : b ≠ p := fun z => by rw [z] at e2; exact e2 h
    rw [upd_ne this]; exact a.f b e1 e2⟩
end

/-! ## states -/
def SlR (K : PySem.W.Frag) (H0 G H : Hp) : Sl → Option V → Prop
  | .no, _ => True
  | .sh d, o => ∃ v, o = some v ∧ Rep K G v d
  | .ow ob, o => ∃ l ho, o = some (.ref l) ∧ H0 l = none ∧ G l = none ∧ H l = some ho ∧ RepO K G ho ob
structure R (K : PySem.W.Frag) (G0 H0 : Hp) (ρ : En) (σ : L2.St) (G H : Hp) : Prop where
  gr : Grow G0 H0 G H
  len : ρ.length = σ.length
  slot : ∀ (i : Nat) (s : Sl), ρ[i]? = some s → ∃ o, σ[i]? = some o ∧ SlR K H0 G H s o
  dis : ∀ (i j : Nat) (xs ys : OB), i ≠ j → ρ[i]? = some (.ow xs) → ρ[j]? = some (.ow ys) → σ[i]? ≠ σ[j]?
section
variable {K : PySem.W.Frag} {G0 H0 G H G1 H1 : Hp} {ρ : En} {σ : L2.St}
theorem SlR.grow (g : Grow G H G1 H1) : ∀ {s : Sl} {o : Option V}, SlR K H0 G H s o → SlR K H0 G1 H1 s o
  | .no, _, _ => trivial
  | .sh d, _, ⟨v, e, r⟩ => ⟨v, e, Rep.mono g.g d v r⟩
  | .ow xs, _, ⟨l, vs, e, h0, h1, h2, r⟩ => ⟨l, vs, e, h0, g.f l h1 (by rw [h2]; simp), g.h l _ h2, RepO.mono g.g r⟩
theorem R.grow (r : R K G0 H0 ρ σ G H) (g : Grow G H G1 H1) : R K G0 H0 ρ σ G1 H1 :=
  ⟨r.gr.trans g, r.len, fun i s e => let ⟨o, e1, e2⟩ := r.slot i s e; ⟨o, e1, e2.grow g⟩, r.dis⟩
theorem R.sub (r : R K G0 H0 ρ σ G H) : Same G H := r.gr.s
theorem R.sh (r : R K G0 H0 ρ σ G H) {i : Nat} {d : D} (h : ρ[i]? = some (.sh d)) : ∃ v, σ[i]? = some (some v) ∧ Rep K G v d := by
  obtain ⟨o, e1, v, e2, e3⟩ := r.slot i _ h
  exact ⟨v, by rw [e1, e2], e3⟩
theorem R.ow (r : R K G0 H0 ρ σ G H) {i : Nat} {xs : OB} (h : ρ[i]? = some (.ow xs)) : ∃ l ho, σ[i]? = some (some (.ref l)) ∧ H0 l = none ∧ G l = none ∧ H l = some ho ∧ RepO K G ho xs := by
  obtain ⟨o, e1, l, vs, e2, e3⟩ := r.slot i _ h
  exact ⟨l, vs, by rw [e1, e2], e3⟩
theorem R.owL (r : R K G0 H0 ρ σ G H) {i : Nat} {xs : List D} (h : ρ[i]? = some (.ow (.lst xs))) : ∃ l vs, σ[i]? = some (some (.ref l)) ∧ H0 l = none ∧ G l = none ∧ H l = some (.lst vs) ∧ Reps K G vs xs := by
  obtain ⟨l, ho, e1, e2, e3, e4, e5⟩ := r.ow h
  cases e5 with
  | lst q => exact ⟨l, _, e1, e2, e3, e4, q⟩
theorem R.owK (r : R K G0 H0 ρ σ G H) {i : Nat} {xs : List (Key × D)} (h : ρ[i]? = some (.ow (.dk xs))) : ∃ l vs, σ[i]? = some (some (.ref l)) ∧ H0 l = none ∧ G l = none ∧ H l = some (.dK vs) ∧ KReps K G vs xs := by
  obtain ⟨l, ho, e1, e2, e3, e4, e5⟩ := r.ow h
  cases e5 with
  | dk q => exact ⟨l, _, e1, e2, e3, e4, q⟩
theorem get_set {α : Type} {xs : List α} {i j : Nat} {x y : α} (h : (xs.set i x)[j]? = some y) : (j = i ∧ y = x ∧ i < xs.length) ∨ (j ≠ i ∧ xs[j]? = some y) := by
  by_cases e : j = i
  · subst e
    by_cases l : j < xs.length
    · rw [List.getElem?_set_self l] at h; cases h; exact .inl ⟨rfl, rfl, l⟩
    · rw [List.getElem?_eq_none (by simpa using l)] at h; cases h
  · rw [List.getElem?_set_ne (Ne.symm e)] at h; exact .inr ⟨e, h⟩
/-- a slot is set to shared data -/
theorem R.setSh (r : R K G0 H0 ρ σ G H) (i : Nat) {v : V} {d : D} (q : Rep K G v d) : R K G0 H0 (ρ.set i (.sh d)) (σ.set i (some v)) G H := by
  refine ⟨r.gr, by simp [r.len], fun j s e => ?_, fun j k xs ys hn e1 e2 => ?_⟩
  · rcases get_set e with ⟨rfl, rfl, l⟩ | ⟨ne, e⟩
    · refine ⟨some v, List.getElem?_set_self (by rw [← r.len]; exact l), v, rfl, q⟩
    · rw [List.getElem?_set_ne (Ne.symm ne)]; exact r.slot j s e
  · rcases get_set e1 with ⟨_, z, _⟩ | ⟨n1, e1⟩
    · cases z
    · rcases get_set e2 with ⟨_, z, _⟩ | ⟨n2, e2⟩
      · cases z
      · rw [List.getElem?_set_ne (Ne.symm n1), List.getElem?_set_ne (Ne.symm n2)]; exact r.dis j k xs ys hn e1 e2
/-- a slot is set to a list of its own -/
theorem R.setOw (r : R K G0 H0 ρ σ G H) (i : Nat) {l : Addr} {vs : HO} {xs : OB} (h0 : H0 l = none) (hg : G l = none) (hh : H l = some vs) (q : RepO K G vs xs)
    (nw : ∀ (j : Nat) (ys : OB), j ≠ i → ρ[j]? = some (.ow ys) → σ[j]? ≠ some (some (.ref l))) : R K G0 H0 (ρ.set i (.ow xs)) (σ.set i (some (.ref l))) G H := by
  refine ⟨r.gr, by simp [r.len], fun j s e => ?_, fun j k ys zs hn e1 e2 => ?_⟩
  · rcases get_set e with ⟨rfl, rfl, l'⟩ | ⟨ne, e⟩
    · exact ⟨some (.ref l), List.getElem?_set_self (by rw [← r.len]; exact l'), l, vs, rfl, h0, hg, hh, q⟩
    · rw [List.getElem?_set_ne (Ne.symm ne)]; exact r.slot j s e
  · rcases get_set e1 with ⟨rfl, _, l1⟩ | ⟨n1, f1⟩
    · rcases get_set e2 with ⟨z, _, _⟩ | ⟨n2, f2⟩
      · exact absurd z.symm hn
      · rw [List.getElem?_set_self (by rw [← r.len]; exact l1), List.getElem?_set_ne (Ne.symm n2)]
        exact fun z => nw k zs n2 f2 z.symm
    · rcases get_set e2 with ⟨rfl, _, l1⟩ | ⟨n2, f2⟩
      · rw [List.getElem?_set_self (by rw [← r.len]; exact l1), List.getElem?_set_ne (Ne.symm n1)]
        exact nw j ys n1 f1
      · rw [List.getElem?_set_ne (Ne.symm n1), List.getElem?_set_ne (Ne.symm n2)]; exact r.dis j k ys zs hn f1 f2
/-- .. a new one -/
theorem R.setNew (r : R K G0 H0 ρ σ G H) (i : Nat) {l : Addr} {vs : HO} {xs : OB} (g : Grow G H G1 H1) (hn : H l = none) (hg : G1 l = none) (hh : H1 l = some vs) (q : RepO K G1 vs xs) :
    R K G0 H0 (ρ.set i (.ow xs)) (σ.set i (some (.ref l))) G1 H1 :=
  (r.grow g).setOw i (r.gr.h.free hn) hg hh q fun j ys _ e z => by
    obtain ⟨l', vs', e1, _, _, e2, _⟩ := r.ow e
    rw [e1] at z; cases z; rw [e2] at hn; cases hn
theorem R.setNo (r : R K G0 H0 ρ σ G H) (i : Nat) (o : Option V) : R K G0 H0 (ρ.set i .no) (σ.set i o) G H := by
  refine ⟨r.gr, by simp [r.len], fun j s e => ?_, fun j k ys zs hn e1 e2 => ?_⟩
  · rcases get_set e with ⟨rfl, rfl, l'⟩ | ⟨ne, e⟩
    · exact ⟨o, List.getElem?_set_self (by rw [← r.len]; exact l'), trivial⟩
    · rw [List.getElem?_set_ne (Ne.symm ne)]; exact r.slot j s e
  · rcases get_set e1 with ⟨_, z, _⟩ | ⟨n1, e1⟩
    · cases z
    · rcases get_set e2 with ⟨_, z, _⟩ | ⟨n2, e2⟩
      · cases z
      · rw [List.getElem?_set_ne (Ne.symm n1), List.getElem?_set_ne (Ne.symm n2)]; exact r.dis j k ys zs hn e1 e2
/-- an owned list becomes shared -/
def frz (i : Nat) (ρ : En) : En := match ρ[i]? with | some (.ow (.lst xs)) => ρ.set i (.sh (.lst xs)) | _ => ρ
theorem R.frz (r : R K G0 H0 ρ σ G H) {i : Nat} {xs : List D} (h : ρ[i]? = some (.ow (.lst xs))) :
    ∃ l vs, σ[i]? = some (some (.ref l)) ∧ G l = none ∧ H l = some (.lst vs) ∧ Reps K G vs xs ∧ Same G (upd G l (.lst vs)) ∧ R K G0 H0 (ρ.set i (.sh (.lst xs))) σ (upd G l (.lst vs)) H := by
  obtain ⟨l, vs, e1, h0, hg, hh, q⟩ := r.owL h
  have sg : Same G (upd G l (.lst vs)) := same_new hg
  have gr : Grow G0 H0 (upd G l (.lst vs)) H := r.gr.share h0 hg hh
  refine ⟨l, vs, e1, hg, hh, q, sg, gr, by simp [r.len], fun j s e => ?_, fun j k ys zs hn e1' e2 => ?_⟩
  · rcases get_set e with ⟨rfl, rfl, l'⟩ | ⟨ne, e⟩
    · exact ⟨_, e1, _, rfl, .lst upd_same (Reps.mono sg _ _ q)⟩
    · obtain ⟨o, e2, q2⟩ := r.slot j s e
      refine ⟨o, e2, ?_⟩
      cases s with
      | no => trivial
      | sh d => obtain ⟨v, a, b⟩ := q2; exact ⟨v, a, Rep.mono sg _ _ b⟩
      | ow ys =>
        obtain ⟨l2, vs2, a, b, c, d, f⟩ := q2
        refine ⟨l2, vs2, a, b, ?_, d, RepO.mono sg f⟩
        have : l2 ≠ l := fun z => r.dis j i ys (.lst xs) ne e h (by rw [e2, e1, a, z])
        rw [upd_ne this]; exact c
  · rcases get_set e1' with ⟨_, z, _⟩ | ⟨n1, e1'⟩
    · cases z
    · rcases get_set e2 with ⟨_, z, _⟩ | ⟨n2, e2⟩
      · cases z
      · exact r.dis j k ys zs hn e1' e2
/-- an owned list is written -/
theorem R.write (r : R K G0 H0 ρ σ G H) {i : Nat} {xs ys : OB} {l : Addr} {us : HO} (h : ρ[i]? = some (.ow xs)) (hl : σ[i]? = some (some (.ref l))) (q : RepO K G us ys) :
    R K G0 H0 (ρ.set i (.ow ys)) σ G (upd H l us) := by
  obtain ⟨l', vs, e1, h0, hg, hh, _⟩ := r.ow h
  rw [hl] at e1; cases e1
  have gr : Grow G0 H0 G (upd H l us) := ⟨r.gr.g, fun b o e => by
    have : b ≠ l := ne_of_none e h0
    rw [upd_ne this]; exact r.gr.h b o e, fun b o e => by
    have : b ≠ l := ne_of_none e hg
    rw [upd_ne this]; exact r.gr.s b o e, r.gr.f⟩
  refine ⟨gr, by simp [r.len], fun j s e => ?_, fun j k as bs hn e1 e2 => ?_⟩
  · rcases get_set e with ⟨rfl, rfl, _⟩ | ⟨ne, e⟩
    · exact ⟨_, hl, l, us, rfl, h0, hg, upd_same, q⟩
    · obtain ⟨o, e2, q2⟩ := r.slot j s e
      refine ⟨o, e2, ?_⟩
      cases s with
      | no => trivial
      | sh d => exact q2
      | ow zs =>
        obtain ⟨l2, vs2, a, b, c, d, f⟩ := q2
        have : l2 ≠ l := fun z => r.dis j i zs xs ne e h (by rw [e2, hl, a, z])
        exact ⟨l2, vs2, a, b, c, by rw [upd_ne this]; exact d, f⟩
  · have w1 : ∀ {j : Nat} {as : OB}, (ρ.set i (.ow ys))[j]? = some (.ow as) → ∃ as', ρ[j]? = some (.ow as') := fun {j as} e => by
      rcases get_set e with ⟨rfl, _, _⟩ | ⟨_, e⟩
      · exact ⟨xs, h⟩
      · exact ⟨as, e⟩
    obtain ⟨a1, z1⟩ := w1 e1
    obtain ⟨a2, z2⟩ := w1 e2
    exact r.dis j k a1 a2 hn z1 z2
end
end PL

set_option maxRecDepth 100000
set_option maxHeartbeats 1000000
namespace PL
open PySem PySem.Spec PyProof.Rows L2

end PL
namespace L2
open PySem PySem.Spec PyProof.Rows
/-! ## weaker readings -/
section
variable {X : Cx}
theorem PE.imp {e : Expr} {t t' : TE} (h : PE X e t) (k : ∀ σ H Q, t' σ H Q → t σ H Q) : PE X e t' := ⟨fun pins s σ H Q I w => h.run pins s σ H Q I (k σ H Q w)⟩
theorem PT.imp {e : Expr} {t t' : TT} (h : PT X e t) (k : ∀ σ H Q, t' σ H Q → t σ H Q) : PT X e t' := ⟨fun pins s σ H Q I w => h.run pins s σ H Q I (k σ H Q w)⟩
theorem PW.imp {e : Expr} {t t' : TT} (h : PW X e t) (k : ∀ σ H Q, t' σ H Q → t σ H Q) : PW X e t' := ⟨fun wh pins s σ H Q I w => h.run wh pins s σ H Q I (k σ H Q w)⟩
theorem PA.imp {es : List Expr} {t t' : TA} (h : PA X es t) (k : ∀ σ H Q, t' σ H Q → t σ H Q) : PA X es t' := ⟨fun pos pins s σ H Q I w => h.run pos pins s σ H Q I (k σ H Q w)⟩
theorem PS.imp {st : Stmt} {t t' : TS} (h : PS X st t) (k : ∀ D σ H, t' D σ H → t D σ H) : PS X st t' := ⟨fun pins s σ H D I w => h.run pins s σ H D I (k D σ H w)⟩
theorem PSs.imp {st : List Stmt} {t t' : TS} (h : PSs X st t) (k : ∀ D σ H, t' D σ H → t D σ H) : PSs X st t' := ⟨fun pins s σ H D I w => h.run pins s σ H D I (k D σ H w)⟩
end

end L2
namespace PL
open PySem PySem.Spec PyProof.Rows L2
/-! ## the readings of pure meanings -/
structure Amb where
  W : WX
  G0 : Hp
  H0 : Hp
def clOf (mg : Str → Option Value) (n : Str) : Value := (mg n).getD .none
def XR (K : PySem.W.Frag) (G H : Hp) (d : Addr) (e : Exc) : Prop := ∃ vs, H d = some (.xd ((e.flds.map (·.1)).zip vs)) ∧ Reps K G vs (e.flds.map (·.2))
section
variable (K : PySem.W.Frag) (mg : Str → Option Value) (a : Amb)
def Wn (σ : L2.St) (G H : Hp) (e : Exc) : Prop := ∀ d G' H', Grow G H G' H' → XR K G' H' d e → a.W (clOf mg e.cls) (some d) σ H'
def PostE {α : Type} (σ : L2.St) (G H : Hp) (r : Res α) (k : α → Prop) : Prop := match r with
  | .ok x => k x
  | .exc e => Wn K mg a σ G H e
  | .stuck => False
def RR (ρ : En) (σ : L2.St) (G H : Hp) : Prop := R K a.G0 a.H0 ρ σ G H
/-- an expression that gives shared data -/
def tD (f : En → Res D) : TE := fun σ H Q => ∃ ρ G, RR K a ρ σ G H ∧ PostE K mg a σ G H (f ρ) fun d => ∀ v G' H', Grow G H G' H' → Rep K G' v d → Q v H'
/-- .. a new list -/
def tO (f : En → Res (List D)) : TE := fun σ H Q => ∃ ρ G, RR K a ρ σ G H ∧ PostE K mg a σ G H (f ρ) fun ds => ∀ l vs G' H', Grow G H G' H' → H l = none → G' l = none → H' l = some (.lst vs) → Reps K G' vs ds → Q (.ref l) H'
def tT (f : En → Res Bool) : TT := fun σ H Q => ∃ ρ G, RR K a ρ σ G H ∧ PostE K mg a σ G H (f ρ) fun b => ∀ G' H', Grow G H G' H' → Q b H'
def tA (f : En → Res (List D)) : TA := fun σ H Q => ∃ ρ G, RR K a ρ σ G H ∧ PostE K mg a σ G H (f ρ) fun ds => ∀ vs G' H', Grow G H G' H' → Reps K G' vs ds → Q vs H'
def Post (Dn : Ends) (G : Hp) (o : Out) : Prop := match o with
  | .next ρ => ∀ σ' G' H', RR K a ρ σ' G' H' → Same G G' → Dn.nx σ' H'
  | .brk ρ => ∀ σ' G' H', RR K a ρ σ' G' H' → Same G G' → Dn.bk σ' H'
  | .cont ρ => ∀ σ' G' H', RR K a ρ σ' G' H' → Same G G' → Dn.ct σ' H'
  | .ret (.sh d) => ∀ v G' H', Grow a.G0 a.H0 G' H' → Same G G' → Rep K G' v d → Dn.rt v H'
  | .ret (.ow xs) => ∀ l vs G' H', Grow a.G0 a.H0 G' H' → Same G G' → a.H0 l = none → G' l = none → H' l = some (.lst vs) → Reps K G' vs xs → Dn.rt (.ref l) H'
  | .exc e ρ => ∀ d σ' G' H', RR K a ρ σ' G' H' → Same G G' → XR K G' H' d e → a.W (clOf mg e.cls) (some d) σ' H'
  | .stuck => False
def tS (f : En → Out) : TS := fun Dn σ H => ∃ ρ G, RR K a ρ σ G H ∧ Post K mg a Dn G (f ρ)
end
section
variable {K : PySem.W.Frag} {mg : Str → Option Value} {a : Amb} {α β : Type} {σ : L2.St} {G H G1 H1 : Hp} {ρ : En}
theorem Wn.grow {e : Exc} (g : Grow G H G1 H1) (w : Wn K mg a σ G H e) : Wn K mg a σ G1 H1 e := fun d G' H' g' x => w d G' H' (g.trans g') x
theorem PostE.bind {r : Res α} {f : α → Res β} {k : β → Prop} (h : PostE K mg a σ G H (r.bind f) k) : PostE K mg a σ G H r fun x => PostE K mg a σ G H (f x) k := by
  cases r <;> exact h
theorem PostE.imp {r : Res α} {k k' : α → Prop} (h : PostE K mg a σ G H r k) (q : ∀ x, r = .ok x → k x → k' x) : PostE K mg a σ G H r k' := by
  cases r with
  | ok x => exact q x rfl h
  | exc e => exact h
  | stuck => exact h
theorem PostE.grow {r : Res α} {k : α → Prop} (h : PostE K mg a σ G H r k) (g : Grow G H G1 H1) : PostE K mg a σ G1 H1 r k := by
  cases r with
  | ok x => exact h
  | exc e => exact Wn.grow g h
  | stuck => exact h
theorem PostE.okOf {r : Res α} {k : α → Prop} {x : α} (h : PostE K mg a σ G H r k) (e : r = .ok x) : k x := by
  rw [e] at h; exact h
theorem Post.mono {Dn : Ends} {o : Out} (s : Same G G1) (h : Post K mg a Dn G o) : Post K mg a Dn G1 o := by
  cases o with
  | next ρ => exact fun σ' G' H' r s' => h σ' G' H' r (s.trans s')
  | brk ρ => exact fun σ' G' H' r s' => h σ' G' H' r (s.trans s')
  | cont ρ => exact fun σ' G' H' r s' => h σ' G' H' r (s.trans s')
  | ret r => cases r with
    | sh d => exact fun v G' H' r s' => h v G' H' r (s.trans s')
    | ow xs => exact fun l vs G' H' r s' => h l vs G' H' r (s.trans s')
  | exc e ρ => exact fun d σ' G' H' r s' => h d σ' G' H' r (s.trans s')
  | stuck => exact h
end

/-! ## meanings: expressions -/
def eC (d : D) : En → Res D := fun _ => .ok d
def eVar (i : Nat) : En → Res D := fun ρ => match ρ[i]? with | some (.sh d) => .ok d | _ => .stuck
def bin (o : D → D → Res D) (f g : En → Res D) : En → Res D := fun ρ => (f ρ).bind fun x => (g ρ).bind fun y => o x y
def una (o : D → Res D) (f : En → Res D) : En → Res D := fun ρ => (f ρ).bind fun x => o x
def aNil : En → Res (List D) := fun _ => .ok []
def aCons (f : En → Res D) (g : En → Res (List D)) : En → Res (List D) := fun ρ => (f ρ).bind fun x => (g ρ).bind fun xs => .ok (x :: xs)
/-- a function of the argument list -/
def app (o : List D → Res D) (f : En → Res (List D)) : En → Res D := fun ρ => (f ρ).bind o
def appO (o : List D → Res (List D)) (f : En → Res (List D)) : En → Res (List D) := fun ρ => (f ρ).bind o
/-- a new list, shared at once -/
def own (f : En → Res (List D)) : En → Res D := fun ρ => (f ρ).bind fun xs => .ok (.lst xs)
def tru (f : En → Res Bool) : En → Res D := fun ρ => (f ρ).bind fun b => .ok (.bl b)
def ifE (c : En → Res Bool) (f g : En → Res D) : En → Res D := fun ρ => (c ρ).bind fun b => if b then f ρ else g ρ
def andB (f g : En → Res Bool) : En → Res Bool := fun ρ => (f ρ).bind fun b => if b then g ρ else .ok false
def orB (f g : En → Res Bool) : En → Res Bool := fun ρ => (f ρ).bind fun b => if b then .ok true else g ρ
def notB (f : En → Res Bool) : En → Res Bool := fun ρ => (f ρ).bind fun b => .ok (!b)
/-- under a condition -/
def gd {α : Type} (c : Prop) [Decidable c] (r : Res α) : Res α := if c then r else .stuck
theorem PostE.gd {K : PySem.W.Frag} {mg : Str → Option Value} {a : Amb} {α : Type} {σ : L2.St} {G H : Hp} {c : Prop} [Decidable c] {r : Res α} {k : α → Prop} (h : PostE K mg a σ G H (gd c r) k) : c ∧ PostE K mg a σ G H r k := by
  unfold PL.gd at h
  by_cases hc : c
  · rw [if_pos hc] at h; exact ⟨hc, h⟩
  · rw [if_neg hc] at h; exact h.elim
theorem gd_ok {α : Type} {c : Prop} [Decidable c] {r : Res α} {x : α} (h : gd c r = .ok x) : c ∧ r = .ok x := by
  unfold gd at h
  by_cases hc : c
  · rw [if_pos hc] at h; exact ⟨hc, h⟩
  · rw [if_neg hc] at h; cases h
theorem gd_exc {α : Type} {c : Prop} [Decidable c] {r : Res α} {e : Exc} (h : gd c r = .exc e) : c ∧ r = .exc e := by
  unfold gd at h
  by_cases hc : c
  · rw [if_pos hc] at h; exact ⟨hc, h⟩
  · rw [if_neg hc] at h; cases h
theorem gd_pos {α : Type} {c : Prop} [Decidable c] {r : Res α} (h : c) : gd c r = r := if_pos h
def bOf : D → Res Bool | .bl b => .ok b | _ => .stuck
def truD : D → Res Bool
  | .non => .ok false | .bl b => .ok b | .int i => .ok (i != 0)
  | .str s => gd (s.length ≤ sizeLine) (.ok ((s.length : Int) != 0))
  | .tup xs => .ok (!xs.isEmpty) | .lst xs => .ok (!xs.isEmpty) | .scr ns => .ok (!ns.isEmpty)
/-- a value as a test -/
def tst (o : D → Res Bool) (f : En → Res D) : En → Res Bool := fun ρ => (f ρ).bind o
/-- and, or, not as values: all but the last a bool -/
def andV (f g : En → Res D) : En → Res D := fun ρ => (f ρ).bind fun x => (bOf x).bind fun b => if b then g ρ else .ok (.bl false)
def orV (f g : En → Res D) : En → Res D := fun ρ => (f ρ).bind fun x => (bOf x).bind fun b => if b then .ok (.bl true) else g ρ
def notV (f : En → Res D) : En → Res D := fun ρ => (f ρ).bind fun x => (bOf x).bind fun b => .ok (.bl (!b))

/-! ## meanings: statements -/
def ofR {α : Type} (ρ : En) (r : Res α) (k : α → Out) : Out := match r with | .ok x => k x | .exc e => .exc e ρ | .stuck => .stuck
def sNext : En → Out := fun ρ => .next ρ
def sSeq (f g : En → Out) : En → Out := fun ρ => match f ρ with | .next ρ' => g ρ' | o => o
def sSet (i : Nat) (f : En → Res D) : En → Out := fun ρ => ofR ρ (f ρ) fun d => .next (ρ.set i (.sh d))
def sSetO (i : Nat) (f : En → Res (List D)) : En → Out := fun ρ => ofR ρ (f ρ) fun d => .next (ρ.set i (.ow (.lst d)))
def sDrop (f : En → Res D) : En → Out := fun ρ => ofR ρ (f ρ) fun _ => .next ρ
def sRet (f : En → Res D) : En → Out := fun ρ => ofR ρ (f ρ) fun d => .ret (.sh d)
def sRetO (f : En → Res (List D)) : En → Out := fun ρ => ofR ρ (f ρ) fun d => .ret (.ow d)
/-- return of an owned list at slot i -/
def sRetV (i : Nat) : En → Out := fun ρ => match ρ[i]? with | some (.ow (.lst xs)) => .ret (.ow xs) | _ => .stuck
def sRetN : En → Out := fun _ => .ret (.sh .non)
def sIf (c : En → Res Bool) (f g : En → Out) : En → Out := fun ρ => ofR ρ (c ρ) fun b => if b then f ρ else g ρ
def sBrk : En → Out := fun ρ => .brk ρ
def sCont : En → Out := fun ρ => .cont ρ
def sFrz (i : Nat) (f : En → Out) : En → Out := fun ρ => match ρ[i]? with | some (.ow (.lst xs)) => f (ρ.set i (.sh (.lst xs))) | _ => .stuck

/-! ## rules: expressions -/
section
variable {X : Cx} {a : Amb} {e b : Expr} {es : List Expr} {f g : En → Res D} {pos : Pos}

theorem pe_const {d : D} {v : V} (h : PE X e (tC v)) (r : ∀ G, Rep X.K G v d) : PE X e (tD X.K X.mg a (eC d)) :=
  h.imp fun σ H Q ⟨ρ, G, hR, q⟩ => q v G H (Grow.refl hR.sub) (r G)
theorem d_int {i : Int} {j : Nat} : PE X (.Constant (.int i) j pos) (tD X.K X.mg a (eC (.int i))) := pe_const pe_int fun _ => .int i
theorem d_bl {i : Bool} {j : Nat} : PE X (.Constant (.bool i) j pos) (tD X.K X.mg a (eC (.bl i))) := pe_const pe_bl fun _ => .bl i
theorem d_non {j : Nat} : PE X (.Constant .none j pos) (tD X.K X.mg a (eC .non)) := pe_const pe_non fun _ => .non
theorem d_str {x : Str} {j : Nat} : PE X (.Constant (.str x) j pos) (tD X.K X.mg a (eC (.str x))) := pe_const pe_str fun _ => .str x
/-- a module's constant -/
theorem d_glob {x : Str} {d : D} {v : V} {u : Value} (hm : X.mg x = some u) (r : RelV v u) (q : ∀ G, Rep X.K G v d) (hg : Gl X x := by rfl) (hd : (x == ("__debug__" : Str)) = false := by decide) : PE X (.Name x pos) (tD X.K X.mg a (eC d)) := pe_const (pe_glob hg hm r hd) q
theorem d_var (i : Nat) {x : Str} (hN : X.N[i]? = some x := by rfl) (hv : Vis X.env.scope x := by first | exact Or.inl rfl | exact Or.inr (Or.inl rfl) | exact Or.inr (Or.inr rfl)) (hd : (x == ("__debug__" : Str)) = false := by decide)
    (hcd : (x == ("__classdict__" : Str)) = false := by decide) : PE X (.Name x pos) (tD X.K X.mg a (eVar i)) :=
  (pe_var hN hv hd hcd).imp fun σ H Q ⟨ρ, G, hR, q⟩ => by
    unfold eVar at q
    cases h : ρ[i]? with
    | none => rw [h] at q; exact q.elim
    | some s => cases s with
      | no => rw [h] at q; exact q.elim
      | ow xs => rw [h] at q; exact q.elim
      | sh d =>
        rw [h] at q
        obtain ⟨v, e1, r⟩ := hR.sh h
        exact ⟨v, e1, q v G H (Grow.refl hR.sub) r⟩

/-- an operator on data -/
def OpD (X : Cx) (op : Value → Value → Sem Value) (o : D → D → Res D) : Prop := ∃ r : R2, OpR X op r ∧
  ∀ (G H : Hp) (x y : V) (c d z : D) (Q : VK), Same G H → Rep X.K G x c → Rep X.K G y d → o c d = .ok z → (∀ v G' H', Grow G H G' H' → Rep X.K G' v z → Q v H') → r x y H Q
/-- .. it raises nothing -/
def NoX (o : D → D → Res D) : Prop := ∀ x y e, o x y ≠ .exc e
theorem bin_ok {o : D → D → Res D} {r : R2} (hx : NoX o)
    (hr : ∀ (G H : Hp) (x y : V) (c d z : D) (Q : VK), Same G H → Rep X.K G x c → Rep X.K G y d → o c d = .ok z → (∀ v G' H', Grow G H G' H' → Rep X.K G' v z → Q v H') → r x y H Q)
    (σ : L2.St) (H : Hp) (Q : VK) (h : tD X.K X.mg a (bin o f g) σ H Q) : tOp r (tD X.K X.mg a f) (tD X.K X.mg a g) σ H Q := by
  obtain ⟨ρ, G, hR, q⟩ := h
  refine ⟨ρ, G, hR, (PostE.bind q).imp fun x e1 q1 v1 G1 H1 g1 r1 => ?_⟩
  refine ⟨ρ, G1, hR.grow g1, ((PostE.bind q1).grow g1).imp fun y e2 q2 v2 G2 H2 g2 r2 => ?_⟩
  cases h3 : o x y with
  | stuck => rw [h3] at q2; exact q2.elim
  | exc e => exact absurd h3 (hx x y e)
  | ok z =>
    rw [h3] at q2
    exact hr G2 H2 v1 v2 x y z Q g2.s (Rep.mono g2.g _ _ r1) r2 h3 fun v G' H' g3 r3 => q2 v G' H' ((g1.trans g2).trans g3) r3
theorem d_bin {op : Operator} {o : D → D → Res D} (ho : OpD X (binaryOp op) o) (hx : NoX o) (hf : PE X e (tD X.K X.mg a f)) (hg : PE X b (tD X.K X.mg a g)) : PE X (.BinOp e op b pos) (tD X.K X.mg a (bin o f g)) := by
  obtain ⟨r, h1, h2⟩ := ho
  exact (pe_op h1 hf hg).imp (bin_ok hx h2)
theorem d_cmp {op : CmpOp} {o : D → D → Res D} (ho : OpD X (compareOp op) o) (hx : NoX o) (hf : PE X e (tD X.K X.mg a f)) (hg : PE X b (tD X.K X.mg a g)) (hm : behindInMarks op b = false) : PE X (.Compare e [op] [b] pos) (tD X.K X.mg a (bin o f g)) := by
  obtain ⟨r, h1, h2⟩ := ho
  exact (pe_cmpR h1 hf hg hm).imp (bin_ok hx h2)
/-- a comparison as a test -/
theorem t_cmp {op : CmpOp} {o : D → D → Res D} (ho : OpD X (compareOp op) o) (hx : NoX o) (hf : PE X e (tD X.K X.mg a f)) (hg : PE X b (tD X.K X.mg a g)) (hm : behindInMarks op b = false) : PT X (.Compare e [op] [b] pos) (tT X.K X.mg a (tst bOf (bin o f g))) := by
  obtain ⟨r, h1, h2⟩ := ho
  refine (pt_cmpR h1 hf hg hm).imp fun σ H Q ⟨ρ, G, hR, q⟩ => ?_
  refine bin_ok hx h2 σ H _ ⟨ρ, G, hR, (PostE.bind q).imp fun x e1 q1 v G' H' g1 r1 => ?_⟩
  cases r1 with
  | bl k => exact ⟨k, rfl, q1 G' H' g1⟩
  | _ => exact q1.elim
/-- the truth of a value as a test -/
theorem t_tru (hf : PE X e (tD X.K X.mg a f)) (he : ∀ whole, isTrue e X.env whole = (do let v ← whole; standAt e.pos; holding [v] (truthy v)) := by intro _; rfl) : PT X e (tT X.K X.mg a (tst truD f)) := by
  refine (pt_truth hf he).imp fun σ H Q ⟨ρ, G, hR, q⟩ => ?_
  refine ⟨ρ, G, hR, (PostE.bind q).imp fun x e1 q1 v G' H' g1 r1 => ?_⟩
  have sh := g1.s
  cases r1 with
  | non => exact ⟨false, rfl, q1 G' H' g1⟩
  | bl k => exact ⟨k, rfl, q1 G' H' g1⟩
  | int i => exact ⟨_, rfl, q1 G' H' g1⟩
  | str s =>
    obtain ⟨hz, q1⟩ := PostE.gd q1
    exact ⟨_, ⟨hz, rfl⟩, q1 G' H' g1⟩
  | @tup p vs ds h r =>
    refine ⟨!ds.isEmpty, .inr (.inl ⟨vs, same_tup sh h, ?_⟩), q1 G' H' g1⟩
    cases r <;> rfl
  | @lst p vs ds h r =>
    refine ⟨!ds.isEmpty, .inl ⟨vs, SqL.of (sh _ _ h), ?_⟩, q1 G' H' g1⟩
    cases r <;> rfl
  | @scr p ns h =>
    refine ⟨!ns.isEmpty, .inl ⟨_, sh.seq h, ?_⟩, q1 G' H' g1⟩
    cases ns <;> rfl
theorem t_not {t : En → Res Bool} (h : PT X e (tT X.K X.mg a t)) : PT X (.UnaryOp .Not e pos) (tT X.K X.mg a (notB t)) :=
  (pt_not h).imp fun σ H Q ⟨ρ, G, hR, q⟩ => ⟨ρ, G, hR, (PostE.bind q).imp fun x _ q1 => q1⟩
theorem t_and1 {t : En → Res Bool} (h : PT X e (tT X.K X.mg a t)) : PW X (.BoolOp .And [e] pos) (tT X.K X.mg a t) := pw_and1 h
theorem t_or1 {t : En → Res Bool} (h : PT X e (tT X.K X.mg a t)) : PW X (.BoolOp .Or [e] pos) (tT X.K X.mg a t) := pw_or1 h
theorem t_and {t u : En → Res Bool} (h : PT X e (tT X.K X.mg a t)) (h2 : PW X (.BoolOp .And (b :: es) pos) (tT X.K X.mg a u)) : PW X (.BoolOp .And (e :: b :: es) pos) (tT X.K X.mg a (andB t u)) :=
  (pw_and h h2).imp fun σ H Q ⟨ρ, G, hR, q⟩ => ⟨ρ, G, hR, (PostE.bind q).imp fun x e1 q1 G' H' g1 => by
    cases x with
    | true => exact ⟨ρ, G', hR.grow g1, (q1.grow g1).imp fun y _ q2 G2 H2 g2 => q2 G2 H2 (g1.trans g2)⟩
    | false => exact q1 G' H' g1⟩
theorem t_or {t u : En → Res Bool} (h : PT X e (tT X.K X.mg a t)) (h2 : PW X (.BoolOp .Or (b :: es) pos) (tT X.K X.mg a u)) : PW X (.BoolOp .Or (e :: b :: es) pos) (tT X.K X.mg a (orB t u)) :=
  (pw_or h h2).imp fun σ H Q ⟨ρ, G, hR, q⟩ => ⟨ρ, G, hR, (PostE.bind q).imp fun x e1 q1 G' H' g1 => by
    cases x with
    | true => exact q1 G' H' g1
    | false => exact ⟨ρ, G', hR.grow g1, (q1.grow g1).imp fun y _ q2 G2 H2 g2 => q2 G2 H2 (g1.trans g2)⟩⟩
theorem d_one {op : BoolOp} (h : PE X e (tD X.K X.mg a f)) : PE X (.BoolOp op [e] pos) (tD X.K X.mg a f) := pe_one h
theorem d_and (h : PE X e (tD X.K X.mg a f)) (h2 : PE X (.BoolOp .And (b :: es) pos) (tD X.K X.mg a g)) : PE X (.BoolOp .And (e :: b :: es) pos) (tD X.K X.mg a (andV f g)) :=
  (pe_and h h2).imp fun σ H Q ⟨ρ, G, hR, q⟩ => ⟨ρ, G, hR, (PostE.bind q).imp fun x e1 q1 v G' H' g1 r1 => by
    cases r1 with
    | bl k => cases k with
      | true => exact ⟨true, rfl, ρ, G', hR.grow g1, (q1.grow g1).imp fun y _ q2 w G2 H2 g2 => q2 w G2 H2 (g1.trans g2)⟩
      | false => exact ⟨false, rfl, q1 _ G' H' g1 (.bl false)⟩
    | _ => exact q1.elim⟩
theorem d_or (h : PE X e (tD X.K X.mg a f)) (h2 : PE X (.BoolOp .Or (b :: es) pos) (tD X.K X.mg a g)) : PE X (.BoolOp .Or (e :: b :: es) pos) (tD X.K X.mg a (orV f g)) :=
  (pe_or h h2).imp fun σ H Q ⟨ρ, G, hR, q⟩ => ⟨ρ, G, hR, (PostE.bind q).imp fun x e1 q1 v G' H' g1 r1 => by
    cases r1 with
    | bl k => cases k with
      | false => exact ⟨false, rfl, ρ, G', hR.grow g1, (q1.grow g1).imp fun y _ q2 w G2 H2 g2 => q2 w G2 H2 (g1.trans g2)⟩
      | true => exact ⟨true, rfl, q1 _ G' H' g1 (.bl true)⟩
    | _ => exact q1.elim⟩
theorem d_not (h : PE X e (tD X.K X.mg a f)) : PE X (.UnaryOp .Not e pos) (tD X.K X.mg a (notV f)) :=
  (pe_not h).imp fun σ H Q ⟨ρ, G, hR, q⟩ => ⟨ρ, G, hR, (PostE.bind q).imp fun x e1 q1 v G' H' g1 r1 => by
    cases r1 with
    | bl k => exact ⟨k, rfl, q1 _ G' H' g1 (.bl _)⟩
    | _ => exact q1.elim⟩
theorem d_ifE {c : Expr} {t : En → Res Bool} (hc : PT X c (tT X.K X.mg a t)) (h : PE X e (tD X.K X.mg a f)) (h2 : PE X b (tD X.K X.mg a g)) : PE X (.IfExp c e b pos) (tD X.K X.mg a (ifE t f g)) :=
  (pe_ifExp hc h h2).imp fun σ H Q ⟨ρ, G, hR, q⟩ => ⟨ρ, G, hR, (PostE.bind q).imp fun x e1 q1 G' H' g1 => by
    cases x with
    | true => exact ⟨ρ, G', hR.grow g1, (q1.grow g1).imp fun y _ q2 w G2 H2 g2 => q2 w G2 H2 (g1.trans g2)⟩
    | false => exact ⟨ρ, G', hR.grow g1, (q1.grow g1).imp fun y _ q2 w G2 H2 g2 => q2 w G2 H2 (g1.trans g2)⟩⟩
/-- a new list, shared at once -/
theorem d_own {fo : En → Res (List D)} (h : PE X e (tO X.K X.mg a fo)) : PE X e (tD X.K X.mg a (own fo)) :=
  h.imp fun σ H Q ⟨ρ, G, hR, q⟩ => ⟨ρ, G, hR, (PostE.bind q).imp fun x e1 q1 l vs G' H' g1 n1 n2 h1 r1 =>
    q1 _ _ _ (g1.share n1 n2 h1) (.lst upd_same (Reps.mono (same_new n2) _ _ r1))⟩
/-! argument lists, displays -/
theorem a_nil : PA X [] (tA X.K X.mg a aNil) := pa_nil.imp fun σ H Q ⟨ρ, G, hR, q⟩ => q [] G H (Grow.refl hR.sub) .nil
theorem a_cons {fs : En → Res (List D)} (h : PE X e (tD X.K X.mg a f)) (hs : PA X es (tA X.K X.mg a fs)) (hst : starEach (e :: es) X.env = (false, eval e X.env) :: starEach es X.env := by rfl) : PA X (e :: es) (tA X.K X.mg a (aCons f fs)) :=
  (pa_cons h hs hst).imp fun σ H Q ⟨ρ, G, hR, q⟩ => ⟨ρ, G, hR, (PostE.bind q).imp fun x e1 q1 v G' H' g1 r1 =>
    ⟨ρ, G', hR.grow g1, ((PostE.bind q1).grow g1).imp fun xs e2 q2 vs G2 H2 g2 r2 => q2 (v :: vs) G2 H2 (g1.trans g2) (.cons (Rep.mono g2.g _ _ r1) r2)⟩⟩
def tupD (xs : List D) : Res D := gd (xs.length ≤ sizeLine) (.ok (.tup xs))
def lstD (xs : List D) : Res (List D) := gd (xs.length ≤ sizeLine) (.ok xs)
theorem d_tup {fs : En → Res (List D)} {x1 : Nat} (hs : PA X es (tA X.K X.mg a fs)) : PE X (.Tuple es x1 pos) (tD X.K X.mg a (app tupD fs)) :=
  (pe_tup hs).imp fun σ H Q ⟨ρ, G, hR, q⟩ => ⟨ρ, G, hR, (PostE.bind q).imp fun xs e1 q1 vs G' H' g1 r1 => by
    obtain ⟨hz, q1⟩ := PostE.gd q1
    exact ⟨by rw [r1.len]; exact hz, fun p hp => q1 (.ref p) _ _ (g1.trans (Grow.new g1.s hp)) (.tup (SqT.of upd_same) (Reps.mono (same_new (g1.s.free hp)) _ _ r1))⟩⟩
theorem o_lst {fs : En → Res (List D)} (hs : PA X es (tA X.K X.mg a fs)) : PE X (.List es pos) (tO X.K X.mg a (appO lstD fs)) :=
  (pe_lst hs).imp fun σ H Q ⟨ρ, G, hR, q⟩ => ⟨ρ, G, hR, (PostE.bind q).imp fun xs e1 q1 vs G' H' g1 r1 => by
    obtain ⟨hz, q1⟩ := PostE.gd q1
    exact ⟨by rw [r1.len]; exact hz, fun p hp => q1 p vs G' (upd H' p (.lst vs)) (g1.trans (Grow.own g1.s hp)) (g1.h.free hp) (g1.s.free hp) upd_same r1⟩⟩
end

/-! ## rules: statements -/
section
variable {X : Cx} {a : Amb} {e b : Expr} {st : Stmt} {sts : List Stmt} {f : En → Res D} {F F2 : En → Out} {pos : Pos}
theorem ofR_post {α : Type} {σ : L2.St} {G H : Hp} {ρ : En} {r : Res α} {k : α → Out} {Dn : Ends} (hR : RR X.K a ρ σ G H) (h : Post X.K X.mg a Dn G (ofR ρ r k)) : PostE X.K X.mg a σ G H r fun x => Post X.K X.mg a Dn G (k x) := by
  cases r with
  | ok x => exact h
  | exc e => exact fun d G' H' g x => h d σ G' H' (R.grow hR g) g.g x
  | stuck => exact h
theorem s_nil : PSs X [] (tS X.K X.mg a sNext) := pss_nil.imp fun Dn σ H ⟨ρ, G, hR, q⟩ => q σ G H hR (Same.refl _)
theorem s_cons (h : PS X st (tS X.K X.mg a F)) (h2 : PSs X sts (tS X.K X.mg a F2)) : PSs X (st :: sts) (tS X.K X.mg a (sSeq F F2)) :=
  (pss_cons h h2).imp fun Dn σ H ⟨ρ, G, hR, q⟩ => by
    refine ⟨ρ, G, hR, ?_⟩
    unfold sSeq at q
    cases e1 : F ρ with
    | next ρ' => rw [e1] at q; exact fun σ' G' H' r' s' => ⟨ρ', G', r', Post.mono s' q⟩
    | brk ρ' => rw [e1] at q; exact q
    | cont ρ' => rw [e1] at q; exact q
    | ret r => rw [e1] at q; cases r <;> exact q
    | exc e ρ' => rw [e1] at q; exact q
    | stuck => rw [e1] at q; exact q
theorem s_one (h : PS X st (tS X.K X.mg a F)) : PSs X [st] (tS X.K X.mg a F) := pss_one h
/-- a list becomes shared, ahead of what follows -/
theorem s_frz (i : Nat) (h : PSs X sts (tS X.K X.mg a F)) : PSs X sts (tS X.K X.mg a (sFrz i F)) :=
  h.imp fun Dn σ H ⟨ρ, G, hR, q⟩ => by
    unfold sFrz at q
    cases e1 : ρ[i]? with
    | none => rw [e1] at q; exact q.elim
    | some s => cases s with
      | no => rw [e1] at q; exact q.elim
      | sh d => rw [e1] at q; exact q.elim
      | ow ob => cases ob with
        | dk kvs => rw [e1] at q; exact q.elim
        | lst xs =>
          rw [e1] at q
          obtain ⟨l, vs, _, _, _, _, sg, hR'⟩ := R.frz hR e1
          exact ⟨_, _, hR', Post.mono sg q⟩
theorem s_ret (h : PE X e (tD X.K X.mg a f)) : PS X (.Return (some e) pos) (tS X.K X.mg a (sRet f)) :=
  (ps_ret h).imp fun Dn σ H ⟨ρ, G, hR, q⟩ => ⟨ρ, G, hR, (ofR_post hR q).imp fun x _ q1 v G' H' g r => q1 v G' H' (hR.gr.trans g) g.g r⟩
theorem s_retO {fo : En → Res (List D)} (h : PE X e (tO X.K X.mg a fo)) : PS X (.Return (some e) pos) (tS X.K X.mg a (sRetO fo)) :=
  (ps_ret h).imp fun Dn σ H ⟨ρ, G, hR, q⟩ => ⟨ρ, G, hR, (ofR_post hR q).imp fun x _ q1 l vs G' H' g n1 n2 h1 r => q1 l vs G' H' (hR.gr.trans g) g.g (hR.gr.h.free n1) n2 h1 r⟩
theorem s_retV (i : Nat) {x : Str} {pos2 : Pos} (hN : X.N[i]? = some x := by rfl) (hv : Vis X.env.scope x := by first | exact Or.inl rfl | exact Or.inr (Or.inl rfl) | exact Or.inr (Or.inr rfl)) (hd : (x == ("__debug__" : Str)) = false := by decide)
    (hcd : (x == ("__classdict__" : Str)) = false := by decide) : PS X (.Return (some (.Name x pos)) pos2) (tS X.K X.mg a (sRetV i)) :=
  (ps_ret (pe_var hN hv hd hcd)).imp fun Dn σ H ⟨ρ, G, hR, q⟩ => by
    unfold sRetV at q
    cases e1 : ρ[i]? with
    | none => rw [e1] at q; exact q.elim
    | some s => cases s with
      | no => rw [e1] at q; exact q.elim
      | sh d => rw [e1] at q; exact q.elim
      | ow ob => cases ob with
        | dk kvs => rw [e1] at q; exact q.elim
        | lst xs =>
          rw [e1] at q
          obtain ⟨l, vs, e2, h0, hg, hh, r⟩ := R.owL hR e1
          exact ⟨_, e2, q l vs G H hR.gr (Same.refl _) h0 hg hh r⟩
theorem s_retN : PS X (.Return none pos) (tS X.K X.mg a sRetN) :=
  ps_retN.imp fun Dn σ H ⟨ρ, G, hR, q⟩ => q .non G H hR.gr (Same.refl _) .non
theorem s_set {i : Nat} {x : Str} {p : Pos} (hnd : X.N.Nodup) (h : PE X e (tD X.K X.mg a f)) (hN : X.N[i]? = some x := by rfl) (hx : Loc X.env.scope x := by first | exact Or.inl rfl | exact Or.inr rfl)
    (hfn : X.fn x = true ∨ X.env.scope.names.lookup x = some .local := by first | exact .inl rfl | exact .inr rfl) (hs : swapsWith e (some (.Name x p)) pos.line X.env = pure false := by rfl) :
    PS X (.Assign [.Name x p] e pos) (tS X.K X.mg a (sSet i f)) :=
  (ps_set hnd hN hx h hs hfn).imp fun Dn σ H ⟨ρ, G, hR, q⟩ => ⟨ρ, G, hR, (ofR_post hR q).imp fun d _ q1 v G' H' g r => q1 _ G' H' (R.setSh (R.grow hR g) i r) g.g⟩
theorem s_setO {i : Nat} {x : Str} {p : Pos} {fo : En → Res (List D)} (hnd : X.N.Nodup) (h : PE X e (tO X.K X.mg a fo)) (hN : X.N[i]? = some x := by rfl) (hx : Loc X.env.scope x := by first | exact Or.inl rfl | exact Or.inr rfl)
    (hfn : X.fn x = true ∨ X.env.scope.names.lookup x = some .local := by first | exact .inl rfl | exact .inr rfl) (hs : swapsWith e (some (.Name x p)) pos.line X.env = pure false := by rfl) :
    PS X (.Assign [.Name x p] e pos) (tS X.K X.mg a (sSetO i fo)) :=
  (ps_set hnd hN hx h hs hfn).imp fun Dn σ H ⟨ρ, G, hR, q⟩ => ⟨ρ, G, hR, (ofR_post hR q).imp fun d _ q1 l vs G' H' g n1 n2 h1 r => q1 _ G' H' (R.setNew hR i g n1 n2 h1 (.lst r)) g.g⟩
theorem s_drop (h : PE X e (tD X.K X.mg a f)) (hs : swapsWith e none pos.line X.env = pure false := by rfl) : PS X (.Expr e pos) (tS X.K X.mg a (sDrop f)) :=
  (ps_expr h hs).imp fun Dn σ H ⟨ρ, G, hR, q⟩ => ⟨ρ, G, hR, (ofR_post hR q).imp fun d _ q1 v G' H' g r => q1 _ G' H' (R.grow hR g) g.g⟩
theorem s_if {c : Expr} {t : En → Res Bool} {ss : List Stmt} (hc : PT X c (tT X.K X.mg a t)) (h : PSs X sts (tS X.K X.mg a F)) (h2 : PSs X ss (tS X.K X.mg a F2)) : PS X (.If c sts ss pos) (tS X.K X.mg a (sIf t F F2)) :=
  (ps_if hc h h2).imp fun Dn σ H ⟨ρ, G, hR, q⟩ => ⟨ρ, G, hR, (ofR_post hR q).imp fun b _ q1 G' H' g => by
    cases b with
    | true => exact ⟨ρ, G', R.grow hR g, Post.mono g.g q1⟩
    | false => exact ⟨ρ, G', R.grow hR g, Post.mono g.g q1⟩⟩
theorem s_brk : PS X (.Break pos) (tS X.K X.mg a sBrk) := ps_break.imp fun Dn σ H ⟨ρ, G, hR, q⟩ => q σ G H hR (Same.refl _)
theorem s_cont : PS X (.Continue pos) (tS X.K X.mg a sCont) := ps_continue.imp fun Dn σ H ⟨ρ, G, hR, q⟩ => q σ G H hR (Same.refl _)
theorem s_pass : PS X (.Pass pos) (tS X.K X.mg a sNext) := ps_pass.imp fun Dn σ H ⟨ρ, G, hR, q⟩ => q σ G H hR (Same.refl _)
end
end PL

set_option maxRecDepth 100000
set_option maxHeartbeats 1000000
namespace PL
open PySem PySem.Spec PyProof.Rows L2

/-! ## data as the library's -/
mutual
def toPy : D → PyData
  | .non => .none | .bl b => .bool b | .int i => .int i | .str s => .str s | .tup xs => .tuple (toPys xs) | .lst xs => .list (toPys xs) | .scr _ => .dict []
def toPys : List D → List PyData
  | [] => []
  | x :: xs => toPy x :: toPys xs
end
mutual
theorem Rep.dp {K : PySem.W.Frag} {G : Hp} : ∀ (d : D) (v : V), (toPy d).canLay0 = true → Rep K G v d → Dp K G v (toPy d)
  | .non, _, _, .non => .non
  | .bl b, _, _, .bl _ => .bl b
  | .int b, _, _, .int _ => .int b
  | .str b, _, _, .str _ => .str b
  | .tup ds, _, h, .tup e r => .tup e (Reps.dp ds _ (by simpa only [toPy, PyData.canLay0] using h) r)
  | .lst ds, _, h, .lst e r => .lst (SqL.of e) (Reps.dp ds _ (by simpa only [toPy, PyData.canLay0] using h) r)
  | .scr _, _, h, .scr _ => by simp only [toPy, PyData.canLay0] at h; cases h
theorem Reps.dp {K : PySem.W.Frag} {G : Hp} : ∀ (ds : List D) (vs : List V), PyData.canLayAll0 (toPys ds) = true → Reps K G vs ds → DpAll K G vs (toPys ds)
  | [], _, _, .nil => .nil
  | d :: ds, _, h, .cons e r => by
    have h' : ((toPy d).canLay0 && PyData.canLayAll0 (toPys ds)) = true := by simpa only [toPys, PyData.canLayAll0] using h
    obtain ⟨h1, h2⟩ := Bool.and_eq_true_iff.mp h'
    exact .cons (Rep.dp d _ h1 e) (Reps.dp ds _ h2 r)
end
mutual
theorem Dp.monoS {K : PySem.W.Frag} {G H : Hp} (s : Same G H) : ∀ (d : PyData) (v : V), Dp K G v d → Dp K H v d
  | _, _, .non => .non
  | _, _, .bl b => .bl b
  | _, _, .int b => .int b
  | _, _, .str b => .str b
  | .list ds, _, .lst e r => .lst (s.seq e) (DpAll.monoS s ds _ r)
  | .tuple ds, _, .tup e r => .tup (same_tup s e) (DpAll.monoS s ds _ r)
theorem DpAll.monoS {K : PySem.W.Frag} {G H : Hp} (s : Same G H) : ∀ (ds : List PyData) (vs : List V), DpAll K G vs ds → DpAll K H vs ds
  | _, _, .nil => .nil
  | d :: ds, _, .cons e r => .cons (Dp.monoS s d _ e) (DpAll.monoS s ds _ r)
end
def shp (d : D) : Bool := SeqAt.shaped (toPy d)
theorem shp_dp {K : PySem.W.Frag} {G H : Hp} (s : Same G H) {d : D} {v : V} (h : shp d = true) (r : Rep K G v d) : Dp K H v (toPy d) := Dp.monoS s _ _ (Rep.dp d v (SeqAt.canLay_of_shaped h) r)
theorem units64 {k : Nat} {A : Around} (r : Room k A) : A.units + 64 < cLine := r.units
theorem units65 {k : Nat} {A : Around} (r : Room k A) : A.units + 65 < cLine := by have := r.un; omega

/-! ## operators -/
def addD : D → D → Res D
  | .int a, .int b => .ok (.int (a + b))
  | .str a, .str b => gd (a.length + b.length ≤ sizeLine) (.ok (.str (a ++ b)))
  | .tup a, .tup b => gd (a.length + b.length ≤ sizeLine) (.ok (.tup (a ++ b)))
  | .lst a, .lst b => gd (a.length + b.length ≤ sizeLine) (.ok (.lst (a ++ b)))
  | _, _ => .stuck
def subD : D → D → Res D | .int a, .int b => .ok (.int (a - b)) | _, _ => .stuck
def mulD : D → D → Res D
  | .int a, .int b => gd (a.natAbs.log2 + b.natAbs.log2 < 1000000) (.ok (.int (a * b)))
  | .lst a, .int b => gd (-(2 ^ 63) ≤ b ∧ b < 2 ^ 63 ∧ a.length * b.toNat ≤ sizeLine) (.ok (.lst (List.replicate b.toNat a).flatten))
  | _, _ => .stuck
def modD : D → D → Res D | .int a, .int b => gd (0 < b) (.ok (.int (a % b))) | _, _ => .stuck
def fdivD : D → D → Res D | .int a, .int b => gd (0 < b ∧ b < 2 ^ 64) (.ok (.int (a / b))) | _, _ => .stuck
def powD : D → D → Res D | .int a, .int b => gd (0 ≤ b ∧ b ≤ 1000000 ∧ a.natAbs < 2 ^ 64) (.ok (.int (a ^ b.toNat))) | _, _ => .stuck
def ltD : D → D → Res D | .int a, .int b => .ok (.bl (decide (a < b))) | _, _ => .stuck
def leD : D → D → Res D | .int a, .int b => .ok (.bl (decide (a ≤ b))) | _, _ => .stuck
def gtD : D → D → Res D | .int a, .int b => .ok (.bl (decide (b < a))) | _, _ => .stuck
def geD : D → D → Res D | .int a, .int b => .ok (.bl (decide (b ≤ a))) | _, _ => .stuck
def eqv (a b : D) : Bool := PyData.eqv (toPy a) (toPy b)
def eqD (a b : D) : Res D := gd (shp a = true ∧ shp b = true) (.ok (.bl (eqv a b)))
def neD (a b : D) : Res D := gd (shp a = true ∧ shp b = true) (.ok (.bl (!eqv a b)))
/-- is, is not: with None, True, False -/
def isNonD : D → Bool | .non => true | _ => false
def isD : D → D → Res D
  | a, .non => .ok (.bl (isNonD a))
  | .bl a, .bl b => .ok (.bl (decide (a = b)))
  | _, _ => .stuck
def isNotD : D → D → Res D
  | a, .non => .ok (.bl (!isNonD a))
  | .bl a, .bl b => .ok (.bl (!decide (a = b)))
  | _, _ => .stuck
def sign1 (s : Str) : Option Nat := match s.cps.toList with | [c] => some c | _ => none
def flD : D → Bool | .non => true | .bl _ => true | .int _ => true | .str _ => true | _ => false
def inD : D → D → Res D
  | .str a, .str b => match sign1 a with | some c => .ok (.bl (decide (c ∈ b.cps.toList))) | none => .stuck
  | a, .lst xs => gd (shp a = true ∧ shp (.lst xs) = true) (.ok (.bl (xs.any fun x => eqv x a)))
  | a, .tup xs => gd (flD a = true ∧ xs.all flD = true) (.ok (.bl (xs.any fun x => eqv x a)))
  | _, _ => .stuck
def notInD : D → D → Res D
  | .str a, .str b => match sign1 a with | some c => .ok (.bl (!decide (c ∈ b.cps.toList))) | none => .stuck
  | a, .lst xs => gd (shp a = true ∧ shp (.lst xs) = true) (.ok (.bl (!xs.any fun x => eqv x a)))
  | a, .tup xs => gd (flD a = true ∧ xs.all flD = true) (.ok (.bl (!xs.any fun x => eqv x a)))
  | _, _ => .stuck

theorem nox_add : NoX addD := fun x y e h => by
  cases x <;> cases y <;> first | (cases h; done) | (have := (gd_exc h).2; cases this)
theorem nox_sub : NoX subD := fun x y e h => by cases x <;> cases y <;> cases h
theorem nox_mul : NoX mulD := fun x y e h => by
  cases x <;> cases y <;> first | (cases h; done) | (have := (gd_exc h).2; cases this)
theorem nox_mod : NoX modD := fun x y e h => by
  cases x <;> cases y <;> first | (cases h; done) | (have := (gd_exc h).2; cases this)
theorem nox_fdiv : NoX fdivD := fun x y e h => by
  cases x <;> cases y <;> first | (cases h; done) | (have := (gd_exc h).2; cases this)
theorem nox_pow : NoX powD := fun x y e h => by
  cases x <;> cases y <;> first | (cases h; done) | (have := (gd_exc h).2; cases this)
theorem nox_lt : NoX ltD := fun x y e h => by cases x <;> cases y <;> cases h
theorem nox_le : NoX leD := fun x y e h => by cases x <;> cases y <;> cases h
theorem nox_gt : NoX gtD := fun x y e h => by cases x <;> cases y <;> cases h
theorem nox_ge : NoX geD := fun x y e h => by cases x <;> cases y <;> cases h
theorem nox_eq : NoX eqD := fun x y e h => by have := (gd_exc h).2; cases this
theorem nox_ne : NoX neD := fun x y e h => by have := (gd_exc h).2; cases this
theorem nox_is : NoX isD := fun x y e h => by cases x <;> cases y <;> cases h
theorem nox_isNot : NoX isNotD := fun x y e h => by cases x <;> cases y <;> cases h
theorem nox_in : NoX inD := fun x y e h => by
  cases x <;> cases y <;> first
    | (cases h; done)
    | (have := (gd_exc h).2; cases this)
    | (simp only [inD] at h; split at h <;> cases h)
theorem nox_notIn : NoX notInD := fun x y e h => by
  cases x <;> cases y <;> first
    | (cases h; done)
    | (have := (gd_exc h).2; cases this)
    | (simp only [notInD] at h; split at h <;> cases h)

section
variable {X : Cx}
theorem opI_of {bop : Value → Value → Sem Value} {C : Int → Int → Prop} {g : Int → Int → D} {gv : Int → Int → V} {o : D → D → Res D} (h : OpR X bop (rI C gv)) (hg : ∀ i j G, Rep X.K G (gv i j) (g i j))
    (ho : ∀ x y z, o x y = .ok z → ∃ i j, x = .int i ∧ y = .int j ∧ C i j ∧ z = g i j) : OpD X bop o :=
  ⟨_, h, fun G H x y c d z Q s rx ry e k => by
    obtain ⟨i, j, rfl, rfl, hc, rfl⟩ := ho _ _ _ e
    cases rx; cases ry
    exact ⟨i, j, rfl, rfl, hc, k _ G H (Grow.refl s) (hg i j G)⟩⟩
theorem opI0_of {bop : Value → Value → Sem Value} {g : Int → Int → D} {gv : Int → Int → V} {o : D → D → Res D} (h : OpR X bop (rI0 gv)) (hg : ∀ i j G, Rep X.K G (gv i j) (g i j))
    (ho : ∀ x y z, o x y = .ok z → ∃ i j, x = .int i ∧ y = .int j ∧ z = g i j) : OpD X bop o :=
  ⟨_, h, fun G H x y c d z Q s rx ry e k => by
    obtain ⟨i, j, rfl, rfl, rfl⟩ := ho _ _ _ e
    cases rx; cases ry
    exact ⟨i, j, rfl, rfl, k _ G H (Grow.refl s) (hg i j G)⟩⟩
theorem od_sub : OpD X (binaryOp .Sub) subD := opI0_of (g := fun i j => .int (i - j)) op_sub (fun _ _ _ => .int _) fun x y z e => by
  cases x <;> cases y <;> first | (cases e; done) | (cases e; exact ⟨_, _, rfl, rfl, rfl⟩)
theorem od_mod : OpD X (binaryOp .Mod) modD := opI_of (g := fun i j => .int (i % j)) op_mod (fun _ _ _ => .int _) fun x y z e => by
  cases x <;> cases y <;> first | (cases e; done) | (obtain ⟨h, e⟩ := gd_ok e; cases e; exact ⟨_, _, rfl, rfl, h, rfl⟩)
theorem od_fdiv : OpD X (binaryOp .FloorDiv) fdivD := opI_of (g := fun i j => .int (i / j)) op_fdivW (fun _ _ _ => .int _) fun x y z e => by
  cases x <;> cases y <;> first | (cases e; done) | (obtain ⟨h, e⟩ := gd_ok e; cases e; exact ⟨_, _, rfl, rfl, wide_div h.1 (b := 64) (by omega) (by decide) (by decide), rfl⟩)
theorem od_pow : OpD X (binaryOp .Pow) powD := opI_of (g := fun i j => .int (i ^ j.toNat)) op_pow (fun _ _ _ => .int _) fun x y z e => by
  cases x <;> cases y <;> first | (cases e; done) | (obtain ⟨h, e⟩ := gd_ok e; cases e; exact ⟨_, _, rfl, rfl, h, rfl⟩)
theorem od_lt : OpD X (compareOp .Lt) ltD := opI0_of (g := fun i j => .bl (decide (i < j))) op_lt (fun _ _ _ => .bl _) fun x y z e => by
  cases x <;> cases y <;> first | (cases e; done) | (cases e; exact ⟨_, _, rfl, rfl, rfl⟩)
theorem od_le : OpD X (compareOp .LtE) leD := opI0_of (g := fun i j => .bl (decide (i ≤ j))) op_le (fun _ _ _ => .bl _) fun x y z e => by
  cases x <;> cases y <;> first | (cases e; done) | (cases e; exact ⟨_, _, rfl, rfl, rfl⟩)
theorem od_gt : OpD X (compareOp .Gt) gtD := opI0_of (g := fun i j => .bl (decide (j < i))) op_gt (fun _ _ _ => .bl _) fun x y z e => by
  cases x <;> cases y <;> first | (cases e; done) | (cases e; exact ⟨_, _, rfl, rfl, rfl⟩)
theorem od_ge : OpD X (compareOp .GtE) geD := opI0_of (g := fun i j => .bl (decide (j ≤ i))) op_ge (fun _ _ _ => .bl _) fun x y z e => by
  cases x <;> cases y <;> first | (cases e; done) | (cases e; exact ⟨_, _, rfl, rfl, rfl⟩)
theorem od_eq {k : Nat} (hr : Room k X.A) : OpD X (compareOp .Eq) eqD := ⟨_, op_eqD hr.units, fun G H x y c d z Q s rx ry e q => by
  obtain ⟨⟨h1, h2⟩, e⟩ := gd_ok e
  cases e
  exact ⟨_, _, shp_dp s h1 rx, shp_dp s h2 ry, h1, h2, q _ G H (Grow.refl s) (.bl _)⟩⟩
theorem od_ne {k : Nat} (hr : Room k X.A) : OpD X (compareOp .NotEq) neD := ⟨_, op_neD hr.units, fun G H x y c d z Q s rx ry e q => by
  obtain ⟨⟨h1, h2⟩, e⟩ := gd_ok e
  cases e
  exact ⟨_, _, shp_dp s h1 rx, shp_dp s h2 ry, h1, h2, q _ G H (Grow.refl s) (.bl _)⟩⟩
theorem rep_non {K : PySem.W.Frag} {G : Hp} {v : V} {d : D} (r : Rep K G v d) : decide (v = .non) = isNonD d := by
  cases r <;> simp [isNonD]
theorem od_is : OpD X (compareOp .Is) isD := ⟨_, (op_isN).or op_isBl, fun G H x y c d z Q s rx ry e q => by
  cases ry with
  | non =>
    refine .inl ⟨rfl, ?_⟩
    rw [rep_non rx]
    have e' : z = .bl (isNonD c) := by cases c <;> (cases e; rfl)
    subst e'
    exact q _ G H (Grow.refl s) (.bl _)
  | bl b =>
    cases rx with
    | bl a => cases e; exact .inr ⟨a, b, rfl, rfl, q _ G H (Grow.refl s) (.bl _)⟩
    | _ => cases e
  | _ => cases rx <;> cases e⟩
theorem od_isNot : OpD X (compareOp .IsNot) isNotD := ⟨_, (op_notN).or op_notBl, fun G H x y c d z Q s rx ry e q => by
  cases ry with
  | non =>
    refine .inl ⟨rfl, ?_⟩
    rw [rep_non rx]
    have e' : z = .bl (!isNonD c) := by cases c <;> (cases e; rfl)
    subst e'
    exact q _ G H (Grow.refl s) (.bl _)
  | bl b =>
    cases rx with
    | bl a => cases e; exact .inr ⟨a, b, rfl, rfl, q _ G H (Grow.refl s) (.bl _)⟩
    | _ => cases e
  | _ => cases rx <;> cases e⟩
theorem sign1_eq {s : Str} {c : Nat} (h : sign1 s = some c) : s = ⟨#[c]⟩ := by
  obtain ⟨cs⟩ := s
  unfold sign1 at h
  split at h
  · rename_i c' e
    cases h
    have : cs = #[c] := by
      apply Array.toList_inj.mp; simpa using e
    rw [this]
  · cases h
theorem fl_flat {K : PySem.W.Frag} {G : Hp} {v : V} {d : D} (h : flD d = true) (r : Rep K G v d) : flatV v = true := by
  cases r <;> first | rfl | cases h
theorem fl_eqv {K : PySem.W.Frag} {G : Hp} {v u : V} {d e : D} (h : flD d = true) (h2 : flD e = true) (r : Rep K G v d) (q : Rep K G u e) : eqV v u = eqv d e := by
  cases r <;> first | (cases h; done) | (cases q <;> first | (cases h2; done) | (simp only [eqV, eqv, toPy, PyData.eqv]))
theorem fl_in {K : PySem.W.Frag} {G : Hp} {u : V} {e : D} (h2 : flD e = true) (q : Rep K G u e) : ∀ {ds : List D} {vs : List V}, ds.all flD = true → Reps K G vs ds → vs.all flatV = true ∧ inV u vs = ds.any fun x => eqv x e
  | [], _, _, .nil => ⟨rfl, rfl⟩
  | d :: ds, _, h, .cons r t => by
    rw [List.all_cons, Bool.and_eq_true] at h
    obtain ⟨i1, i2⟩ := fl_in h2 q h.2 t
    refine ⟨by rw [List.all_cons, fl_flat h.1 r, i1] <;> rfl, ?_⟩
    unfold inV at i2 ⊢
    rw [List.any_cons, List.any_cons, fl_eqv h.1 h2 r q, i2]
theorem od_in {k : Nat} (hr : Room k X.A) : OpD X (compareOp .In) inD := ⟨_, ((op_in_sign).or (op_inD (units65 hr))).or op_in_seq, fun G H x y c d z Q s rx ry e q => by
  have lcase : ∀ xs, d = .lst xs → inD c d = gd (shp c = true ∧ shp (.lst xs) = true) (.ok (.bl (xs.any fun x => eqv x c))) → rInD X.K x y H Q := fun xs hd he => by
    subst hd
    rw [he] at e
    obtain ⟨⟨h1, h2⟩, e⟩ := gd_ok e
    cases e
    refine ⟨_, toPys xs, shp_dp s h1 rx, by have := shp_dp s h2 ry; simpa only [toPy] using this, h1, by simpa only [shp, toPy] using h2, ?_⟩
    have e2 : ((toPys xs).any fun z => PyData.eqv z (toPy c)) = xs.any fun x => eqv x c := by
      clear h2 q he e ry
      induction xs with
      | nil => rfl
      | cons a r ih => simp only [toPys, List.any_cons, ih, eqv]
    rw [e2]
    exact q _ G H (Grow.refl s) (.bl _)
  have tcase : ∀ xs, d = .tup xs → inD c d = gd (flD c = true ∧ xs.all flD = true) (.ok (.bl (xs.any fun x => eqv x c))) → rIn X.K false x y H Q := fun xs hd he => by
    subst hd
    rw [he] at e
    obtain ⟨⟨h1, h2⟩, e⟩ := gd_ok e
    cases e
    cases ry with
    | @tup p vs ds h r =>
      obtain ⟨i1, i2⟩ := fl_in h1 rx h2 r
      refine ⟨p, vs, rfl, .inr (same_tup s h), fl_flat h1 rx, i1, ?_⟩
      rw [i2]
      exact q _ G H (Grow.refl s) (.bl _)
  cases d with
  | lst xs => exact .inl (.inr (lcase xs rfl (by cases c <;> rfl)))
  | tup xs => exact .inr (tcase xs rfl (by cases c <;> rfl))
  | str b =>
    cases c with
    | str a =>
      simp only [inD] at e
      split at e
      · rename_i cc hc
        cases e
        cases rx; cases ry
        exact .inl (.inl ⟨cc, b, by rw [sign1_eq hc], rfl, q _ G H (Grow.refl s) (.bl _)⟩)
      · cases e
    | _ => cases e
  | _ => cases c <;> cases e⟩
theorem od_notIn {k : Nat} (hr : Room k X.A) : OpD X (compareOp .NotIn) notInD := ⟨_, ((op_notIn_sign).or (op_notInD (units65 hr))).or op_notIn_seq, fun G H x y c d z Q s rx ry e q => by
  have lcase : ∀ xs, d = .lst xs → notInD c d = gd (shp c = true ∧ shp (.lst xs) = true) (.ok (.bl (!xs.any fun x => eqv x c))) → rNotInD X.K x y H Q := fun xs hd he => by
    subst hd
    rw [he] at e
    obtain ⟨⟨h1, h2⟩, e⟩ := gd_ok e
    cases e
    refine ⟨_, toPys xs, shp_dp s h1 rx, by have := shp_dp s h2 ry; simpa only [toPy] using this, h1, by simpa only [shp, toPy] using h2, ?_⟩
    have e2 : ((toPys xs).any fun z => PyData.eqv z (toPy c)) = xs.any fun x => eqv x c := by
      clear h2 q he e ry
      induction xs with
      | nil => rfl
      | cons a r ih => simp only [toPys, List.any_cons, ih, eqv]
    rw [e2]
    exact q _ G H (Grow.refl s) (.bl _)
  have tcase : ∀ xs, d = .tup xs → notInD c d = gd (flD c = true ∧ xs.all flD = true) (.ok (.bl (!xs.any fun x => eqv x c))) → rIn X.K true x y H Q := fun xs hd he => by
    subst hd
    rw [he] at e
    obtain ⟨⟨h1, h2⟩, e⟩ := gd_ok e
    cases e
    cases ry with
    | @tup p vs ds h r =>
      obtain ⟨i1, i2⟩ := fl_in h1 rx h2 r
      refine ⟨p, vs, rfl, .inr (same_tup s h), fl_flat h1 rx, i1, ?_⟩
      rw [i2]
      exact q _ G H (Grow.refl s) (.bl _)
  cases d with
  | lst xs => exact .inl (.inr (lcase xs rfl (by cases c <;> rfl)))
  | tup xs => exact .inr (tcase xs rfl (by cases c <;> rfl))
  | str b =>
    cases c with
    | str a =>
      simp only [notInD] at e
      split at e
      · rename_i cc hc
        cases e
        cases rx; cases ry
        exact .inl (.inl ⟨cc, b, by rw [sign1_eq hc], rfl, q _ G H (Grow.refl s) (.bl _)⟩)
      · cases e
    | _ => cases e
  | _ => cases c <;> cases e⟩
theorem tupl_nil {K : PySem.W.Frag} {G : Hp} {vs : List V} {ds : List D} (r : Reps K G vs ds) : vs = [] ↔ ds = [] := by
  cases r <;> simp
theorem od_add : OpD X (binaryOp .Add) addD := ⟨_, ((op_add).or op_add_str).or ((op_catA).or op_cat), fun G H x y c d z Q s rx ry e q => by
  cases rx with
  | int i => cases ry with
    | int j => cases e; exact .inl (.inl ⟨i, j, rfl, rfl, q _ G H (Grow.refl s) (.int _)⟩)
    | _ => cases e
  | str i => cases ry with
    | str j => obtain ⟨h, e⟩ := gd_ok e; cases e; exact .inl (.inr ⟨i, j, rfl, rfl, h, q _ G H (Grow.refl s) (.str _)⟩)
    | _ => cases e
  | @tup p vs ds h1 r1 => cases ry with
    | @tup p2 us es h2 r2 =>
      obtain ⟨h, e⟩ := gd_ok e; cases e
      refine .inr (.inl ⟨p, p2, vs, us, rfl, rfl, same_tup s h1, same_tup s h2, by rw [r1.len, r2.len]; exact h, fun z => ?_, fun z1 z2 => ?_, fun z1 z2 l hl => ?_⟩)
      · have : ds = [] := (tupl_nil r1).mp z
        subst this
        exact q _ G H (Grow.refl s) (.tup h2 r2)
      · have : es = [] := (tupl_nil r2).mp z2
        subst this
        rw [List.append_nil] at q
        exact q _ G H (Grow.refl s) (.tup h1 r1)
      · exact q _ _ _ (Grow.new s hl) (.tup (SqT.of upd_same) (Reps.mono (same_new (s.free hl)) _ _ (r1.app r2)))
    | _ => cases e
  | @lst p vs ds h1 r1 => cases ry with
    | @lst p2 us es h2 r2 =>
      obtain ⟨h, e⟩ := gd_ok e; cases e
      exact .inr (.inr ⟨p, p2, vs, us, rfl, rfl, s _ _ h1, s _ _ h2, by rw [r1.len, r2.len]; exact h, fun l hl => q _ _ _ (Grow.new s hl) (.lst upd_same (Reps.mono (same_new (s.free hl)) _ _ (r1.app r2)))⟩)
    | _ => cases e
  | _ => cases ry <;> cases e⟩
theorem od_mul : OpD X (binaryOp .Mult) mulD := ⟨_, (op_mulW).or op_rep, fun G H x y c d z Q s rx ry e q => by
  cases rx with
  | int i => cases ry with
    | int j => obtain ⟨h, e⟩ := gd_ok e; cases e; exact .inl ⟨i, j, rfl, rfl, h, q _ G H (Grow.refl s) (.int _)⟩
    | _ => cases e
  | @lst p vs ds h1 r1 => cases ry with
    | int j =>
      obtain ⟨⟨a1, a2, a3⟩, e⟩ := gd_ok e; cases e
      exact .inr ⟨p, j, vs, rfl, rfl, s _ _ h1, a1, a2, by rw [r1.len]; exact a3, fun l hl => q _ _ _ (Grow.new s hl) (.lst upd_same (Reps.mono (same_new (s.free hl)) _ _ (r1.rep _)))⟩
    | _ => cases e
  | _ => cases ry <;> cases e⟩
end

/-! ## unary minus -/
def negD : D → Res D | .int i => .ok (.int (-i)) | _ => .stuck
section
variable {X : Cx} {a : Amb} {e : Expr} {f : En → Res D} {pos : Pos}
theorem d_neg (h : PE X e (tD X.K X.mg a f)) : PE X (.UnaryOp .USub e pos) (tD X.K X.mg a (una negD f)) :=
  (pe_un un_neg h).imp fun σ H Q ⟨ρ, G, hR, q⟩ => ⟨ρ, G, hR, (PostE.bind q).imp fun x _ q1 v G' H' g r => by
    cases r with
    | int i => exact ⟨i, rfl, q1 _ G' H' g (.int _)⟩
    | _ => exact q1.elim⟩
end
end PL

set_option maxRecDepth 100000
set_option maxHeartbeats 1000000
namespace PL
open PySem PySem.Spec PyProof.Rows L2

/-! ## subscripts -/
theorem Reps.atI {K : PySem.W.Frag} {G : Hp} {vs : List V} {ds : List D} {i : Int} {d : D} (r : Reps K G vs ds) (h : atI ds i = some d) : ∃ v, L2.atI vs i = some v ∧ Rep K G v d := by
  unfold L2.atI at h ⊢
  rw [r.len]
  cases e : ixN ds.length i with
  | none => rw [e] at h; cases h
  | some j =>
    rw [e] at h
    exact r.get h
def ixD : D → D → Res D
  | .lst xs, .int i => match atI xs i with | some d => .ok d | none => .stuck
  | .tup xs, .int i => match atI xs i with | some d => .ok d | none => .stuck
  | .scr ns, .int i => match atI ns i with | some d => .ok (.int d) | none => .stuck
  | .str s, .int i => gd (s.length ≤ sizeLine) (match atI s.cps.toList i with | some c => .ok (.str ⟨#[c]⟩) | none => .stuck)
  | _, _ => .stuck
theorem nox_ix : NoX ixD := fun x y e h => by
  cases x <;> cases y <;> first
    | (cases h; done)
    | (simp only [ixD] at h; split at h <;> cases h)
    | (simp only [ixD] at h; obtain ⟨_, h⟩ := gd_exc h; split at h <;> cases h)
def cutG {α : Type} (xs : List α) (lo hi : Option Int) : List α := (xs.drop (HT.sIx xs.length 0 lo)).take (HT.sIx xs.length xs.length hi - HT.sIx xs.length 0 lo)
theorem Reps.cut {K : PySem.W.Frag} {G : Hp} {vs : List V} {ds : List D} (r : Reps K G vs ds) (lo hi : Option Int) : Reps K G (cutV vs lo hi) (cutG ds lo hi) := by
  unfold cutV cutG
  rw [r.len]
  exact (r.drop _).take _
def sliceD (x : D) (lo hi : Option Int) : Res D := match x with
  | .lst xs => .ok (.lst (cutG xs lo hi))
  | .tup xs => .ok (.tup (cutG xs lo hi))
  | .str s => gd (s.length ≤ sizeLine) (.ok (.str (cutS s lo hi)))
  | _ => .stuck
def pN : En → Res (Option Int) := fun _ => .ok none
def pS (f : En → Res D) : En → Res (Option Int) := fun ρ => (f ρ).bind fun x => match x with | .int i => .ok (some i) | _ => .stuck
def sliceE (f : En → Res D) (l h : En → Res (Option Int)) : En → Res D := fun ρ => (f ρ).bind fun x => (l ρ).bind fun lo => (h ρ).bind fun hi => sliceD x lo hi
section
variable (K : PySem.W.Frag) (mg : Str → Option Value) (a : Amb)
def tP (f : En → Res (Option Int)) : TO := fun σ H Q => ∃ ρ G, RR K a ρ σ G H ∧ PostE K mg a σ G H (f ρ) fun d => ∀ G' H', Grow G H G' H' → Q d H'
end
section
variable {X : Cx} {a : Amb} {e b : Expr} {es : List Expr} {f g : En → Res D} {pos : Pos}
theorem d_ix (hf : PE X e (tD X.K X.mg a f)) (hg : PE X b (tD X.K X.mg a g)) (hp : PlainIx b) : PE X (.Subscript e b pos) (tD X.K X.mg a (bin ixD f g)) :=
  (pe_ix ix_seq hf hg hp).imp (bin_ok nox_ix fun G H x y c d z Q s rx ry h q => by
    cases ry with
    | int i =>
      cases rx with
      | @lst p vs ds h1 r1 =>
        simp only [ixD] at h
        split at h
        · rename_i d' hd; cases h
          obtain ⟨v, e1, r⟩ := r1.atI hd
          exact .inl ⟨p, vs, i, v, rfl, rfl, SqL.of (s _ _ h1), e1, q _ G H (Grow.refl s) r⟩
        · cases h
      | @tup p vs ds h1 r1 =>
        simp only [ixD] at h
        split at h
        · rename_i d' hd; cases h
          obtain ⟨v, e1, r⟩ := r1.atI hd
          exact .inr (.inl ⟨p, vs, i, v, rfl, rfl, same_tup s h1, e1, q _ G H (Grow.refl s) r⟩)
        · cases h
      | @scr p ns h1 =>
        simp only [ixD] at h
        split at h
        · rename_i n hd; cases h
          have e1 : L2.atI (ns.map V.int) i = some (.int n) := by
            unfold L2.atI at hd ⊢
            rw [List.length_map]
            cases e0 : ixN ns.length i with
            | none => rw [e0] at hd; cases hd
            | some j =>
              rw [e0] at hd
              show (ns.map V.int)[j]? = _
              rw [List.getElem?_map, show ns[j]? = some n from hd] <;> rfl
          exact .inl ⟨p, _, i, _, rfl, rfl, s.seq h1, e1, q _ G H (Grow.refl s) (.int n)⟩
        · cases h
      | str z' =>
        simp only [ixD] at h
        obtain ⟨hz, h⟩ := gd_ok h
        split at h
        · rename_i n hd; cases h
          exact .inr (.inr ⟨z', i, n, rfl, rfl, hz, hd, q _ G H (Grow.refl s) (.str _)⟩)
        · cases h
      | _ => cases h
    | _ => cases rx <;> cases h)
theorem p_non : PO X none (tP X.K X.mg a pN) := ⟨fun pins s σ H Q I ⟨ρ, G, hR, q⟩ => (po_none (X := X)).run pins s σ H Q I (q G H (Grow.refl hR.sub))⟩
theorem p_some (h : PE X e (tD X.K X.mg a f)) : PO X (some e) (tP X.K X.mg a (pS f)) := ⟨fun pins s σ H Q I ⟨ρ, G, hR, q⟩ => by
  refine (po_some h).run pins s σ H Q I ⟨ρ, G, hR, (PostE.bind q).imp fun x _ q1 v G' H' g1 r1 => ?_⟩
  cases r1 with
  | int i => exact ⟨i, rfl, q1 G' H' g1⟩
  | _ => exact q1.elim⟩
theorem d_slice {lo hi : Option Expr} {l u : En → Res (Option Int)} {p2 : Pos} (hf : PE X e (tD X.K X.mg a f)) (hl : PO X lo (tP X.K X.mg a l)) (hu : PO X hi (tP X.K X.mg a u)) : PE X (.Subscript e (.Slice lo hi none p2) pos) (tD X.K X.mg a (sliceE f l u)) :=
  (pe_slice ((sl_list).or ((sl_tupA).or sl_str)) hf hl hu).imp fun σ H Q ⟨ρ, G, hR, q⟩ =>
    ⟨ρ, G, hR, (PostE.bind q).imp fun x _ q1 v G1 H1 g1 r1 => ⟨ρ, G1, R.grow hR g1, ((PostE.bind q1).grow g1).imp fun lo' _ q2 G2 H2 g2 =>
      ⟨ρ, G2, R.grow (R.grow hR g1) g2, ((PostE.bind q2).grow (g1.trans g2)).imp fun hi' _ q3 G3 H3 g3 => by
        have r3 := Rep.mono (g2.g.trans g3.g) _ _ r1
        have gg := (g1.trans g2).trans g3
        have sg := g3.s
        cases r3 with
        | @lst p vs ds h1 r => exact .inl ⟨p, vs, rfl, SqL.of (sg _ _ h1), fun l' hl' => q3 _ _ _ (gg.trans (Grow.new sg hl')) (.lst upd_same (Reps.mono (same_new (sg.free hl')) _ _ (r.cut lo' hi')))⟩
        | @tup p vs ds h1 r =>
          refine .inr (.inl ⟨p, vs, rfl, same_tup sg h1, fun hw => ?_, fun hw l' hl' => q3 _ _ _ (gg.trans (Grow.new sg hl')) (.tup (SqT.of upd_same) (Reps.mono (same_new (sg.free hl')) _ _ (r.cut lo' hi')))⟩)
          have e1 : cutG ds lo' hi' = ds := by
            unfold cutG
            rw [r.len] at hw
            rw [hw.1, hw.2]; simp
          have q4 : ∀ v G' H', Grow G H G' H' → Rep X.K G' v (.tup ds) → Q v H' := fun v G' H' g r => q3 v G' H' g (by rw [e1]; exact r)
          exact q4 _ _ _ gg (.tup h1 r)
        | str s =>
          obtain ⟨hz, q4⟩ := PostE.gd q3
          exact .inr (.inr ⟨s, rfl, hz, q4 _ _ _ gg (.str _)⟩)
        | _ => exact q3.elim⟩⟩⟩
end

/-! ## calls of built-ins -/
def NoXL (o : List D → Res D) : Prop := ∀ xs e, o xs ≠ .exc e
def CallD (X : Cx) (f : Value) (o : List D → Res D) : Prop := ∃ r : List V → Hp → VK → Prop, CallR X f r ∧
  ∀ (G H : Hp) (vs : List V) (ds : List D) (z : D) (Q : VK), Same G H → Reps X.K G vs ds → o ds = .ok z → (∀ v G' H', Grow G H G' H' → Rep X.K G' v z → Q v H') → r vs H Q
/-- .. whose value is a new list -/
def CallO (X : Cx) (f : Value) (o : List D → Res (List D)) : Prop := ∃ r : List V → Hp → VK → Prop, CallR X f r ∧
  ∀ (G H : Hp) (vs : List V) (ds zs : List D) (Q : VK), Same G H → Reps X.K G vs ds → o ds = .ok zs → (∀ l us G' H', Grow G H G' H' → H l = none → G' l = none → H' l = some (.lst us) → Reps X.K G' us zs → Q (.ref l) H') → r vs H Q
section
variable {X : Cx} {a : Amb} {e b : Expr} {es : List Expr} {f g : En → Res D} {fs : En → Res (List D)} {pos p : Pos} {x : Str} {id T : String}
theorem app_run {o : List D → Res D} {r : List V → Hp → VK → Prop} (hx : NoXL o)
    (hr : ∀ (G H : Hp) (vs : List V) (ds : List D) (z : D) (Q : VK), Same G H → Reps X.K G vs ds → o ds = .ok z → (∀ v G' H', Grow G H G' H' → Rep X.K G' v z → Q v H') → r vs H Q)
    (σ : L2.St) (H : Hp) (Q : VK) (h : tD X.K X.mg a (app o fs) σ H Q) : tCB r (tA X.K X.mg a fs) σ H Q := by
  obtain ⟨ρ, G, hR, q⟩ := h
  refine ⟨ρ, G, hR, (PostE.bind q).imp fun ds _ q1 vs G1 H1 g1 r1 => ?_⟩
  cases h3 : o ds with
  | stuck => rw [h3] at q1; exact q1.elim
  | exc e => exact absurd h3 (hx ds e)
  | ok z =>
    rw [h3] at q1
    exact hr G1 H1 vs ds z Q g1.s r1 h3 fun v G' H' g3 r3 => q1 v G' H' (g1.trans g3) r3
theorem appO_run {o : List D → Res (List D)} {r : List V → Hp → VK → Prop} (hx : ∀ xs e, o xs ≠ .exc e)
    (hr : ∀ (G H : Hp) (vs : List V) (ds zs : List D) (Q : VK), Same G H → Reps X.K G vs ds → o ds = .ok zs → (∀ l us G' H', Grow G H G' H' → H l = none → G' l = none → H' l = some (.lst us) → Reps X.K G' us zs → Q (.ref l) H') → r vs H Q)
    (σ : L2.St) (H : Hp) (Q : VK) (h : tO X.K X.mg a (appO o fs) σ H Q) : tCB r (tA X.K X.mg a fs) σ H Q := by
  obtain ⟨ρ, G, hR, q⟩ := h
  refine ⟨ρ, G, hR, (PostE.bind q).imp fun ds _ q1 vs G1 H1 g1 r1 => ?_⟩
  cases h3 : o ds with
  | stuck => rw [h3] at q1; exact q1.elim
  | exc e => exact absurd h3 (hx ds e)
  | ok z =>
    rw [h3] at q1
    exact hr G1 H1 vs ds z Q g1.s r1 h3 fun l us G' H' g3 n1 n2 h1 r3 => q1 l us G' H' (g1.trans g3) (g1.h.free n1) n2 h1 r3
theorem d_callB {o : List D → Res D} (hc : CallD X (.builtin id) o) (hx : NoXL o) (hv : bootBuiltins x = some (.builtin id)) (hm : X.mg x = none) (ha : PA X (e :: es) (tA X.K X.mg a fs)) (hg : Gl X x := by rfl) (hn : x ≠ "__name__" := by decide) (hdb : (x == ("__debug__" : Str)) = false := by decide)
    (he : starEach (e :: es) X.env = (false, eval e X.env) :: starEach es X.env := by rfl) (hpl : (backTo pos (starEach es X.env)).any (·.1) = false := by rfl) : PE X (.Call (.Name x p) (e :: es) [] pos) (tD X.K X.mg a (app o fs)) := by
  obtain ⟨r, h1, h2⟩ := hc
  exact (pe_callB h1 hg hm hv ha hn hdb he hpl).imp (app_run hx h2)
theorem d_callTy {o : List D → Res D} (hc : CallD X (.type T) o) (hx : NoXL o) (hv : bootBuiltins x = some (.type T)) (hm : X.mg x = none) (ha : PA X (e :: es) (tA X.K X.mg a fs)) (hg : Gl X x := by rfl) (hn : x ≠ "__name__" := by decide) (hdb : (x == ("__debug__" : Str)) = false := by decide)
    (he : starEach (e :: es) X.env = (false, eval e X.env) :: starEach es X.env := by rfl) (hpl : (backTo pos (starEach es X.env)).any (·.1) = false := by rfl) : PE X (.Call (.Name x p) (e :: es) [] pos) (tD X.K X.mg a (app o fs)) := by
  obtain ⟨r, h1, h2⟩ := hc
  exact (pe_callTy h1 hg hm hv ha hn hdb he hpl).imp (app_run hx h2)
theorem o_callB {o : List D → Res (List D)} (hc : CallO X (.builtin id) o) (hx : ∀ xs e, o xs ≠ .exc e) (hv : bootBuiltins x = some (.builtin id)) (hm : X.mg x = none) (ha : PA X (e :: es) (tA X.K X.mg a fs)) (hg : Gl X x := by rfl) (hn : x ≠ "__name__" := by decide) (hdb : (x == ("__debug__" : Str)) = false := by decide)
    (he : starEach (e :: es) X.env = (false, eval e X.env) :: starEach es X.env := by rfl) (hpl : (backTo pos (starEach es X.env)).any (·.1) = false := by rfl) : PE X (.Call (.Name x p) (e :: es) [] pos) (tO X.K X.mg a (appO o fs)) := by
  obtain ⟨r, h1, h2⟩ := hc
  exact (pe_callB h1 hg hm hv ha hn hdb he hpl).imp (appO_run hx h2)
theorem o_callTy {o : List D → Res (List D)} (hc : CallO X (.type T) o) (hx : ∀ xs e, o xs ≠ .exc e) (hv : bootBuiltins x = some (.type T)) (hm : X.mg x = none) (ha : PA X (e :: es) (tA X.K X.mg a fs)) (hg : Gl X x := by rfl) (hn : x ≠ "__name__" := by decide) (hdb : (x == ("__debug__" : Str)) = false := by decide)
    (he : starEach (e :: es) X.env = (false, eval e X.env) :: starEach es X.env := by rfl) (hpl : (backTo pos (starEach es X.env)).any (·.1) = false := by rfl) : PE X (.Call (.Name x p) (e :: es) [] pos) (tO X.K X.mg a (appO o fs)) := by
  obtain ⟨r, h1, h2⟩ := hc
  exact (pe_callTy h1 hg hm hv ha hn hdb he hpl).imp (appO_run hx h2)
end

def lenL : List D → Res D
  | [.str s] => gd (s.length ≤ sizeLine) (.ok (.int s.length))
  | [.tup xs] => .ok (.int xs.length) | [.lst xs] => .ok (.int xs.length) | [.scr ns] => .ok (.int ns.length)
  | _ => .stuck
def absL : List D → Res D | [.int i] => .ok (.int (if i < 0 then -i else i)) | _ => .stuck
def intL : List D → Res D
  | [.int i] => .ok (.int i) | [.bl b] => .ok (.int (if b then 1 else 0))
  | [.str s] => match PySem.intText? s with | some n => gd (s.length ≤ 640) (.ok (.int n)) | none => .stuck
  | _ => .stuck
def strL : List D → Res D | [.int i] => gd (i.natAbs.log2 < 1920) (.ok (.str (toString i))) | [.str s] => .ok (.str s) | _ => .stuck
def max2L : List D → Res D | [.int i, .int j] => .ok (.int (if j > i then j else i)) | _ => .stuck
def min2L : List D → Res D | [.int i, .int j] => .ok (.int (if j < i then j else i)) | _ => .stuck
def listL : List D → Res (List D) | [.lst xs] => .ok xs | [.tup xs] => .ok xs | [.scr ns] => .ok (ns.map .int) | _ => .stuck
def tupleL : List D → Res D | [.lst xs] => .ok (.tup xs) | [.tup xs] => .ok (.tup xs) | _ => .stuck
theorem nox_len : NoXL lenL := fun xs e h => by
  unfold lenL at h; split at h <;> first | (cases h; done) | (have := (gd_exc h).2; cases this)
theorem nox_abs : NoXL absL := fun xs e h => by unfold absL at h; split at h <;> cases h
theorem nox_int : NoXL intL := fun xs e h => by
  unfold intL at h; split at h <;> first | (cases h; done) | (split at h <;> first | (cases h; done) | (have := (gd_exc h).2; cases this))
theorem nox_str : NoXL strL := fun xs e h => by
  unfold strL at h; split at h <;> first | (cases h; done) | (have := (gd_exc h).2; cases this)
theorem nox_max2 : NoXL max2L := fun xs e h => by unfold max2L at h; split at h <;> cases h
theorem nox_min2 : NoXL min2L := fun xs e h => by unfold min2L at h; split at h <;> cases h
theorem nox_list : ∀ xs e, listL xs ≠ .exc e := fun xs e h => by unfold listL at h; split at h <;> cases h
theorem nox_tuple : NoXL tupleL := fun xs e h => by unfold tupleL at h; split at h <;> cases h
section
variable {X : Cx}
theorem reps1 {K : PySem.W.Frag} {G : Hp} {vs : List V} {d : D} (r : Reps K G vs [d]) : ∃ v, vs = [v] ∧ Rep K G v d := by
  cases r with
  | cons h r => cases r; exact ⟨_, rfl, h⟩
theorem reps2 {K : PySem.W.Frag} {G : Hp} {vs : List V} {d e : D} (r : Reps K G vs [d, e]) : ∃ v u, vs = [v, u] ∧ Rep K G v d ∧ Rep K G u e := by
  cases r with
  | cons h r =>
    obtain ⟨u, rfl, h2⟩ := reps1 r
    exact ⟨_, _, rfl, h, h2⟩
theorem cd_len : CallD X (.builtin "len") lenL := ⟨_, call_len, fun G H vs ds z Q s r h q => by
  unfold lenL at h
  split at h
  · obtain ⟨v, rfl, r1⟩ := reps1 r
    obtain ⟨hz, h⟩ := gd_ok h; cases h; cases r1
    exact ⟨_, _, rfl, ⟨hz, rfl⟩, q _ G H (Grow.refl s) (.int _)⟩
  · obtain ⟨v, rfl, r1⟩ := reps1 r
    cases h
    cases r1 with
    | @tup p vs ds h1 r2 => exact ⟨_, _, rfl, .inr ⟨vs, same_tup s h1, r2.len.symm⟩, q _ G H (Grow.refl s) (.int _)⟩
  · obtain ⟨v, rfl, r1⟩ := reps1 r
    cases h
    cases r1 with
    | @lst p vs ds h1 r2 => exact ⟨_, _, rfl, .inl ⟨vs, SqL.of (s _ _ h1), r2.len.symm⟩, q _ G H (Grow.refl s) (.int _)⟩
  · obtain ⟨v, rfl, r1⟩ := reps1 r
    cases h
    cases r1 with
    | @scr p ns h1 => exact ⟨_, _, rfl, .inl ⟨_, s.seq h1, by rw [List.length_map]⟩, q _ G H (Grow.refl s) (.int _)⟩
  · cases h⟩
theorem cd_abs : CallD X (.builtin "abs") absL := ⟨_, call_abs, fun G H vs ds z Q s r h q => by
  unfold absL at h
  split at h
  · obtain ⟨v, rfl, r1⟩ := reps1 r
    cases h; cases r1
    exact ⟨_, rfl, q _ G H (Grow.refl s) (.int _)⟩
  · cases h⟩
theorem cd_int : CallD X (.type "int") intL := ⟨_, (call_int1).or call_int_str, fun G H vs ds z Q s r h q => by
  unfold intL at h
  split at h
  · obtain ⟨v, rfl, r1⟩ := reps1 r
    cases h; cases r1
    exact .inl (.inl ⟨_, rfl, q _ G H (Grow.refl s) (.int _)⟩)
  · obtain ⟨v, rfl, r1⟩ := reps1 r
    cases h; cases r1
    exact .inl (.inr ⟨_, rfl, q _ G H (Grow.refl s) (.int _)⟩)
  · obtain ⟨v, rfl, r1⟩ := reps1 r
    cases r1
    split at h
    · rename_i n hn
      obtain ⟨hz, h⟩ := gd_ok h; cases h
      exact .inr ⟨_, n, rfl, hn, hz, q _ G H (Grow.refl s) (.int _)⟩
    · cases h
  · cases h⟩
theorem cd_max2 (hc : X.calm = true) : CallD X (.builtin "max") max2L := ⟨_, call_max2 hc, fun G H vs ds z Q s r h q => by
  unfold max2L at h
  split at h
  · obtain ⟨v, u, rfl, r1, r2⟩ := reps2 r
    cases h; cases r1; cases r2
    exact ⟨_, _, rfl, q _ G H (Grow.refl s) (.int _)⟩
  · cases h⟩
theorem cd_min2 (hc : X.calm = true) : CallD X (.builtin "min") min2L := ⟨_, call_min2 hc, fun G H vs ds z Q s r h q => by
  unfold min2L at h
  split at h
  · obtain ⟨v, u, rfl, r1, r2⟩ := reps2 r
    cases h; cases r1; cases r2
    exact ⟨_, _, rfl, q _ G H (Grow.refl s) (.int _)⟩
  · cases h⟩
theorem co_list : CallO X (.type "list") listL := ⟨_, call_list_of, fun G H vs ds z Q s r h q => by
  unfold listL at h
  split at h
  · obtain ⟨v, rfl, r1⟩ := reps1 r
    cases h
    cases r1 with
    | @lst p vs ds h1 r2 => exact ⟨p, vs, rfl, .inl (SqL.of (s _ _ h1)), fun l hl => q l vs G _ (Grow.own s hl) hl (s.free hl) upd_same r2⟩
  · obtain ⟨v, rfl, r1⟩ := reps1 r
    cases h
    cases r1 with
    | @tup p vs ds h1 r2 => exact ⟨p, vs, rfl, .inr (same_tup s h1), fun l hl => q l vs G _ (Grow.own s hl) hl (s.free hl) upd_same r2⟩
  · obtain ⟨v, rfl, r1⟩ := reps1 r
    cases h
    cases r1 with
    | @scr p ns h1 => exact ⟨p, _, rfl, .inl (s.seq h1), fun l hl => q l _ G _ (Grow.own s hl) hl (s.free hl) upd_same (Reps.ofInts _)⟩
  · cases h⟩
theorem cd_tuple : CallD X (.type "tuple") tupleL := ⟨_, call_tuple_of, fun G H vs ds z Q s r h q => by
  unfold tupleL at h
  split at h
  · obtain ⟨v, rfl, r1⟩ := reps1 r
    cases h
    cases r1 with
    | @lst p vs ds h1 r2 => exact ⟨p, vs, rfl, .inl ⟨SqL.of (s _ _ h1), fun l hl => q _ _ _ (Grow.new s hl) (.tup (SqT.of upd_same) (Reps.mono (same_new (s.free hl)) _ _ r2))⟩⟩
  · obtain ⟨v, rfl, r1⟩ := reps1 r
    cases h
    cases r1 with
    | @tup p vs ds h1 r2 => exact ⟨p, vs, rfl, .inr ⟨same_tup s h1, q _ G H (Grow.refl s) (.tup h1 r2)⟩⟩
  · cases h⟩
end

/-! ## isinstance -/
def tyD : D → String
  | .non => "NoneType" | .bl _ => "bool" | .int _ => "int" | .str _ => "str" | .tup _ => "tuple" | .lst _ => "list" | .scr _ => "list"
def isiB (t T : String) : Bool := t == T || (t == "bool" && T == "int")
def isiD (T : String) (f : En → Res D) : En → Res D := fun ρ => (f ρ).bind fun d => .ok (.bl (isiB (tyD d) T))
theorem kit_int : ∀ t ∈ ["NoneType", "bool", "int", "str", "tuple", "list"], kitB t "int" = some (isiB t "int") := by decide +kernel
theorem kit_bool : ∀ t ∈ ["NoneType", "bool", "int", "str", "tuple", "list"], kitB t "bool" = some (isiB t "bool") := by decide +kernel
theorem kit_str : ∀ t ∈ ["NoneType", "bool", "int", "str", "tuple", "list"], kitB t "str" = some (isiB t "str") := by decide +kernel
theorem kit_tuple : ∀ t ∈ ["NoneType", "bool", "int", "str", "tuple", "list"], kitB t "tuple" = some (isiB t "tuple") := by decide +kernel
theorem kit_list : ∀ t ∈ ["NoneType", "bool", "int", "str", "tuple", "list"], kitB t "list" = some (isiB t "list") := by decide +kernel
theorem tyx_of {K : PySem.W.Frag} {G H : Hp} (s : Same G H) {v : V} {d : D} (r : Rep K G v d) : TyX K H v (.type (tyD d)) := by
  cases r with
  | non => exact .base .non
  | bl b => exact .base (.bl b)
  | int b => exact .base (.int b)
  | str b => exact .base (.str b)
  | @tup p vs ds h r =>
    rcases same_tup s h with (h | ⟨o, h⟩) | ⟨o, its, n, h, hc, _⟩
    · exact .base (.tup h)
    · exact .fTuple h
    · exact .kTuple h hc
  | @lst p vs ds h r => exact .base (.lst (s _ _ h))
  | @scr p ns h =>
    rcases s.seq h with (h | ⟨o, h⟩) | ⟨o, its, n, h, hc, _⟩
    · exact .base (.lst h)
    · exact .base (.frz h)
    · exact .kList h hc
theorem tyD_mem (d : D) : tyD d ∈ ["NoneType", "bool", "int", "str", "tuple", "list"] := by cases d <;> simp [tyD]
section
variable {X : Cx} {a : Amb} {e : Expr} {f : En → Res D} {pos p p2 : Pos} {x : Str} {T : String}
theorem d_isi (hk : ∀ t ∈ ["NoneType", "bool", "int", "str", "tuple", "list"], kitB t T = some (isiB t T)) (hm : X.mg "isinstance" = none) (hmx : X.mg x = none) (hvx : bootBuiltins x = some (.type T)) (he : PE X e (tD X.K X.mg a f)) (hg : Gl X "isinstance" := by rfl) (hgx : Gl X x := by rfl)
    (hst : starEach [e, .Name x p2] X.env = (false, eval e X.env) :: starEach [.Name x p2] X.env := by rfl) (hst2 : starEach [.Name x p2] X.env = (false, eval (.Name x p2) X.env) :: starEach [] X.env := by rfl) (hpl : (backTo pos (starEach [.Name x p2] X.env)).any (·.1) = false := by rfl)
    (hn : x ≠ "__name__" := by decide) (hd : (x == ("__debug__" : Str)) = false := by decide) :
    PE X (.Call (.Name "isinstance" p) [e, .Name x p2] [] pos) (tD X.K X.mg a (isiD T f)) :=
  (pe_callB call_isi hg hm PyProof.Rows.boot_isinstance (pa_cons he (pa_cons (pe_bltn (v := .ty T) hgx hmx hvx rfl hn hd) pa_nil hst2) hst) (by decide) (by decide) hst hpl).imp fun σ H Q ⟨ρ, G, hR, q⟩ =>
    ⟨ρ, G, hR, (PostE.bind q).imp fun d _ q1 v G' H' g r => ⟨v, .ty T, _, _, _, rfl, .ty T, tyx_of g.s r, kit_ty (hk _ (tyD_mem d)), q1 _ G' H' g (.bl _)⟩⟩
end
end PL

set_option maxRecDepth 100000
set_option maxHeartbeats 1000000
namespace L2
open PySem PySem.Spec PyProof.Rows
theorem PI.imp {X : Cx} {tg e : Expr} {t t' : TI} (h : PI X tg e t) (k : ∀ σ H Q, t' σ H Q → t σ H Q) : PI X tg e t' := ⟨fun pins s σ H Q I w => h.run pins s σ H Q I (k σ H Q w)⟩
theorem PG.imp {X : Cx} {e : Expr} {t t' : TG} (h : PG X e t) (k : ∀ v σ H Q, t' v σ H Q → t v σ H Q) : PG X e t' := ⟨fun pins s σ H v u Q I r w => h.run pins s σ H v u Q I r (k v σ H Q w)⟩
end L2
namespace PL
open PySem PySem.Spec PyProof.Rows L2

/-! ## what is walked -/
/-- J yields the data ds, as long as the heap holds what B holds -/
def ItOk (K : PySem.W.Frag) (J : It) (B G : Hp) (ds : List D) : Prop := ∀ H', Same B H' → ∀ i, (ds.length ≤ i → J.stop i H') ∧ (∀ d, ds[i]? = some d → J.go i H' ∧ ∀ x H'', J.yld i H' x H'' → H'' = H' ∧ Rep K G x d)
def tI (K : PySem.W.Frag) (mg : Str → Option Value) (a : Amb) (f : En → Res (List D)) : TI := fun σ H Rk => ∃ ρ G, RR K a ρ σ G H ∧ PostE K mg a σ G H (f ρ) fun ds => ∀ J G' H', Grow G H G' H' → ItOk K J G' G' ds → Rk J H'
theorem ItOk.lst {K : PySem.W.Frag} {B G : Hp} {p : Addr} {vs : List V} {ds : List D} (h : SqL K B p vs) (r : Reps K G vs ds) : ItOk K (Itl K p) B G ds := fun H' s i => by
  have hq := s.seq h
  refine ⟨fun hl => ⟨vs, hq, by rw [r.len]; exact hl⟩, fun d e => ?_⟩
  obtain ⟨v, e1, q⟩ := r.get e
  refine ⟨⟨vs, v, hq, e1⟩, fun x H'' y => ⟨y.1, ?_⟩⟩
  have e2 := y.2 vs hq
  rw [e1] at e2; cases e2; exact q
theorem ItOk.tup {K : PySem.W.Frag} {B G : Hp} {p : Addr} {vs : List V} {ds : List D} (h : SqT K B p vs) (r : Reps K G vs ds) : ItOk K (Itt K p) B G ds := fun H' s i => by
  have hq := same_tup s h
  refine ⟨fun hl => ⟨vs, hq, by rw [r.len]; exact hl⟩, fun d e => ?_⟩
  obtain ⟨v, e1, q⟩ := r.get e
  refine ⟨⟨vs, v, hq, e1⟩, fun x H'' y => ⟨y.1, ?_⟩⟩
  have e2 := y.2 vs hq
  rw [e1] at e2; cases e2; exact q
theorem ItOk.rng {K : PySem.W.Frag} {B G : Hp} (lo : Int) (n : Nat) : ItOk K (Itr lo n) B G ((List.range n).map fun k => .int (lo + (k : Nat))) := fun H' s i => by
  refine ⟨fun hl => (show n ≤ i by simpa using hl), fun d e => ?_⟩
  rw [List.getElem?_map] at e
  by_cases hi : i < n
  · rw [List.getElem?_range hi] at e
    cases e
    exact ⟨hi, fun x H'' ⟨h1, h2⟩ => ⟨h1, by rw [h2]; exact .int _⟩⟩
  · rw [List.getElem?_eq_none (by simpa using hi)] at e; cases e
def signs (s : Str) : List D := s.cps.toList.map fun c => .str ⟨#[c]⟩
theorem ItOk.str {K : PySem.W.Frag} {B G : Hp} (s : Str) : ItOk K (Its s) B G (signs s) := fun H' _ i => by
  unfold signs
  refine ⟨fun hl => (show s.cps.size ≤ i by simpa using hl), fun d e => ?_⟩
  rw [List.getElem?_map] at e
  cases e1 : s.cps.toList[i]? with
  | none => rw [e1] at e; cases e
  | some c =>
    rw [e1] at e; cases e
    have e2 : s.cps[i]? = some c := by rw [← e1]; simp
    refine ⟨(Array.getElem?_eq_some_iff.mp e2).1, fun x H'' ⟨h1, c', h2, h3⟩ => ⟨h1, ?_⟩⟩
    rw [e2] at h2; cases h2
    rw [h3]; exact .str _
def seqOf : D → Res (List D)
  | .lst xs => .ok xs | .tup xs => .ok xs | .scr ns => .ok (ns.map .int) | .str s => .ok (signs s) | _ => .stuck
def itE (f : En → Res D) : En → Res (List D) := fun ρ => (f ρ).bind seqOf
def rng1 : List D → Res (List D)
  | [.int j] => gd (-(2 ^ 62) ≤ j ∧ j < 2 ^ 62) (.ok ((List.range j.toNat).map fun k => .int ((k : Nat) : Int))) | _ => .stuck
def rng2 : List D → Res (List D)
  | [.int i, .int j] => gd (-(2 ^ 62) ≤ i ∧ i < 2 ^ 62 ∧ -(2 ^ 62) ≤ j ∧ j < 2 ^ 62) (.ok ((List.range (j - i).toNat).map fun k => .int (i + (k : Nat)))) | _ => .stuck
section
variable {X : Cx} {a : Amb} {e b tg : Expr} {es : List Expr} {f g : En → Res D} {fs : En → Res (List D)} {pos p : Pos}
theorem i_seq (h : PE X e (tD X.K X.mg a f)) : PI X tg e (tI X.K X.mg a (itE f)) := ⟨fun pins s σ H Rk I ⟨ρ, G, hR, q⟩ => by
  have q1 := PostE.bind q
  cases hf : f ρ with
  | stuck => rw [hf] at q1; exact q1.elim
  | exc e => 
    refine (pi_list h).run pins s σ H Rk I ⟨ρ, G, hR, ?_⟩
    rw [hf] at q1 ⊢
    exact q1
  | ok d =>
    rw [hf] at q1
    cases d with
    | lst xs =>
      refine (pi_list h).run pins s σ H Rk I ⟨ρ, G, hR, ?_⟩
      rw [hf]
      intro v G' H' g r
      cases r with
      | @lst p vs ds h1 r => exact ⟨p, rfl, ⟨vs, SqL.of (g.s _ _ h1)⟩, q1 _ G' H' g (.lst (SqL.of h1) r)⟩
    | scr ns =>
      refine (pi_list h).run pins s σ H Rk I ⟨ρ, G, hR, ?_⟩
      rw [hf]
      intro v G' H' g r
      cases r with
      | @scr p ns h1 => exact ⟨p, rfl, ⟨_, g.s.seq h1⟩, q1 _ G' H' g (.lst h1 (Reps.ofInts ns))⟩
    | tup xs =>
      refine (pi_tup h).run pins s σ H Rk I ⟨ρ, G, hR, ?_⟩
      rw [hf]
      intro v G' H' g r
      cases r with
      | @tup p vs ds h1 r => exact ⟨p, rfl, ⟨vs, same_tup g.s h1⟩, q1 _ G' H' g (.tup h1 r)⟩
    | str z =>
      refine (pi_str h).run pins s σ H Rk I ⟨ρ, G, hR, ?_⟩
      rw [hf]
      intro v G' H' g r
      cases r
      exact ⟨z, rfl, q1 _ G' H' g (.str z)⟩
    | _ => exact q1.elim⟩
/-- a new list, walked -/
theorem i_new (h : PE X e (tO X.K X.mg a fs)) : PI X tg e (tI X.K X.mg a fs) :=
  (pi_list h).imp fun σ H Q ⟨ρ, G, hR, q⟩ => ⟨ρ, G, hR, q.imp fun ds _ q1 l vs G' H' g n1 n2 h1 r => ⟨l, rfl, ⟨vs, SqL.of h1⟩, q1 _ _ H' (g.share n1 n2 h1) (.lst (SqL.of upd_same) (Reps.mono (same_new n2) _ _ r))⟩⟩
theorem i_rng1 (hm : X.mg "range" = none) (ha : PA X [e] (tA X.K X.mg a fs)) (hg : Gl X "range" := by rfl) (hs : starEach [e] X.env = [(false, eval e X.env)] := by rfl) : PI X tg (.Call (.Name "range" p) [e] [] pos) (tI X.K X.mg a (appO rng1 fs)) :=
  (pi_range1 hg hm ha hs).imp fun σ H Q ⟨ρ, G, hR, q⟩ => ⟨ρ, G, hR, (PostE.bind q).imp fun ds _ q1 vs G' H' g r => by
    unfold rng1 at q1
    split at q1
    · obtain ⟨v, rfl, r1⟩ := reps1 r
      obtain ⟨⟨h1, h2⟩, q2⟩ := PostE.gd q1
      cases r1
      refine ⟨_, rfl, h1, h2, q2 _ G' H' g ?_⟩
      have := ItOk.rng (K := X.K) (B := G') (G := G') 0 (Int.toNat ‹Int›)
      simpa only [Int.zero_add] using this
    · exact q1.elim⟩
theorem i_rng2 (hm : X.mg "range" = none) (ha : PA X [e, b] (tA X.K X.mg a fs)) (hg : Gl X "range" := by rfl) (hs : starEach [e, b] X.env = [(false, eval e X.env), (false, eval b X.env)] := by rfl) (hs2 : starEach [b] X.env = [(false, eval b X.env)] := by rfl) :
    PI X tg (.Call (.Name "range" p) [e, b] [] pos) (tI X.K X.mg a (appO rng2 fs)) :=
  (pi_range2 hg hm ha hs hs2).imp fun σ H Q ⟨ρ, G, hR, q⟩ => ⟨ρ, G, hR, (PostE.bind q).imp fun ds _ q1 vs G' H' g r => by
    unfold rng2 at q1
    split at q1
    · obtain ⟨v, u, rfl, r1, r2⟩ := reps2 r
      obtain ⟨h1, q2⟩ := PostE.gd q1
      cases r1; cases r2
      exact ⟨_, _, rfl, h1, q2 _ G' H' g (ItOk.rng _ _)⟩
    · exact q1.elim⟩
end

/-! ## targets -/
def gN (i : Nat) : D → En → Res En := fun d ρ => .ok (ρ.set i (.sh d))
/-- a tuple's items to slots -/
def setAll : List Nat → List D → En → Res En
  | [], [], ρ => .ok ρ
  | i :: is, d :: ds, ρ => setAll is ds (ρ.set i (.sh d))
  | _, _, _ => .stuck
def gT (is : List Nat) : D → En → Res En := fun d ρ => match d with | .tup xs => setAll is xs ρ | _ => .stuck
def tG (K : PySem.W.Frag) (a : Amb) (t : D → En → Res En) : TG := fun v σ H Q => ∃ ρ G d ρ', RR K a ρ σ G H ∧ Rep K G v d ∧ t d ρ = .ok ρ' ∧ ∀ σ', RR K a ρ' σ' G H → Q σ' H
def tGs (K : PySem.W.Frag) (a : Amb) (is : List Nat) : TGs := fun vs σ H Q => ∃ ρ G ds ρ', RR K a ρ σ G H ∧ Reps K G vs ds ∧ setAll is ds ρ = .ok ρ' ∧ ∀ σ', RR K a ρ' σ' G H → Q σ' H
section
variable {X : Cx} {a : Amb} {e : Expr} {es : List Expr} {pos : Pos}
theorem g_name (i : Nat) {x : Str} (hnd : X.N.Nodup) (hN : X.N[i]? = some x := by rfl) (hx : Loc X.env.scope x := by first | exact Or.inl rfl | exact Or.inr rfl)
    (hfn : X.fn x = true ∨ X.env.scope.names.lookup x = some .local := by first | exact .inl rfl | exact .inr rfl) : PG X (.Name x pos) (tG X.K a (gN i)) :=
  (pg_name hnd hN hx hfn).imp fun v σ H Q ⟨ρ, G, d, ρ', hR, r, e1, q⟩ => by
    cases e1
    exact q _ (R.setSh hR i r)
theorem gs_nil : PGs X [] (tGs X.K a []) := ⟨fun pins s σ H vs us Q I r ⟨ρ, G, ds, ρ', hR, rr, e1, q⟩ => by
  cases ds with
  | nil =>
    cases rr
    cases e1
    exact (pgs_nil (X := X)).run pins s σ H [] us Q I r ⟨rfl, q σ hR⟩
  | cons _ _ => cases e1⟩
theorem gs_cons {i : Nat} {is : List Nat} {x : Str} (hnd : X.N.Nodup) (h2 : PGs X es (tGs X.K a is)) (hN : X.N[i]? = some x := by rfl) (hx : Loc X.env.scope x := by first | exact Or.inl rfl | exact Or.inr rfl)
    (hfn : X.fn x = true ∨ X.env.scope.names.lookup x = some .local := by first | exact .inl rfl | exact .inr rfl)
    (hs : (assignEach (.Name x pos :: es) X.env).map (·.2) = assign (.Name x pos) X.env :: (assignEach es X.env).map (·.2) := by rfl) : PGs X (.Name x pos :: es) (tGs X.K a (i :: is)) :=
  ⟨fun pins s σ H vs us Q I r ⟨ρ, G, ds, ρ', hR, rr, e1, q⟩ => by
    cases ds with
    | nil => cases e1
    | cons d ds =>
      cases rr with
      | cons r1 rr =>
        exact (pgs_cons (pg_name (pos := pos) hnd hN hx hfn) h2 hs).run pins s σ H _ us Q I r ⟨_, _, rfl, _, G, ds, ρ', R.setSh hR i r1, rr, e1, q⟩⟩
theorem setAll_len : ∀ {is : List Nat} {ds : List D} {ρ ρ' : En}, setAll is ds ρ = .ok ρ' → ds.length = is.length
  | [], [], _, _, _ => rfl
  | i :: is, d :: ds, ρ, _, h => by
    have e : ds.length = is.length := setAll_len (ρ := ρ.set i (.sh d)) h
    simp [e]
  | [], _ :: _, _, _, h => by cases h
  | _ :: _, [], _, _, h => by cases h
theorem g_tup {is : List Nat} {k : Nat} (hc : X.calm = true) (h : PGs X es (tGs X.K a is)) (hn : (assignEach es X.env).length = is.length := by rfl) (hst : (assignEach es X.env).findIdx? (·.1) = none := by rfl) : PG X (.Tuple es k pos) (tG X.K a (gT is)) :=
  (pg_tup hc h hn hst).imp fun v σ H Q ⟨ρ, G, d, ρ', hR, r, e1, q⟩ => by
    cases r with
    | @tup p vs ds h1 rr => exact ⟨p, vs, rfl, same_tup (R.sub hR) h1, by rw [rr.len, setAll_len e1], ρ, G, ds, ρ', hR, rr, e1, q⟩
    | _ => cases e1
end

/-! ## for -/
/-- behind one turn of a loop: k goes on -/
def lpO (k : En → Out) : Out → Out
  | .next ρ => k ρ
  | .cont ρ => k ρ
  | .brk ρ => .next ρ
  | .ret r => .ret r
  | .exc e ρ => .exc e ρ
  | .stuck => .stuck
def forL (t : D → En → Res En) (b : En → Out) : List D → En → Out
  | [], ρ => .next ρ
  | d :: ds, ρ => match t d ρ with
    | .ok ρ1 => lpO (forL t b ds) (b ρ1)
    | _ => .stuck
theorem Post.lp {K : PySem.W.Frag} {mg : Str → Option Value} {a : Amb} {Dn : Ends} {G : Hp} {k : En → Out} {o : Out} {N : L2.St → Hp → Prop} (h : Post K mg a Dn G (lpO k o))
    (hN : ∀ ρ σ G' H, RR K a ρ σ G' H → Same G G' → Post K mg a Dn G' (k ρ) → N σ H) : Post K mg a { Dn with nx := N, ct := N, bk := Dn.nx } G o := by
  cases o with
  | next ρ => exact fun σ' G' H' r s => hN ρ σ' G' H' r s (Post.mono s h)
  | cont ρ => exact fun σ' G' H' r s => hN ρ σ' G' H' r s (Post.mono s h)
  | brk ρ => exact h
  | ret r => cases r <;> exact h
  | exc e ρ => exact h
  | stuck => exact h
def sFor (it : En → Res (List D)) (t : D → En → Res En) (b : En → Out) : En → Out := fun ρ => ofR ρ (it ρ) fun ds => forL t b ds ρ
section
variable {X : Cx} {a : Amb} {tg iter : Expr} {sts : List Stmt} {it : En → Res (List D)} {t : D → En → Res En} {F : En → Out} {pos : Pos}
theorem s_for (po : PassesOwn (model X.prog X.w) X.A X.env X.xe) (hc : X.calm = true) (hi : PI X tg iter (tI X.K X.mg a it)) (hg : PG X tg (tG X.K a t)) (hb : PSs X sts (tS X.K X.mg a F)) (hs : ∀ x, foldedSetIterable iter X.env x = pure x := by intro _; rfl) :
    PS X (.For tg iter sts [] pos) (tS X.K X.mg a (sFor it t F)) :=
  (ps_for po hc hi hg hb hs).imp fun Dn σ H ⟨ρ, G, hR, q⟩ => ⟨ρ, G, hR, (ofR_post hR q).imp fun ds _ q1 J G1 H1 g ok => by
    refine ⟨fun i m σ' H' => m = ds.length - i ∧ i ≤ ds.length ∧ ∃ ρ' G', RR X.K a ρ' σ' G' H' ∧ Same G1 G' ∧ Post X.K X.mg a Dn G' (forL t F (ds.drop i) ρ'),
      ⟨ds.length, by simp, Nat.zero_le _, ρ, G1, R.grow hR g, Same.refl _, by rw [List.drop_zero]; exact Post.mono g.g q1⟩, ?_⟩
    rintro i m σ' H' ⟨rfl, hi, ρ', G', hR', sg, q2⟩
    obtain ⟨stop, go⟩ := ok H' (sg.trans (R.sub hR')) i
    by_cases hl : i < ds.length
    · refine .inr ?_
      have e1 : ds[i]? = some ds[i] := List.getElem?_eq_getElem hl
      have e2 : ds.drop i = ds[i] :: ds.drop (i + 1) := List.drop_eq_getElem_cons hl
      rw [e2] at q2
      obtain ⟨h1, h2⟩ := go _ e1
      refine ⟨h1, fun σ2 H2 => ∃ ρ2 G2, RR X.K a ρ2 σ2 G2 H2 ∧ Same G1 G2 ∧ Post X.K X.mg a Dn G2 (forL t F (ds.drop (i + 1)) ρ2), fun σ2 H2 ⟨ρ2, G2, a1, a2, a3⟩ => ⟨ds.length - (i + 1), by omega, rfl, hl, ρ2, G2, a1, a2, a3⟩, fun x H2 y => ?_⟩
      obtain ⟨rfl, r⟩ := h2 x H2 y
      have rx := Rep.mono sg _ _ r
      cases ht : t ds[i] ρ' with
      | exc e => unfold forL at q2; rw [ht] at q2; exact q2.elim
      | stuck => unfold forL at q2; rw [ht] at q2; exact q2.elim
      | ok ρ1 =>
        unfold forL at q2
        rw [ht] at q2
        exact ⟨ρ', G', _, ρ1, hR', rx, ht, fun σ3 hR3 => ⟨ρ1, G', hR3, Post.lp q2 fun ρ2 σ4 G4 H4 r4 s4 p4 => ⟨ρ2, G4, r4, sg.trans s4, p4⟩⟩⟩
    · have e : i = ds.length := by omega
      subst e
      rw [List.drop_length] at q2
      exact .inl ⟨stop (Nat.le_refl _), q2 σ' G' H' hR' (Same.refl _)⟩⟩
end

/-! ## while, with a number of turns that is enough -/
def whlN (c : En → Res Bool) (b : En → Out) : Nat → En → Out
  | 0, _ => .stuck
  | n + 1, ρ => ofR ρ (c ρ) fun k => if k then lpO (whlN c b n) (b ρ) else .next ρ
section
variable {X : Cx} {a : Amb} {c : Expr} {sts : List Stmt} {t : En → Res Bool} {F : En → Out} {pos : Pos}
theorem s_whl (n : Nat) (po : PassesOwn (model X.prog X.w) X.A X.env X.xe) (hc : PT X c (tT X.K X.mg a t)) (hb : PSs X sts (tS X.K X.mg a F)) : PS X (.While c sts [] pos) (tS X.K X.mg a (whlN t F n)) :=
  (ps_while po hc hb).imp fun Dn σ H ⟨ρ, G, hR, q⟩ => by
    refine ⟨fun m σ' H' => ∃ ρ' G', RR X.K a ρ' σ' G' H' ∧ Post X.K X.mg a Dn G' (whlN t F m ρ'), ⟨n, ρ, G, hR, q⟩, ?_⟩
    rintro m σ' H' ⟨ρ', G', hR', q2⟩
    cases m with
    | zero => exact q2.elim
    | succ m =>
      unfold whlN at q2
      refine ⟨ρ', G', hR', (ofR_post hR' q2).imp fun k _ q3 G2 H2 g => ?_⟩
      cases k with
      | false => exact q3 _ G2 H2 (R.grow hR' g) g.g
      | true =>
        exact ⟨fun σ2 H2 => ∃ ρ2 G2, RR X.K a ρ2 σ2 G2 H2 ∧ Post X.K X.mg a Dn G2 (whlN t F m ρ2), fun σ2 H2 w => ⟨m, Nat.lt_succ_self _, w⟩, ρ', G2, R.grow hR' g, Post.lp (Post.mono g.g q3) fun ρ2 σ4 G4 H4 r4 s4 p4 => ⟨ρ2, G4, r4, p4⟩⟩
end
end PL

set_option maxRecDepth 100000
set_option maxHeartbeats 1000000
namespace PL
open PySem PySem.Spec PyProof.Rows L2

theorem Grow.mut {G H G' H' : Hp} (g : Grow G H G' H') {p : Addr} {o : HO} (h : H p = none) (h1 : G' p = none) : Grow G H G' (upd H' p o) :=
  ⟨g.g, fun b x e => by
    have : b ≠ p := ne_of_none e h
    rw [upd_ne this]; exact g.h b x e, fun b x e => by
    have : b ≠ p := ne_of_none e h1
    rw [upd_ne this]; exact g.s b x e, g.f⟩

/-! ## what a context must have -/
structure GE (k : Nat) (X : Cx) (a : Amb) : Prop where
  tk : Takes X a.W
  hr : Room k X.A
  calm : X.calm = true
  nd : X.N.Nodup
structure GS (k : Nat) (X : Cx) (a : Amb) : Prop extends GE k X a where
  po : PassesOwn (model X.prog X.w) X.A X.env X.xe
  hs : X.stack = X.env :: X.outer
  hf : X.env.frame = some X.env.locals
def aB (a : Amb) : Amb := { a with W := fun _ _ _ _ => False }
theorem GE.blk {k : Nat} {X : Cx} {a : Amb} (c : GE k X a) (s : Shared) (H : Hp) (sc : Scope) (ce : Env) (fp : List Addr) : GE k (X.blk s H sc ce fp) (aB a) := ⟨takes0, c.hr, c.calm, c.nd⟩
theorem GS.tr {k : Nat} {X : Cx} {a : Amb} (c : GS k X a) {W : WX} {pn : List (Addr × Obj)} {xe : Value → Shared → Prop} (tk : Takes (X.tr pn xe) W) (po : PassesOwn (model X.prog X.w) X.A X.env xe) : GS k (X.tr pn xe) { a with W := W } :=
  ⟨⟨tk, c.hr, c.calm, c.nd⟩, po, c.hs, c.hf⟩

/-! ## defs -/
def rvD : Res RV → Res D | .ok (.sh d) => .ok d | .ok (.ow xs) => .ok (.lst xs) | .exc e => .exc e | .stuck => .stuck
def rvO : Res RV → Res (List D) | .ok (.ow xs) => .ok xs | .ok (.sh _) => .stuck | .exc e => .exc e | .stuck => .stuck
def callE (m : List D → Res RV) (fs : En → Res (List D)) : En → Res D := fun ρ => (fs ρ).bind fun ds => rvD (m ds)
def callO (m : List D → Res RV) (fs : En → Res (List D)) : En → Res (List D) := fun ρ => (fs ρ).bind fun ds => rvO (m ds)
def spOf (K : PySem.W.Frag) (mg : Str → Option Value) (n : Nat) (m : List D → Res RV) : Sp := fun vs H Q E => vs.length = n ∧ ∃ G ds, Same G H ∧ Reps K G vs ds ∧ (match m ds with
  | .ok (.sh d) => ∀ v G' H', Grow G H G' H' → Rep K G' v d → Q v H'
  | .ok (.ow xs) => ∀ l us G' H', Grow G H G' H' → H l = none → G' l = none → H' l = some (.lst us) → Reps K G' us xs → Q (.ref l) H'
  | .exc e => ∀ d G' H', Grow G H G' H' → XR K G' H' d e → E (clOf mg e.cls) (some d) H'
  | .stuck => False)
structure FnP (P : Program) (w : World) (K : PySem.W.Frag) (mg : Str → Option Value) (base : Heap) (k : Nat) (x : Str) (ps : List Str) (m : List D → Res RV) : Prop where
  ex : ∃ f fd, FnOk P w K mg base (L2.CX P w) k f fd ps (spOf K mg ps.length m) ∧ mg x = some (.ref f) ∧ PySem.W.keepIn K (.ref f) = true ∧ Binds K fd ps []
theorem FnP.mono {P : Program} {w : World} {K : PySem.W.Frag} {mg : Str → Option Value} {base : Heap} {k j : Nat} {x : Str} {ps : List Str} {m : List D → Res RV} (F : FnP P w K mg base k x ps m) (h : k ≤ j) : FnP P w K mg base j x ps m := by
  obtain ⟨f, fd, F1, h2⟩ := F.ex
  exact ⟨f, fd, F1.mono h, h2⟩
section
variable {X : Cx} {a : Amb} {e : Expr} {es : List Expr} {fs : En → Res (List D)} {pos p : Pos} {x : Str} {k k' : Nat} {ps : List Str} {m : List D → Res RV}
theorem d_call (F : FnP X.prog X.w X.K X.mg X.base k' x ps m) (c : GE k X a) (hk : k' ≤ k) (hl : (e :: es).length = ps.length) (ha : PA X (e :: es) (tA X.K X.mg a fs)) (hfl : ∀ ρ ds, fs ρ = .ok ds → ds.length = (e :: es).length)
    (hg : Gl X x := by rfl) (hdb : (x == ("__debug__" : Str)) = false := by decide) (he : starEach (e :: es) X.env = (false, eval e X.env) :: starEach es X.env := by rfl) (hpl : (backTo pos (starEach es X.env)).any (·.1) = false := by rfl) :
    PE X (.Call (.Name x p) (e :: es) [] pos) (tD X.K X.mg a (callE m fs)) := by
  obtain ⟨f, fd, F1, hm, hkp, hb⟩ := F.ex
  refine (pe_callS F1 (c.hr.mono hk) hg hm hkp hb (fun σ => passAt c.tk σ) ha hdb he hpl).imp fun σ H Q ⟨ρ, G, hR, q⟩ => ⟨ρ, G, hR, (PostE.bind q).imp fun ds ed q1 vs G' H' g r => ?_⟩
  refine ⟨by rw [r.len, hfl ρ ds ed, hl], G', ds, g.s, r, ?_⟩
  cases h : m ds with
  | stuck => rw [h] at q1; exact q1.elim
  | exc ex => rw [h] at q1; exact fun d G2 H2 g2 xr => q1 d G2 H2 (g.trans g2) xr
  | ok rv =>
    rw [h] at q1
    cases rv with
    | sh d => exact fun v G2 H2 g2 r2 => q1 v G2 H2 (g.trans g2) r2
    | ow xs => exact fun l us G2 H2 g2 n1 n2 h1 r2 => q1 _ _ H2 ((g.trans g2).share (g.h.free n1) n2 h1) (.lst upd_same (Reps.mono (same_new n2) _ _ r2))
theorem o_call (F : FnP X.prog X.w X.K X.mg X.base k' x ps m) (c : GE k X a) (hk : k' ≤ k) (hl : (e :: es).length = ps.length) (ha : PA X (e :: es) (tA X.K X.mg a fs)) (hfl : ∀ ρ ds, fs ρ = .ok ds → ds.length = (e :: es).length)
    (hg : Gl X x := by rfl) (hdb : (x == ("__debug__" : Str)) = false := by decide) (he : starEach (e :: es) X.env = (false, eval e X.env) :: starEach es X.env := by rfl) (hpl : (backTo pos (starEach es X.env)).any (·.1) = false := by rfl) :
    PE X (.Call (.Name x p) (e :: es) [] pos) (tO X.K X.mg a (callO m fs)) := by
  obtain ⟨f, fd, F1, hm, hkp, hb⟩ := F.ex
  refine (pe_callS F1 (c.hr.mono hk) hg hm hkp hb (fun σ => passAt c.tk σ) ha hdb he hpl).imp fun σ H Q ⟨ρ, G, hR, q⟩ => ⟨ρ, G, hR, (PostE.bind q).imp fun ds ed q1 vs G' H' g r => ?_⟩
  refine ⟨by rw [r.len, hfl ρ ds ed, hl], G', ds, g.s, r, ?_⟩
  cases h : m ds with
  | stuck => rw [h] at q1; exact q1.elim
  | exc ex => rw [h] at q1; exact fun d G2 H2 g2 xr => q1 d G2 H2 (g.trans g2) xr
  | ok rv =>
    rw [h] at q1
    cases rv with
    | sh d => exact q1.elim
    | ow xs => exact fun l us G2 H2 g2 n1 n2 h1 r2 => q1 l us G2 H2 (g.trans g2) (g.h.free n1) n2 h1 r2
theorem fl_nil : ∀ (ρ : En) (ds : List D), aNil ρ = .ok ds → ds.length = ([] : List Expr).length := fun ρ ds h => by cases h; rfl
theorem fl_cons {f : En → Res D} (h : ∀ (ρ : En) (ds : List D), fs ρ = .ok ds → ds.length = es.length) : ∀ (ρ : En) (ds : List D), aCons f fs ρ = .ok ds → ds.length = (e :: es).length := fun ρ ds h1 => by
  unfold aCons at h1
  cases h2 : f ρ with
  | ok d =>
    rw [h2] at h1
    cases h3 : fs ρ with
    | ok xs => simp only [Res.bind, h3] at h1; cases h1; simp [h ρ xs h3]
    | exc _ => simp only [Res.bind, h3] at h1; cases h1
    | stuck => simp only [Res.bind, h3] at h1; cases h1
  | exc _ => rw [h2] at h1; cases h1
  | stuck => rw [h2] at h1; cases h1
end
def start0 (n : Nat) (ds : List D) : En := ds.map .sh ++ List.replicate (n - ds.length) .no
def runO : Out → Res RV
  | .ret r => .ok r | .next _ => .ok (.sh .non) | .exc e _ => .exc e | .brk _ => .stuck | .cont _ => .stuck | .stuck => .stuck
def runF (n : Nat) (b : En → Out) (ds : List D) : Res RV := runO (b (start0 n ds))
theorem start_ok {K : PySem.W.Frag} {N : List Str} {vs : List V} {ds : List D} {G H : Hp} (s : Same G H) (r : Reps K G vs ds) : R K G H (start0 N.length ds) (L2.start N vs) G H := by
  refine ⟨Grow.refl s, by simp [start0, L2.start, r.len], fun i sl e => ?_, fun i j xs ys hn e1 e2 => ?_⟩
  · unfold start0 at e
    unfold L2.start
    by_cases hi : i < ds.length
    · rw [List.getElem?_append_left (by simpa using hi), List.getElem?_map, List.getElem?_eq_getElem hi] at e
      cases e
      obtain ⟨v, e1, q⟩ := r.get (List.getElem?_eq_getElem hi)
      refine ⟨some v, ?_, v, rfl, q⟩
      rw [List.getElem?_append_left (by simpa [r.len] using hi), List.getElem?_map, e1] <;> rfl
    · have hi2 : ds.length ≤ i := by omega
      rw [List.getElem?_append_right (by simpa using hi2), List.getElem?_replicate] at e
      split at e
      · cases e
        refine ⟨none, ?_, trivial⟩
        rw [List.getElem?_append_right (by simpa [r.len] using hi2), List.getElem?_replicate, r.len]
        rename_i h
        rw [List.length_map] at h ⊢
        rw [r.len, if_pos h]
      · cases e
  · exfalso
    unfold start0 at e1
    by_cases hi : i < ds.length
    · rw [List.getElem?_append_left (by simpa using hi), List.getElem?_map, List.getElem?_eq_getElem hi] at e1
      cases e1
    · have hi2 : ds.length ≤ i := by omega
      rw [List.getElem?_append_right (by simpa using hi2), List.getElem?_replicate] at e1
      split at e1 <;> cases e1
section
variable {P : Program} {w : World} {K : PySem.W.Frag} {mg : Str → Option Value} {base : Heap}
abbrev ambOf (E : XK) (G0 H0 : Hp) : Amb := ⟨fun cls d _ H => E cls d H, G0, H0⟩
theorem fn_ok {x qual : Str} {st : Stmt} {f : Addr} {fd : FuncData} {N ps : List Str} {k : Nat} {b : En → Out} (F : Fun K x qual st f fd) (S : FnScope N ps (defScope st))
    (body : ∀ (cdv : Value) (A : Around) (outer : List Env) (s : Shared) (H G0 : Hp) (E : XK), GS k (cxOf (L2.CX P w) P w K mg base N qual (defScope st) f cdv A outer s H E) (ambOf E G0 H) →
      PSs (cxOf (L2.CX P w) P w K mg base N qual (defScope st) f cdv A outer s H E) (defBody st) (tS K mg (ambOf E G0 H) b)) :
    FnOk P w K mg base (L2.CX P w) (k + 1) f fd ps (spOf K mg ps.length (runF N.length b)) := by
  refine F.okX S (fun vs H Q E h => h.1) (fun cdv A outer s H vs Q E hr h => ?_)
  obtain ⟨hl, G, ds, sg, r, q⟩ := h
  have c : GS k (cxOf (L2.CX P w) P w K mg base N qual (defScope st) f cdv A outer s H E) (ambOf E G H) := ⟨⟨takes_of rfl rfl rfl rfl, hr, rfl, S.nd⟩, passes_of rfl, rfl, rfl⟩
  refine ⟨_, body cdv A outer s H G E c, start0 N.length ds, G, start_ok sg r, ?_⟩
  unfold runF at q
  cases h : b (start0 N.length ds) with
  | next ρ => rw [h] at q; exact fun σ' G' H' r' _ => q .non G' H' r'.gr .non
  | brk ρ => rw [h] at q; exact q.elim
  | cont ρ => rw [h] at q; exact q.elim
  | exc e ρ => rw [h] at q; exact fun d σ' G' H' r' _ xr => q d G' H' r'.gr xr
  | stuck => rw [h] at q; exact q.elim
  | ret rv =>
    rw [h] at q
    cases rv with
    | sh d => exact fun v G' H' g _ r => q v G' H' g r
    | ow xs => exact fun l us G' H' g _ n1 n2 h1 r => q l us G' H' g n1 n2 h1 r
theorem fn_mk {x qual : Str} {st : Stmt} {f : Addr} {fd : FuncData} {N ps : List Str} {k : Nat} {b : En → Out} (F : Fun K x qual st f fd) (S : FnScope N ps (defScope st)) (hm : mg x = some (.ref f)) (hb : Binds K fd ps [])
    (body : ∀ (cdv : Value) (A : Around) (outer : List Env) (s : Shared) (H G0 : Hp) (E : XK), GS k (cxOf (L2.CX P w) P w K mg base N qual (defScope st) f cdv A outer s H E) (ambOf E G0 H) →
      PSs (cxOf (L2.CX P w) P w K mg base N qual (defScope st) f cdv A outer s H E) (defBody st) (tS K mg (ambOf E G0 H) b)) :
    FnP P w K mg base (k + 1) x ps (runF N.length b) := ⟨f, fd, fn_ok F S body, hm, F.kp, hb⟩
end

/-! ## comprehensions -/
def lcL (i : Nat) (tt : En → Res Bool) (te : En → Res D) : List D → En → Res (List D)
  | [], _ => .ok []
  | d :: ds, ρ => match tt (ρ.set i (.sh d)) with
    | .ok true => (match te (ρ.set i (.sh d)) with
      | .ok v => (match lcL i tt te ds ρ with | .ok vs => .ok (v :: vs) | _ => .stuck)
      | _ => .stuck)
    | .ok false => lcL i tt te ds ρ
    | _ => .stuck
def lcE (it : En → Res (List D)) (i : Nat) (tt : En → Res Bool) (te : En → Res D) : En → Res (List D) := fun ρ => (it ρ).bind fun ds => gd (ds.length ≤ sizeLine) (lcL i tt te ds ρ)
def yesB : En → Res Bool := fun _ => .ok true
section
variable {X : Cx} {a : Amb} {elt tg iter c : Expr} {ifs : List Expr} {scope : Scope} {pos : Pos} {it : En → Res (List D)} {tt : En → Res Bool} {te : En → Res D} {i : Nat}
theorem ts_nil : PTs X [] (tT X.K X.mg a yesB) := ⟨fun pins s σ H Q I ⟨ρ, G, hR, q⟩ => (pts_nil (X := X)).run pins s σ H Q I (q G H (Grow.refl (R.sub hR)))⟩
theorem ts_one (h : PT X c (tT X.K X.mg a tt)) : PTs X [c] (tT X.K X.mg a tt) := pts_one h
theorem lc_run (σ : L2.St) (H : Hp) (Q : VK) (h : tO X.K X.mg a (lcE it i tt te) σ H Q) : tLc (tI X.K X.mg a it) (gName i) (tT X.K X.mg (aB a) tt) (tD X.K X.mg (aB a) te) [i] σ H Q := by
  obtain ⟨ρ, G, hR, q⟩ := h
  refine ⟨ρ, G, hR, (PostE.bind q).imp fun ds _ q1 J G1 H1 g ok Dl hD => ?_⟩
  obtain ⟨hz, q1⟩ := PostE.gd q1
  cases hL : lcL i tt te ds ρ with
  | stuck => rw [hL] at q1; exact q1.elim
  | exc e =>
    exfalso
    have no : ∀ (ds : List D), lcL i tt te ds ρ ≠ .exc e := by
      intro ds
      induction ds with
      | nil => intro z; cases z
      | cons d ds ih =>
        intro z
        unfold lcL at z
        repeat' (first | (split at z) | exact ih z | cases z)
    exact no ds hL
  | ok vs =>
    rw [hL] at q1
    have hR0 : R X.K a.G0 a.H0 (ρ.set i .no) (wipe σ [i]) G H := R.setNo hR i none
    refine ⟨fun j m H' => m = ds.length - j ∧ j ≤ ds.length ∧ ∃ G' acc done rest, Grow G1 H1 G' H' ∧ G' Dl = none ∧ H' Dl = some (.lst acc) ∧ Reps X.K G' acc done ∧ done.length ≤ j ∧ lcL i tt te (ds.drop j) ρ = .ok rest ∧ vs = done ++ rest,
      ⟨ds.length, by simp, Nat.zero_le _, G1, [], [], vs, Grow.own g.s hD, g.s.free hD, upd_same, .nil, Nat.le_refl _, by rw [List.drop_zero]; exact hL, rfl⟩, ?_⟩
    rintro j m H' ⟨rfl, hj, G', acc, done, rest, gg, nD, eD, rD, lD, eL, eV⟩
    obtain ⟨stop, go⟩ := ok H' (gg.g.trans gg.s) j
    by_cases hl : j < ds.length
    · refine .inr ?_
      have e1 : ds[j]? = some ds[j] := List.getElem?_eq_getElem hl
      obtain ⟨h1, h2⟩ := go _ e1
      rw [List.drop_eq_getElem_cons hl] at eL
      refine ⟨h1, fun H2 => ∃ G' acc done rest, Grow G1 H1 G' H2 ∧ G' Dl = none ∧ H2 Dl = some (.lst acc) ∧ Reps X.K G' acc done ∧ done.length ≤ j + 1 ∧ lcL i tt te (ds.drop (j + 1)) ρ = .ok rest ∧ vs = done ++ rest, fun H2 w => ⟨ds.length - (j + 1), by omega, rfl, hl, w⟩, fun x H2 y => ?_⟩
      obtain ⟨rfl, rx⟩ := h2 x H2 y
      have rx' := Rep.mono gg.g _ _ rx
      refine ⟨by simp [wipe], ?_⟩
      have hR1 : R X.K a.G0 a.H0 (ρ.set i (.sh ds[j])) ((wipe σ [i]).set i (some x)) G' H2 := by
        have := R.setSh ((hR0.grow g).grow gg) i rx'
        rwa [List.set_set] at this
      unfold lcL at eL
      refine ⟨ρ.set i (.sh ds[j]), G', hR1, ?_⟩
      cases ht : tt (ρ.set i (.sh ds[j])) with
      | stuck => rw [ht] at eL; cases eL
      | exc e => rw [ht] at eL; cases eL
      | ok b =>
        rw [ht] at eL
        intro G2 H3 g2
        have nD2 : G2 Dl = none := g2.f Dl nD (by rw [eD]; simp)
        cases b with
        | false => exact ⟨G2, acc, done, rest, gg.trans g2, nD2, g2.h _ _ eD, Reps.mono g2.g _ _ rD, by omega, eL, eV⟩
        | true =>
          refine ⟨ρ.set i (.sh ds[j]), G2, R.grow hR1 g2, ?_⟩
          cases he : te (ρ.set i (.sh ds[j])) with
          | stuck => rw [he] at eL; cases eL
          | exc e => rw [he] at eL; cases eL
          | ok dv =>
            simp only [he] at eL
            intro v G3 H4 g3 rv
            have nD3 : G3 Dl = none := g3.f Dl nD2 (by rw [g2.h _ _ eD]; simp)
            cases hL2 : lcL i tt te (ds.drop (j + 1)) ρ with
            | stuck => rw [hL2] at eL; cases eL
            | exc e => rw [hL2] at eL; cases eL
            | ok rs =>
              rw [hL2] at eL
              cases eL
              refine ⟨acc, g3.h _ _ (g2.h _ _ eD), by rw [rD.len]; omega, G3, acc ++ [v], done ++ [dv], rs, ((gg.trans g2).trans g3).mut hD nD3, nD3, upd_same, (Reps.mono (g2.g.trans g3.g) _ _ rD).app (.cons rv .nil), by simp; omega, rfl, by rw [eV, List.append_assoc]; rfl⟩
    · have e : j = ds.length := by omega
      subst e
      rw [List.drop_length] at eL
      cases eL
      rw [List.append_nil] at eV
      subst eV
      exact .inl ⟨stop (Nat.le_refl _), q1 Dl acc G' H' (g.trans gg) (g.h.free hD) nD eD rD⟩
theorem o_lc {x : Str} {k : Nat} (ge : GE k X a) (hi : PI X tg iter (tI X.K X.mg a it)) (ok : blkC X.N X.env.scope scope [(x, i)] = true)
    (hg : ∀ (s : Shared) (H : Hp) (C : Addr) (cl : List (Str × Addr)) (fp : List Addr), PG (X.blk s H scope (compEnvC scope cl C X.env) fp) tg (gName i))
    (ht : ∀ (s : Shared) (H : Hp) (C : Addr) (cl : List (Str × Addr)) (fp : List Addr), PTs (X.blk s H scope (compEnvC scope cl C X.env) fp) ifs (tT X.K X.mg (aB a) tt))
    (he : ∀ (s : Shared) (H : Hp) (C : Addr) (cl : List (Str × Addr)) (fp : List Addr), PE (X.blk s H scope (compEnvC scope cl C X.env) fp) elt (tD X.K X.mg (aB a) te)) (hs : ∀ x, foldedSetIterable iter X.env x = pure x := by intro _; rfl) :
    PE X (.ListComp elt [⟨tg, iter, ifs, 0⟩] scope pos) (tO X.K X.mg a (lcE it i tt te)) :=
  (pe_lc (own := [(x, i)]) ge.calm ge.nd hi (blkOk_by ok) hg ht he hs).imp lc_run
/-- name = [..] -/
theorem s_setLc {j : Nat} {x y : Str} {py spos : Pos} {k : Nat} (ge : GE k X a) (hy : X.N[j]? = some y) (hyl : X.env.scope.names.lookup y = some .local) (hsw : swapsWith (.ListComp elt [⟨tg, iter, ifs, 0⟩] scope pos) (some (.Name y py)) spos.line X.env = pure true)
    (hi : PI X tg iter (tI X.K X.mg a it)) (ok : blkC X.N X.env.scope scope [(x, i)] = true)
    (hg : ∀ (s : Shared) (H : Hp) (C : Addr) (cl : List (Str × Addr)) (fp : List Addr), PG (X.blk s H scope (compEnvC scope cl C X.env) fp) tg (gName i))
    (ht : ∀ (s : Shared) (H : Hp) (C : Addr) (cl : List (Str × Addr)) (fp : List Addr), PTs (X.blk s H scope (compEnvC scope cl C X.env) fp) ifs (tT X.K X.mg (aB a) tt))
    (he : ∀ (s : Shared) (H : Hp) (C : Addr) (cl : List (Str × Addr)) (fp : List Addr), PE (X.blk s H scope (compEnvC scope cl C X.env) fp) elt (tD X.K X.mg (aB a) te)) (hs : ∀ x, foldedSetIterable iter X.env x = pure x := by intro _; rfl) :
    PS X (.Assign [.Name y py] (.ListComp elt [⟨tg, iter, ifs, 0⟩] scope pos) spos) (tS X.K X.mg a (sSetO j (lcE it i tt te))) :=
  (ps_setLc (own := [(x, i)]) ge.calm ge.nd hy hyl hsw hi (blkOk_by ok) hg ht he hs).imp fun Dn σ H ⟨ρ, G, hR, q⟩ => lc_run σ H _ ⟨ρ, G, hR, (ofR_post hR q).imp fun d _ q1 l vs G' H' g n1 n2 h1 r => q1 _ G' H' (R.setNew hR j g n1 n2 h1 (.lst r)) g.g⟩
/-- .. shared at once -/
theorem s_setLcS {j : Nat} {x y : Str} {py spos : Pos} {k : Nat} (ge : GE k X a) (hy : X.N[j]? = some y) (hyl : X.env.scope.names.lookup y = some .local) (hsw : swapsWith (.ListComp elt [⟨tg, iter, ifs, 0⟩] scope pos) (some (.Name y py)) spos.line X.env = pure true)
    (hi : PI X tg iter (tI X.K X.mg a it)) (ok : blkC X.N X.env.scope scope [(x, i)] = true)
    (hg : ∀ (s : Shared) (H : Hp) (C : Addr) (cl : List (Str × Addr)) (fp : List Addr), PG (X.blk s H scope (compEnvC scope cl C X.env) fp) tg (gName i))
    (ht : ∀ (s : Shared) (H : Hp) (C : Addr) (cl : List (Str × Addr)) (fp : List Addr), PTs (X.blk s H scope (compEnvC scope cl C X.env) fp) ifs (tT X.K X.mg (aB a) tt))
    (he : ∀ (s : Shared) (H : Hp) (C : Addr) (cl : List (Str × Addr)) (fp : List Addr), PE (X.blk s H scope (compEnvC scope cl C X.env) fp) elt (tD X.K X.mg (aB a) te)) (hs : ∀ x, foldedSetIterable iter X.env x = pure x := by intro _; rfl) :
    PS X (.Assign [.Name y py] (.ListComp elt [⟨tg, iter, ifs, 0⟩] scope pos) spos) (tS X.K X.mg a (sSet j (own (lcE it i tt te)))) :=
  (ps_setLc (own := [(x, i)]) ge.calm ge.nd hy hyl hsw hi (blkOk_by ok) hg ht he hs).imp fun Dn σ H ⟨ρ, G, hR, q⟩ => lc_run σ H _ ⟨ρ, G, hR, (PostE.bind (ofR_post hR q)).imp fun d _ q1 l vs G' H' g n1 n2 h1 r =>
    q1 _ _ H' (R.setSh (R.grow hR (g.share n1 n2 h1)) j (.lst upd_same (Reps.mono (same_new n2) _ _ r))) (g.share n1 n2 h1).g⟩
end
end PL

set_option maxRecDepth 100000
set_option maxHeartbeats 1000000
namespace PL
open PySem PySem.Spec PyProof.Rows L2

/-! ## try with several clauses «except X as n» -/
/-- a clause: the class, the slot of its name, its suite's reading -/
structure Cla where
  c : Value
  i : Nat
  ts : Addr → Value → Option Addr → TS
def wrapE (i : Nat) (D : Ends) : Ends := ⟨fun σ H => D.nx (σ.set i none) H, D.rt, fun σ H => D.bk (σ.set i none) H, fun σ H => D.ct (σ.set i none) H⟩
def wCl (K : PySem.W.Frag) (W : WX) (D : Ends) : List Cla → WX
  | [] => W
  | l :: r => fun cls d σ H => ∃ b, PySem.W.exmOne K cls l.c = some b ∧ (b = true → ∀ a, H a = none → l.ts a cls d (wrapE l.i D) (σ.set l.i (some (.ref a))) H) ∧ (b = false → wCl K W D r cls d σ H)
inductive ClOk (X : Cx) : List ExceptHandler → List Cla → Prop
  | nil : ClOk X [] []
  | cons {x n : Str} {l : Cla} {b0 : Stmt} {bs : List Stmt} {np ps : Pos} {hds : List ExceptHandler} {r : List Cla} (hc : Names X x l.c) (hi : X.N[l.i]? = some n) (hl : X.env.kindOf n = some .local)
      (hs : ∀ (a : Addr) (oe : Obj) (cls : Value) (d : Option Addr) (pn : List (Addr × Obj)), Zc cls d oe → (∃ vs, oe.data = .fields vs) → PSs (X.suite a ((a, oe) :: pn)) (b0 :: bs) (l.ts a cls d)) (h : ClOk X hds r) :
      ClOk X (.ExceptHandler (some (.Name x np)) (some n) (b0 :: bs) ps :: hds) (l :: r)
/-- an exception caught in X -/
structure Cau (X : Cx) (pins : List (Addr × Obj)) (σ : L2.St) (H : Hp) (B : Heap) (a : Addr) (cls : Value) (d : Option Addr) (sI s : Shared) : Prop where
  J : Inv X pins σ H sI
  nb : ∀ b o, sI.heap.get? b = some o → b ∉ frs X.stack → B.get? b = some o
  up : sI.heap.UpToSlots s.heap
  fl : HandSPX.FlyingZ B (X.env :: X.outer) a (Zc cls d) s.heap
  na : H a = none
  nL : a ≠ X.env.locals
  nF : a ∉ X.fs
  os : s.os = sI.os
  ag : AllBare s.gens
section
variable {X : Cx} {pins : List (Addr × Obj)} {σ : L2.St} {H : Hp} {B : Heap} {a : Addr} {cls : Value} {d : Option Addr} {sI s : Shared} {W : WX} {Dn : Ends}
theorem Cau.land (c : Cau X pins σ H B a cls d sI s) {h : Heap} (fl : HandSPX.FlyingZ B (X.env :: X.outer) a (Zc cls d) h) (up : s.heap.UpToSlots h) : Cau X pins σ H B a cls d sI { s with heap := h } :=
  ⟨c.J, c.nb, c.up.trans up, fl, c.na, c.nL, c.nF, c.os, c.ag⟩
theorem Cau.inv (c : Cau X pins σ H B a cls d sI s) : Inv X pins σ H s := c.J.landed c.nb c.fl.1 c.up c.os c.ag
theorem Cau.suite (c : Cau X pins σ H B a cls d sI s) : ∃ oe, Zc cls d oe ∧ (∃ vs, oe.data = .fields vs) ∧ s.heap.get? a = some oe ∧ Inv (X.suite a ((a, oe) :: (X.pn ++ pins))) [] σ H s := by
  obtain ⟨oe, vs, h1, h2, h3⟩ := c.fl.there
  exact ⟨oe, h2, ⟨vs, h3⟩, h1, c.inv.suite h1 h3 c.na c.nL c.nF⟩
/-- no clause took it: it goes on -/
theorem Cau.on (c : Cau X pins σ H B a cls d sI s) (hs : X.stack = X.env :: X.outer) (hf : X.env.frame = some X.env.locals) (tk : Takes X W) (w : W cls d σ H) : wpAny (model X.prog X.w) X.A (handleBy (.ref a) X.env []) (SP X pins Dn) X.xe s := by
  refine wpAny_handleBy_nil ?_
  have fl0 := c.fl
  obtain ⟨k1, k2, k3, oe, vs, T, oT, ts', he, hz, hd, h1, hr⟩ := c.fl
  unfold PySem.passOn
  refine wpAny_bind (wpAny_field he hd h1 ?_)
  rw [if_neg (show ¬ ((Value.ref T == Value.none) = true) by simp)]
  have go : wpAny (model X.prog X.w) X.A (setFlight (.ref a) X.env.frame) (fun _ t => wpAny (model X.prog X.w) X.A (throw (.ref a) : Sem Flow) (SP X pins Dn) X.xe t) X.xe s := by
    rw [hf]
    refine HandSPX.setFlight_upZ fl0 fun h4 hh4 up4 => wpAny_throw (tk _ _ ?_)
    exact ⟨a, B, sI, pins, σ, H, cls, d, rfl, c.J, c.nb, c.up.trans up4, .inr (.inr (by rw [hs]; exact hh4)), c.na, c.os, c.ag, w⟩
  first | exact wpAny_bind (wpAny_pure (wpAny_bind go)) | exact wpAny_bind go
theorem Cau.clauses (hs : X.stack = X.env :: X.outer) (hf : X.env.frame = some X.env.locals) (hN : X.N.Nodup) (tk : Takes X W) : ∀ {hds : List ExceptHandler} {ls : List Cla}, ClOk X hds ls → ∀ {s : Shared}, Cau X pins σ H B a cls d sI s → wCl X.K W Dn ls cls d σ H →
    wpAny (model X.prog X.w) X.A (handleBy (.ref a) X.env hds) (SP X pins Dn) X.xe s := by
  intro hds ls ok
  induction ok with
  | nil => intro s c w; exact c.on hs hf tk w
  | @cons x n l b0 bs np ps hds r hc hi hl hsu h ih =>
    intro s c w
    obtain ⟨b, e1, yes, no⟩ := w
    obtain ⟨oe, z1, z2, z3, S⟩ := c.suite
    have okX := c.J.ok
    refine wpAny_handleBy_cons (codeAny_handlers_test ?_) (by intro q; cases q)
    have lt : PySem.W.Looks (model X.prog X.w) s.heap (typeOf (.ref a)) cls := fun A Q E s' k q => wpAny_typeOf_ref (k _ _ z3) (by rw [z1.1]; exact q)
    have lm := PySem.W.exm_one (M := model X.prog X.w) c.inv.kIn lt e1
    have asked : ∀ {Q E : Value → Shared → Prop}, Q l.c s → wpAny (model X.prog X.w) (X.A.mark (some (.ref a))) (eval (.Name x np) X.env) Q E s := fun {Q E} q => by
      obtain ⟨g1, g2, g3 | ⟨g3, g4, g5⟩⟩ := hc
      · exact ld_glob (X := X.suite a ((a, oe) :: (X.pn ++ pins))) S g1 g3 q g2
      · exact ld_blt (X := X.suite a ((a, oe) :: (X.pn ++ pins))) S g1 g3 g4 q g5 g2
    refine asked (lm.here ?_)
    cases b with
    | false =>
      show wpAny _ X.A (handleBy (.ref a) X.env hds) _ _ _
      exact ih c (no rfl)
    | true =>
      refine codeAny_handlers_suite_as (HandSPX.lands_againZ c.fl fun h4 fl4 up4 => ?_)
      have c4 := c.land fl4 up4
      obtain ⟨oe4, y1, y2, y3, S4⟩ := c4.suite
      refine store_ok (X := X.suite a ((a, oe4) :: (X.pn ++ pins))) (v := .ref a) S4 hN hi (.inl hl) rfl (fun s5 S5 => ?_) (.inr hl)
      refine wpAny_mono ((hsu a oe4 cls d (X.pn ++ pins) y1 y2).run [] s5 _ H _ S5 (yes rfl a c.na)) (fun f s6 q => ?_) (fun _ _ z => False.elim z)
      have gone : ∀ {σ6 : L2.St} {H6 : Hp} {Q : Shared → Prop}, Inv (X.suite a ((a, oe4) :: (X.pn ++ pins))) [] σ6 H6 s6 → (∀ s7, Inv X pins (σ6.set l.i none) H6 s7 → Q s7) →
          wpAny (model X.prog X.w) X.A (do bindName X.env n .none; unbindBehindTheSuite X.env n ps) (fun _ s7 => Q s7) X.xe s6 := fun {σ6 H6 Q} S6 hq => gone_ok (S6.unsuite okX) hN hi hl hq
      cases f with
      | next => obtain ⟨σ6, H6, S6, q6⟩ := q; exact gone S6 fun s7 J7 => ⟨_, _, J7, q6⟩
      | brk => obtain ⟨σ6, H6, S6, q6⟩ := q; exact gone S6 fun s7 J7 => ⟨_, _, J7, q6⟩
      | cont => obtain ⟨σ6, H6, S6, q6⟩ := q; exact gone S6 fun s7 J7 => ⟨_, _, J7, q6⟩
      | ret u => obtain ⟨v6, σ6, H6, S6, r6, q6⟩ := q; exact gone S6 fun s7 J7 => ⟨_, _, _, J7, r6, q6⟩
theorem ps_try_cl {body : List Stmt} {h0 : ExceptHandler} {hds : List ExceptHandler} {ls : List Cla} {pos : Pos} {tb : WX → TS} (hs : X.stack = X.env :: X.outer) (hf : X.env.frame = some X.env.locals) (hN : X.N.Nodup) (tk : Takes X W)
    (hb : ∀ (W' : WX) (pn : List (Addr × Obj)) (xe : Value → Shared → Prop), Takes (X.tr pn xe) W' → PassesOwn (model X.prog X.w) X.A X.env xe → PSs (X.tr pn xe) body (tb W'))
    (hh : ClOk X (h0 :: hds) ls) : PS X (.Try body (h0 :: hds) [] [] pos) (fun D σ H => tb (wCl X.K W D ls) D σ H) := by
  refine ⟨fun pins s σ H D I h => ?_⟩
  have ok := I.ok
  have fr : X.A.frames = some (X.env :: X.outer) := by rw [ok.frames, hs]
  refine wpAny_Try_except ?_
  refine wpAny_mono ((hb (wCl X.K W D ls) (X.pn ++ pins) (fun e s1 => wpAny (model X.prog X.w) X.A (noteFrame e X.env) (fun _ s2 => wpAny (model X.prog X.w) X.A (setFlight e none) (fun _ s3 =>
    wpAny (model X.prog X.w) X.A (handleBy e X.env (h0 :: hds)) (SP X pins D) X.xe s3) X.xe s2) X.xe s1) (fun u s' xx => ?_) PassesOwn.looking).run [] s σ H D (I.toTry _) h) (fun f s1 q => ?_) (fun e s1 he => he)
  · obtain ⟨a, B, sI, pins', σ', H', cls, d, rfl, J', nb, up, sky, na, os, ag, w⟩ := xx
    have J : Inv X pins σ' H' sI := J'.ofTry ok
    show wpAny (model X.prog X.w) X.A (noteFrame (.ref a) X.env) _ _ _
    refine Sky.land Zc.steady fr hf (by rw [← hs]; exact sky : Sky B (X.env :: X.outer) a (Zc cls d) X.env.locals s'.heap) fun h3 fl3 up3 => ?_
    obtain ⟨oe3, vs3, he3, hz3, hd3⟩ := fl3.there
    have nfr : a ∉ frs (X.env :: X.outer) := fun hm => by
      obtain ⟨_, o', e', hnf⟩ := fl3.2.2.1.mem hm
      rw [he3] at e'; cases e'
      exact hnf _ hd3
    have nL : a ≠ X.env.locals := fun z => nfr (List.mem_filterMap.mpr ⟨X.env, List.mem_cons_self, by rw [hf, z]⟩)
    have nF : a ∉ X.fs := fun hm => by
      obtain ⟨e, he, q⟩ := List.mem_filterMap.mp hm
      exact nfr (List.mem_filterMap.mpr ⟨e, List.mem_cons_of_mem _ he, q⟩)
    exact Cau.clauses hs hf hN tk hh (s := { s' with heap := h3 }) ⟨J, nb, up.trans up3, fl3, na, nL, nF, os, ag⟩ w
  · cases f with
    | next => obtain ⟨σ', H', J', q⟩ := q; exact wpAny_execs_nil ⟨σ', H', J'.ofTry ok, q⟩
    | brk => obtain ⟨σ', H', J', q⟩ := q; exact ⟨σ', H', J'.ofTry ok, q⟩
    | cont => obtain ⟨σ', H', J', q⟩ := q; exact ⟨σ', H', J'.ofTry ok, q⟩
    | ret u => obtain ⟨v, σ', H', J', r, q⟩ := q; exact ⟨v, σ', H', J'.ofTry ok, r, q⟩
end
end PL

set_option maxRecDepth 100000
set_option maxHeartbeats 1000000
namespace PL
open PySem PySem.Spec PyProof.Rows L2

/-! ## own exceptions -/
def spIn (C : Addr) (fl : List Str) : Sp := fun vs H Q _ => ∃ a ws, vs = .ref a :: ws ∧ ws.length = fl.length ∧ H a = some (exo a C none) ∧
  ∀ d H2, H d = none → d ≠ a → H2 a = some (exo a C (some d)) → H2 d = some (exd d ((fl.zip ws).reverse)) → (∀ b, b ≠ a → b ≠ d → H2 b = H b) → Q .non H2
structure ExT (P : Program) (w : World) (K : PySem.W.Frag) (mg : Str → Option Value) (base : Heap) (x : Str) (fl : List Str) (C : Addr) : Prop where
  gC : mg x = some (.ref C)
  oex : OexC K C
  xf : XfC K C
  noF : ∀ f ∈ fl, PySem.W.findIn K (.ref C) f = some none
  fn : ∃ fI fd, PySem.W.findIn K (.ref C) "__init__" = some (some (.ref fI)) ∧ PySem.W.typeIn K (.ref fI) = some (.type "function") ∧ FnOk P w K mg base CX0 2 fI fd ("self" :: fl) (spIn C fl) ∧ Binds K fd ("self" :: fl) []
theorem Reps.rev {K : PySem.W.Frag} {G : Hp} : ∀ {ds : List D} {vs : List V}, Reps K G vs ds → Reps K G vs.reverse ds.reverse
  | [], _, .nil => .nil
  | d :: ds, _, .cons h r => by
    rw [List.reverse_cons, List.reverse_cons]
    exact (Reps.rev r).app (.cons h .nil)
theorem zip_rev {α β γ : Type} : ∀ {fl : List α} {ds : List β} {ws : List γ}, ds.length = fl.length → ws.length = fl.length → (((fl.zip ds).reverse).map (·.1)).zip ws.reverse = (fl.zip ws).reverse := by
  intro fl ds ws h1 h2
  have e : ((fl.zip ds).reverse).map (·.1) = fl.reverse := by
    rw [List.map_reverse, List.map_fst_zip (by omega)]
  rw [e]
  apply List.ext_getElem
  · simp [h2]
  · intro i a1 a2
    simp only [List.getElem_zip, List.getElem_reverse, List.length_zip]
    simp at a1
    congr 1 <;> (congr 1 <;> omega)
def sRaise (mk : List D → Res Exc) (fs : En → Res (List D)) : En → Out := fun ρ => ofR ρ (fs ρ) fun ds => ofR ρ (mk ds) fun e => .exc e ρ
def mkBV : List D → Res Exc | [w] => .ok (.badValue w) | _ => .stuck
def mkTM : List D → Res Exc | [w] => .ok (.tooMany w) | _ => .stuck
def mkBT : List D → Res Exc | [l, w, x] => .ok (.badText l w x) | _ => .stuck
def mkNP : List D → Res Exc | [w] => .ok (.noPlacing w) | _ => .stuck
def mkRF : List D → Res Exc | [w] => .ok (.refused w) | _ => .stuck
/-- the maker makes the class's exceptions -/
def MkX (x : Str) (fl : List Str) (mk : List D → Res Exc) : Prop := ∀ ds r, mk ds = r → r = .stuck ∨ ∃ e, r = .ok e ∧ e.cls = x ∧ ds.length = fl.length ∧ e.flds = (fl.zip ds).reverse
theorem mkx_bv : MkX "BadValue" ["what"] mkBV := fun ds r h => by
  unfold mkBV at h; split at h <;> subst h
  · exact .inr ⟨_, rfl, rfl, rfl, rfl⟩
  · exact .inl rfl
theorem mkx_tm : MkX "TooMany" ["limit"] mkTM := fun ds r h => by
  unfold mkTM at h; split at h <;> subst h
  · exact .inr ⟨_, rfl, rfl, rfl, rfl⟩
  · exact .inl rfl
theorem mkx_bt : MkX "BadText" ["line", "word", "what"] mkBT := fun ds r h => by
  unfold mkBT at h; split at h <;> subst h
  · exact .inr ⟨_, rfl, rfl, rfl, rfl⟩
  · exact .inl rfl
theorem mkx_np : MkX "NoPlacing" ["members"] mkNP := fun ds r h => by
  unfold mkNP at h; split at h <;> subst h
  · exact .inr ⟨_, rfl, rfl, rfl, rfl⟩
  · exact .inl rfl
theorem mkx_rf : MkX "Refused" ["reason"] mkRF := fun ds r h => by
  unfold mkRF at h; split at h <;> subst h
  · exact .inr ⟨_, rfl, rfl, rfl, rfl⟩
  · exact .inl rfl
section
variable {X : Cx} {a : Amb} {e : Expr} {es : List Expr} {fs : En → Res (List D)} {pos p pos2 : Pos} {x : Str} {fl : List Str} {C : Addr} {k : Nat} {mk : List D → Res Exc}
theorem s_raise (T : ExT X.prog X.w X.K X.mg X.base x fl C) (c : GS k X a) (hk : 3 ≤ k) (hmk : MkX x fl mk) (ha : PA X (e :: es) (tA X.K X.mg a fs)) (hfl : fl.length ≤ 10 := by decide) (hg : Gl X x := by rfl)
    (hdb : (x == ("__debug__" : Str)) = false := by decide) (he : starEach (e :: es) X.env = (false, eval e X.env) :: starEach es X.env := by rfl) (hpl : (backTo pos (starEach es X.env)).any (·.1) = false := by rfl) :
    PS X (.Raise (some (.Call (.Name x p) (e :: es) [] pos)) none pos2) (tS X.K X.mg a (sRaise mk fs)) := by
  obtain ⟨fI, fd, iC, tI, F1, hb⟩ := T.fn
  refine (ps_raise c.calm c.tk (pmk_oex T.oex iC tI F1 (c.hr.mono hk) hb .nil pass0 hg T.gC ha hdb he hpl)).imp fun Dn σ H ⟨ρ, G, hR, q⟩ => ?_
  refine ⟨ρ, G, hR, (ofR_post hR q).imp fun ds _ q1 vs G' H' g r => ?_⟩
  rcases hmk ds _ rfl with h | ⟨ex, h, hc, hl, hf⟩
  · rw [h] at q1; exact q1.elim
  · rw [h] at q1
    have hlv : vs.length = fl.length := by rw [r.len, hl]
    refine ⟨by omega, fun b hb => ?_⟩
    rw [List.append_nil]
    refine ⟨b, vs, rfl, hlv, upd_same, fun d H2 hd hne h2a h2d rest => ⟨rfl, d, _, h2a, h2d, ?_, ?_⟩⟩
    · rw [upd_ne hne] at hd; exact hd
    · have hd' : H' d = none := by rw [upd_ne hne] at hd; exact hd
      have sm : Same H' (upd (L2.del H2 b) d (.xd ((fl.zip vs).reverse))) := fun y o ey => by
        have n1 : y ≠ d := ne_of_none ey hd'
        have n2 : y ≠ b := ne_of_none ey hb
        rw [upd_ne n1, del_ne n2, rest y n2 n1, upd_ne n2]
        exact ey
      have gg : Grow G H G' (upd (L2.del H2 b) d (.xd ((fl.zip vs).reverse))) := ⟨g.g, g.h.trans sm, g.s.trans sm, g.f⟩
      have cls : clOf X.mg ex.cls = .ref C := by unfold clOf; rw [hc, T.gC]; rfl
      rw [← cls]
      refine q1 d σ G' _ (R.grow hR gg) gg.g ⟨vs.reverse, ?_, ?_⟩
      · rw [hf, zip_rev hl hlv]
        exact upd_same
      · rw [hf, List.map_reverse, List.map_snd_zip (by omega)]
        exact r.rev
end

/-! ## own exceptions' makers: __init__ with one field, with three -/
section
variable {P : Program} {w : World} {K : PySem.W.Frag} {mg : Str → Option Value} {base : Heap}
/-- self.f = f, in such a body -/
theorem ost {X : Cx} {f : Str} {o e : Expr} {to te : TE} {p' pos : Pos} (ho : PE X o to) (he : PE X e te) (hs : swapsWith e (some (.Attribute o f p')) pos.line X.env = pure false := by rfl) : PS X (.Assign [.Attribute o f p'] e pos) (tOst X.K f to te) := ps_ost ho he hs
theorem init1 {f : Addr} {fd : FuncData} {qual fl : Str} {st : Stmt} {C : Addr} (F : Fun K "__init__" qual st f fd) (S : FnScope [("self" : Str), fl] [("self" : Str), fl] (defScope st)) (o : OexC K C) (no : PySem.W.findIn K (.ref C) fl = some none)
    (body : ∀ (cdv : Value) (A : Around) (outer : List Env) (s : Shared) (H : Hp) (E : XK), PSs (cxOf CX0 P w K mg base [("self" : Str), fl] qual (defScope st) f cdv A outer s H E).nox (defBody st) (tOst K fl (tVar 0) (tVar 1))) : FnOk P w K mg base CX0 2 f fd [("self" : Str), fl] (spIn C [fl]) := by
  refine F.ok S (fun vs H Q E h => ?_) (fun cdv A outer s H vs Q E hr h => ?_)
  · obtain ⟨a, ws, rfl, hl, _⟩ := h
    simpa using hl
  · obtain ⟨a, ws, rfl, hl, ha, q⟩ := h
    match ws, hl with
    | [w1], _ =>
      refine ⟨_, body cdv A outer s H E, ?_⟩
      refine ⟨w1, rfl, .ref a, rfl, a, C, rfl, o, no, .inl ⟨ha, fun dx n1 n2 => ?_⟩⟩
      refine q dx _ n1 n2 upd_same ?_ fun b h1 h2 => ?_
      · rw [upd_ne n2, upd_same] <;> rfl
      · rw [upd_ne h1, upd_ne h2]
theorem init3 {f : Addr} {fd : FuncData} {qual f1 f2 f3 : Str} {st : Stmt} {C : Addr} (F : Fun K "__init__" qual st f fd) (S : FnScope [("self" : Str), f1, f2, f3] [("self" : Str), f1, f2, f3] (defScope st)) (o : OexC K C) (n1 : PySem.W.findIn K (.ref C) f1 = some none) (n2 : PySem.W.findIn K (.ref C) f2 = some none) (n3 : PySem.W.findIn K (.ref C) f3 = some none)
    (body : ∀ (cdv : Value) (A : Around) (outer : List Env) (s : Shared) (H : Hp) (E : XK), PSs (cxOf CX0 P w K mg base [("self" : Str), f1, f2, f3] qual (defScope st) f cdv A outer s H E).nox (defBody st) (tSeq (tOst K f1 (tVar 0) (tVar 1)) (tSeq (tOst K f2 (tVar 0) (tVar 2)) (tOst K f3 (tVar 0) (tVar 3))))) : FnOk P w K mg base CX0 2 f fd [("self" : Str), f1, f2, f3] (spIn C [f1, f2, f3]) := by
  refine F.ok S (fun vs H Q E h => ?_) (fun cdv A outer s H vs Q E hr h => ?_)
  · obtain ⟨a, ws, rfl, hl, _⟩ := h
    simpa using hl
  · obtain ⟨a, ws, rfl, hl, ha, q⟩ := h
    match ws, hl with
    | [w1, w2, w3], _ =>
      refine ⟨_, body cdv A outer s H E, ?_⟩
      refine ⟨w1, rfl, .ref a, rfl, a, C, rfl, o, n1, .inl ⟨ha, fun dx m1 m2 => ?_⟩⟩
      have e1 : upd (upd H dx (exd dx [(f1, w1)])) a (exo a C (some dx)) dx = some (exd dx [(f1, w1)]) := by rw [upd_ne m2, upd_same]
      refine ⟨w2, rfl, .ref a, rfl, a, C, rfl, o, n2, .inr ⟨dx, _, upd_same, e1, (by simp), ?_⟩⟩
      refine ⟨w3, rfl, .ref a, rfl, a, C, rfl, o, n3, .inr ⟨dx, _, ?_, upd_same, (by simp), ?_⟩⟩
      · rw [upd_ne (Ne.symm m2), upd_same]
      · refine q dx _ m1 m2 ?_ ?_ fun b h1 h2 => ?_
        · rw [upd_ne (Ne.symm m2), upd_ne (Ne.symm m2), upd_same]
        · exact upd_same
        · rw [upd_ne h2, upd_ne h2, upd_ne h1, upd_ne h2]
end

/-! ## try -/
/-- a clause: which exceptions it takes, the slot of its name, what it does -/
structure Clz where
  kn : Exc → Bool
  is : Exc → Bool
  i : Nat
  f : Exc → En → Out
/-- the name of the clause goes -/
def unset (i : Nat) : Out → Out
  | .next ρ => .next (ρ.set i .no) | .brk ρ => .brk (ρ.set i .no) | .cont ρ => .cont (ρ.set i .no) | .ret r => .ret r | .exc _ _ => .stuck | .stuck => .stuck
def tryO : List Clz → Exc → En → Out
  | [], e, ρ => .exc e ρ
  | l :: r, e, ρ => if l.kn e then (if l.is e then unset l.i (l.f e (ρ.set l.i .no)) else tryO r e ρ) else .stuck
def sTry (b : En → Out) (ls : List Clz) : En → Out := fun ρ => match b ρ with | .exc e ρ' => tryO ls e ρ' | o => o
/-- what a suite knows: e caught, at the address p, its dict at d -/
def Su (K : PySem.W.Frag) (mg : Str → Option Value) (a : Amb) (i : Nat) (p : Addr) (cls : Value) (d : Option Addr) (e : Exc) (ρ : En) (σ : L2.St) (G H : Hp) : Prop :=
  (∃ dd, d = some dd ∧ XR K G H dd e) ∧ cls = clOf mg e.cls ∧ (∀ o, σ[i]? = some o → o = some (.ref p)) ∧ RR K a ρ σ G H
theorem XR.grow {K : PySem.W.Frag} {G H G' H' : Hp} {d : Addr} {e : Exc} (g : Grow G H G' H') (x : XR K G H d e) : XR K G' H' d e := by
  obtain ⟨vs, h1, h2⟩ := x
  exact ⟨vs, g.h _ _ h1, Reps.mono g.g _ _ h2⟩
theorem Su.grow {K : PySem.W.Frag} {mg : Str → Option Value} {a : Amb} {i : Nat} {p : Addr} {cls : Value} {d : Option Addr} {e : Exc} {ρ : En} {σ : L2.St} {G H G' H' : Hp} (s : Su K mg a i p cls d e ρ σ G H) (g : Grow G H G' H') : Su K mg a i p cls d e ρ σ G' H' := by
  obtain ⟨⟨dd, h1, h2⟩, h3, h4, h5⟩ := s
  exact ⟨⟨dd, h1, h2.grow g⟩, h3, h4, R.grow h5 g⟩
section
variable (K : PySem.W.Frag) (mg : Str → Option Value) (a : Amb) (i : Nat) (p : Addr) (cls : Value) (d : Option Addr)
def tSu (f : Exc → En → Out) : TS := fun Dn σ H => ∃ e ρ G, Su K mg a i p cls d e ρ σ G H ∧ Post K mg (aB a) Dn G (f e ρ)
def tX (f : Exc → En → Res D) : TE := fun σ H Q => ∃ e ρ G, Su K mg a i p cls d e ρ σ G H ∧ PostE K mg (aB a) σ G H (f e ρ) fun z => ∀ v G' H', Grow G H G' H' → Rep K G' v z → Q v H'
def tXA (f : Exc → En → Res (List D)) : TA := fun σ H Q => ∃ e ρ G, Su K mg a i p cls d e ρ σ G H ∧ PostE K mg (aB a) σ G H (f e ρ) fun z => ∀ v G' H', Grow G H G' H' → Reps K G' v z → Q v H'
end
/-- the clauses' meanings and readings -/
inductive ClzOk (X : Cx) (a : Amb) : List ExceptHandler → List Clz → Prop
  | nil : ClzOk X a [] []
  | cons {x n : Str} {C : Addr} {l : Clz} {b0 : Stmt} {bs : List Stmt} {np ps : Pos} {hds : List ExceptHandler} {r : List Clz} (hc : Names X x (.ref C)) (hi : X.N[l.i]? = some n) (hl : X.env.kindOf n = some .local)
      (hm : ∀ e, l.kn e = true → PySem.W.exmOne X.K (clOf X.mg e.cls) (.ref C) = some (l.is e))
      (hs : ∀ (p : Addr) (oe : Obj) (cls : Value) (d : Option Addr) (pn : List (Addr × Obj)), Zc cls d oe → (∃ vs, oe.data = .fields vs) → PSs (X.suite p ((p, oe) :: pn)) (b0 :: bs) (tSu X.K X.mg a l.i p cls d l.f)) (h : ClzOk X a hds r) :
      ClzOk X a (.ExceptHandler (some (.Name x np)) (some n) (b0 :: bs) ps :: hds) (l :: r)
section
variable {X : Cx} {a : Amb} {k : Nat}
theorem clz_cl {hds : List ExceptHandler} {ls : List Clz} (h : ClzOk X a hds ls) : ∃ cs : List Cla, ClOk X hds cs ∧
    ∀ (Dn : Ends) (e : Exc) (ρ : En) (d : Addr) (σ : L2.St) (G H : Hp), RR X.K a ρ σ G H → XR X.K G H d e → Post X.K X.mg a Dn G (tryO ls e ρ) → wCl X.K a.W Dn cs (clOf X.mg e.cls) (some d) σ H := by
  induction h with
  | nil => exact ⟨[], .nil, fun Dn e ρ d σ G H r x p => p d σ G H r (Same.refl _) x⟩
  | @cons x n C l b0 bs np ps hds r hc hi hl hm hs h ih =>
    obtain ⟨cs, h1, h2⟩ := ih
    refine ⟨⟨.ref C, l.i, fun p cls d => tSu X.K X.mg a l.i p cls d l.f⟩ :: cs, .cons hc hi hl hs h1, fun Dn e ρ d σ G H r x p => ?_⟩
    unfold tryO at p
    by_cases hk : l.kn e = true
    case neg => rw [if_neg hk] at p; exact p.elim
    rw [if_pos hk] at p
    refine ⟨l.is e, hm e hk, fun hb q hq => ?_, fun hb => ?_⟩
    · rw [hb, if_pos rfl] at p
      refine ⟨e, ρ.set l.i .no, G, ⟨⟨d, rfl, x⟩, rfl, fun o ho => ?_, R.setNo r l.i _⟩, ?_⟩
      · rcases get_set ho with ⟨_, z, _⟩ | ⟨z, _⟩
        · exact z
        · exact absurd rfl z
      · cases hf : l.f e (ρ.set l.i .no) with
        | next ρ2 => rw [hf] at p; exact fun σ' G' H' r' s' => p _ G' H' (R.setNo r' l.i none) s'
        | brk ρ2 => rw [hf] at p; exact fun σ' G' H' r' s' => p _ G' H' (R.setNo r' l.i none) s'
        | cont ρ2 => rw [hf] at p; exact fun σ' G' H' r' s' => p _ G' H' (R.setNo r' l.i none) s'
        | ret rv => rw [hf] at p; cases rv <;> exact p
        | exc e2 ρ2 => rw [hf] at p; exact p.elim
        | stuck => rw [hf] at p; exact p.elim
    · rw [hb, if_neg Bool.false_ne_true] at p
      exact h2 Dn e ρ d σ G H r x p
theorem s_try {body : List Stmt} {h0 : ExceptHandler} {hds : List ExceptHandler} {ls : List Clz} {pos : Pos} {F : En → Out} (c : GS k X a)
    (hb : ∀ (W' : WX) (pn : List (Addr × Obj)) (xe : Value → Shared → Prop), GS k (X.tr pn xe) { a with W := W' } → PSs (X.tr pn xe) body (tS X.K X.mg { a with W := W' } F))
    (hh : ClzOk X a (h0 :: hds) ls) : PS X (.Try body (h0 :: hds) [] [] pos) (tS X.K X.mg a (sTry F ls)) := by
  obtain ⟨cs, h1, h2⟩ := clz_cl hh
  refine (ps_try_cl (tb := fun W' => tS X.K X.mg { a with W := W' } F) c.hs c.hf c.nd c.tk (fun W' pn xe tk po => hb W' pn xe (c.tr tk po)) h1).imp fun Dn σ H ⟨ρ, G, hR, q⟩ => ?_
  refine ⟨ρ, G, hR, ?_⟩
  unfold sTry at q
  cases hF : F ρ with
  | exc e ρ' => rw [hF] at q; exact fun d σ' G' H' r' s' x => h2 Dn e ρ' d σ' G' H' r' x (Post.mono s' q)
  | next ρ2 => rw [hF] at q; exact q
  | brk ρ2 => rw [hF] at q; exact q
  | cont ρ2 => rw [hF] at q; exact q
  | ret rv => rw [hF] at q; cases rv <;> exact q
  | stuck => rw [hF] at q; exact q.elim
theorem exm_pair {K : PySem.W.Frag} {A C : Addr} {b : Bool} (h1 : PySem.W.subIn K (.ref C) (.type "BaseException") = some true) (h2 : PySem.W.isClsIn K C = true) (h3 : PySem.W.typeIn K (.ref C) = some (.type "type")) (h4 : PySem.W.subIn K (.ref A) (.ref C) = some b) : PySem.W.exmOne K (.ref A) (.ref C) = some b := by
  have e1 : (PySem.W.subIn K (.ref C) (.type "BaseException") == some true) = true := by rw [h1] <;> rfl
  have z : (PySem.W.clsIn K C).isSome = true := h2
  have e2 : ((PySem.W.clsIn K C).isSome && PySem.W.typeIn K (.ref C) == some (.type "type")) = true := by rw [z, h3] <;> rfl
  show (if (PySem.W.subIn K (.ref C) (.type "BaseException") == some true) = true then (if ((PySem.W.clsIn K C).isSome && PySem.W.typeIn K (.ref C) == some (.type "type")) = true then PySem.W.subIn K (.ref A) (.ref C) else none) else none) = some b
  rw [if_pos e1, if_pos e2]
  exact h4
end
/-! in a suite -/
def fldX (x fld : Str) : Exc → En → Res D := fun e _ => gd (e.cls = x) (match e.flds.lookup fld with | some d => .ok d | none => .stuck)
section
variable {X : Cx} {a : Amb} {i : Nat} {p : Addr} {oe : Obj} {cls : Value} {d : Option Addr} {pn : List (Addr × Obj)} {e b : Expr} {es : List Expr} {pos : Pos} {f g : Exc → En → Res D} {fs : Exc → En → Res (List D)}
theorem x_lift {f : En → Res D} (h : PE (X.suite p ((p, oe) :: pn)) e (tD X.K X.mg (aB a) f)) : PE (X.suite p ((p, oe) :: pn)) e (tX X.K X.mg a i p cls d fun _ => f) :=
  h.imp fun σ H Q ⟨ex, ρ, G, hS, q⟩ => ⟨ρ, G, hS.2.2.2, q⟩
theorem lookup_zip {K : PySem.W.Frag} {G : Hp} {fld : Str} {z : D} : ∀ {fs : List (Str × D)} {vs : List V}, Reps K G vs (fs.map (·.2)) → fs.lookup fld = some z → ∃ v, ((fs.map (·.1)).zip vs).lookup fld = some v ∧ Rep K G v z
  | [], _, _, h => by cases h
  | (x, d) :: r, _, .cons (v := v) (vs := vs) h1 h2, h => by
    show ∃ w, List.lookup fld ((x, v) :: (r.map (·.1)).zip vs) = some w ∧ _
    by_cases hx : (fld == x) = true
    · rw [List.lookup_cons, hx] at h
      simp only at h
      cases h
      exact ⟨v, by rw [List.lookup_cons, hx], h1⟩
    · have hx' : (fld == x) = false := by simpa using hx
      rw [List.lookup_cons, hx'] at h
      obtain ⟨w, e1, e2⟩ := lookup_zip h2 h
      exact ⟨w, by rw [List.lookup_cons, hx']; exact e1, e2⟩
theorem x_fld {x n fld : Str} {C : Addr} {flds : List Str} {np : Pos} (T : ExT X.prog X.w X.K X.mg X.base x flds C) (hm : fld ∈ flds) (hz : Zc cls d oe) (hf : ∃ vs, oe.data = .fields vs) (hi : X.N[i]? = some n)
    (hv : Vis X.env.scope n := by first | exact Or.inl rfl | exact Or.inr (Or.inl rfl) | exact Or.inr (Or.inr rfl)) (hd : (n == ("__debug__" : Str)) = false := by decide) (hcd : (n == ("__classdict__" : Str)) = false := by decide)
    (hb : attributeBase (.Name n np) fld X.env (eval (.Name n np) X.env) = eval (.Name n np) X.env := by rfl) : PE (X.suite p ((p, oe) :: pn)) (.Attribute (.Name n np) fld pos) (tX X.K X.mg a i p cls d (fldX x fld)) := by
  refine ⟨fun pins s σ H Q I ⟨ex, ρ, G, ⟨⟨dd, h1, vs, h2, h3⟩, h4, h5, h6⟩, q⟩ => ?_⟩
  obtain ⟨hx, q1⟩ := PostE.gd q
  refine (pe_xf T.xf (T.noF fld hm) hz hf (pe_var (X := X.suite p ((p, oe) :: pn)) hi hv hd hcd) hb).run pins s σ H Q I ?_
  have hlen : i < σ.length := by
    have e1 : σ.length = X.N.length := I.len
    rw [e1]; exact (List.getElem?_eq_some_iff.mp hi).1
  have e2 := h5 _ (List.getElem?_eq_getElem hlen)
  cases hL : ex.flds.lookup fld with
  | none => rw [hL] at q1; exact q1.elim
  | some z =>
    rw [hL] at q1
    obtain ⟨v, e3, e4⟩ := lookup_zip h3 hL
    refine ⟨.ref p, by rw [List.getElem?_eq_getElem hlen, e2], rfl, ?_, dd, _, v, h1, h2, e3, q1 v G H (Grow.refl (R.sub h6)) e4⟩
    rw [h4, hx]; unfold clOf; rw [T.gC]; rfl
theorem xa_nil : PA (X.suite p ((p, oe) :: pn)) [] (tXA X.K X.mg a i p cls d fun _ => aNil) := pa_nil.imp fun σ H Q ⟨ex, ρ, G, hS, q⟩ => q [] G H (Grow.refl (R.sub hS.2.2.2)) .nil
theorem xa_cons (h : PE (X.suite p ((p, oe) :: pn)) e (tX X.K X.mg a i p cls d f)) (hs : PA (X.suite p ((p, oe) :: pn)) es (tXA X.K X.mg a i p cls d fs)) (hst : starEach (e :: es) X.env = (false, eval e X.env) :: starEach es X.env := by rfl) :
    PA (X.suite p ((p, oe) :: pn)) (e :: es) (tXA X.K X.mg a i p cls d fun ex => aCons (f ex) (fs ex)) :=
  (pa_cons h hs hst).imp fun σ H Q ⟨ex, ρ, G, hS, q⟩ => ⟨ex, ρ, G, hS, (PostE.bind q).imp fun x e1 q1 v G' H' g1 r1 =>
    ⟨ex, ρ, G', hS.grow g1, ((PostE.bind q1).grow g1).imp fun xs e2 q2 vs G2 H2 g2 r2 => q2 (v :: vs) G2 H2 (g1.trans g2) (.cons (Rep.mono g2.g _ _ r1) r2)⟩⟩
theorem x_tup {x1 : Nat} (hs : PA (X.suite p ((p, oe) :: pn)) es (tXA X.K X.mg a i p cls d fs)) : PE (X.suite p ((p, oe) :: pn)) (.Tuple es x1 pos) (tX X.K X.mg a i p cls d fun ex => app tupD (fs ex)) :=
  (pe_tup hs).imp fun σ H Q ⟨ex, ρ, G, hS, q⟩ => ⟨ex, ρ, G, hS, (PostE.bind q).imp fun xs e1 q1 vs G' H' g1 r1 => by
    obtain ⟨hz, q1⟩ := PostE.gd q1
    exact ⟨by rw [r1.len]; exact hz, fun y hp => q1 (.ref y) _ _ (g1.trans (Grow.new g1.s hp)) (.tup (SqT.of upd_same) (Reps.mono (same_new (g1.s.free hp)) _ _ r1))⟩⟩
def xRet (f : Exc → En → Res D) : Exc → En → Out := fun ex ρ => ofR ρ (f ex ρ) fun z => .ret (.sh z)
theorem su_ret (h : PE (X.suite p ((p, oe) :: pn)) e (tX X.K X.mg a i p cls d f)) : PSs (X.suite p ((p, oe) :: pn)) [.Return (some e) pos] (tSu X.K X.mg a i p cls d (xRet f)) :=
  (pss_one (ps_ret h)).imp fun Dn σ H ⟨ex, ρ, G, hS, q⟩ => ⟨ex, ρ, G, hS, (ofR_post (a := aB a) hS.2.2.2 q).imp fun x _ q1 v G' H' g r => q1 v G' H' (hS.2.2.2.gr.trans g) g.g r⟩
end
end PL

set_option maxRecDepth 100000
set_option maxHeartbeats 1000000
namespace PL
open PySem PySem.Spec PyProof.Rows L2

/-! ## lists of one's own, changed -/
def owL (ρ : En) (i : Nat) : Res (List D) := match ρ[i]? with | some (.ow (.lst xs)) => .ok xs | _ => .stuck
theorem owL_eq {ρ : En} {i : Nat} {xs : List D} (h : owL ρ i = .ok xs) : ρ[i]? = some (.ow (.lst xs)) := by
  unfold owL at h
  cases e : ρ[i]? with
  | none => rw [e] at h; cases h
  | some s => cases s with
    | no => rw [e] at h; cases h
    | sh d => rw [e] at h; cases h
    | ow o => cases o with
      | dk k => rw [e] at h; cases h
      | lst ys => rw [e] at h; cases h; rfl
def setL (ρ : En) (i : Nat) (xs : List D) : En := ρ.set i (.ow (.lst xs))
/-- i.append(f) -/
def sApp (i : Nat) (f : En → Res D) : En → Out := fun ρ => ofR ρ (owL ρ i) fun xs => ofR ρ (f ρ) fun d => ofR ρ (gd (xs.length < sizeLine) (.ok ())) fun _ => .next (setL ρ i (xs ++ [d]))
/-- i.pop() as a statement -/
def sPop (i : Nat) : En → Out := fun ρ => ofR ρ (owL ρ i) fun xs => ofR ρ (gd (xs ≠ []) (.ok ())) fun _ => .next (setL ρ i xs.dropLast)
/-- i.pop(f) as a statement -/
def popAt (xs : List D) : D → Res (List D) | .int n => gd (0 ≤ n ∧ n < xs.length ∧ xs.length < 2 ^ 62) (.ok (xs.eraseIdx n.toNat)) | _ => .stuck
def sPopAt (i : Nat) (f : En → Res D) : En → Out := fun ρ => ofR ρ (owL ρ i) fun xs => ofR ρ (f ρ) fun d => ofR ρ (popAt xs d) fun ys => .next (setL ρ i ys)
/-- i.insert(f, g) -/
def insAt (xs : List D) : List D → Res (List D) | [.int n, d] => gd (xs.length < sizeLine ∧ 0 ≤ n ∧ n < 2 ^ 63) (.ok (xs.take n.toNat ++ [d] ++ xs.drop n.toNat)) | _ => .stuck
def sIns (i : Nat) (fs : En → Res (List D)) : En → Out := fun ρ => ofR ρ (owL ρ i) fun xs => ofR ρ (fs ρ) fun ds => ofR ρ (insAt xs ds) fun ys => .next (setL ρ i ys)
/-- i[f] = g -/
def putAt (xs : List D) (d : D) : D → Res (List D) | .int n => (match ixN xs.length n with | some j => .ok (xs.set j d) | none => .stuck) | _ => .stuck
def sPut (i : Nat) (f g : En → Res D) : En → Out := fun ρ => ofR ρ (owL ρ i) fun xs => ofR ρ (g ρ) fun d => ofR ρ (f ρ) fun n => ofR ρ (putAt xs d n) fun ys => .next (setL ρ i ys)
/-- i[f], i a list of one's own -/
def ixO (i : Nat) (f : En → Res D) : En → Res D := fun ρ => (owL ρ i).bind fun xs => (f ρ).bind fun n => match n with
  | .int n => (match atI xs n with | some d => .ok d | none => .stuck)
  | _ => .stuck
mutual
/-- no list in it -/
def scl : D → Bool | .non => true | .bl _ => true | .int _ => true | .str _ => true | .tup xs => sclA xs | _ => false
def sclA : List D → Bool | [] => true | d :: ds => scl d && sclA ds
end
def sclX (e : Exc) : Bool := sclA (e.flds.map (·.2))
/-- a list of one's own is read: the value is a scalar -/
def borE (i : Nat) (f : En → Res D) : En → Res D := fun ρ => match owL ρ i with
  | .ok xs => (match f (ρ.set i (.sh (.lst xs))) with
    | .ok d => gd (scl d = true) (.ok d)
    | .exc e => gd (sclX e = true) (.exc e)
    | .stuck => .stuck)
  | _ => .stuck
def borT (i : Nat) (f : En → Res Bool) : En → Res Bool := fun ρ => match owL ρ i with
  | .ok xs => (match f (ρ.set i (.sh (.lst xs))) with
    | .ok d => .ok d
    | .exc e => gd (sclX e = true) (.exc e)
    | .stuck => .stuck)
  | _ => .stuck
theorem sqt_ne {K : PySem.W.Frag} {G G' : Hp} {l p : Addr} {vs us : List V} (hG : G l = some (.lst vs)) (hs : ∀ b x, b ≠ l → G b = some x → G' b = some x) (h : SqT K G p us) : SqT K G' p us := by
  rcases h with (h | ⟨o, h⟩) | h
  · exact .inl (.inl (hs _ _ (fun z => by rw [z, hG] at h; cases h) h))
  · exact .inl (.inr ⟨o, hs _ _ (fun z => by rw [z, hG] at h; cases h) h⟩)
  · exact .inr h
mutual
theorem scl_rep {K : PySem.W.Frag} {G G' : Hp} {l : Addr} {vs : List V} (hG : G l = some (.lst vs)) (hs : ∀ b x, b ≠ l → G b = some x → G' b = some x) : ∀ (d : D) (v : V), scl d = true → Rep K G v d → Rep K G' v d
  | .non, _, _, .non => .non
  | .bl _, _, _, .bl b => .bl b
  | .int _, _, _, .int b => .int b
  | .str _, _, _, .str b => .str b
  | .tup ds, _, h, .tup s r => .tup (sqt_ne hG hs s) (scl_reps hG hs ds _ h r)
theorem scl_reps {K : PySem.W.Frag} {G G' : Hp} {l : Addr} {vs : List V} (hG : G l = some (.lst vs)) (hs : ∀ b x, b ≠ l → G b = some x → G' b = some x) : ∀ (ds : List D) (us : List V), sclA ds = true → Reps K G us ds → Reps K G' us ds
  | [], _, _, .nil => .nil
  | d :: ds, _, h, .cons r rr => .cons (scl_rep hG hs d _ (Bool.and_eq_true_iff.mp h).1 r) (scl_reps hG hs ds _ (Bool.and_eq_true_iff.mp h).2 rr)
end
/-- all but l -/
def less (G : Hp) (l : Addr) : Hp := fun b => if b = l then none else G b
theorem less_grow {G H G' H' : Hp} {l : Addr} {vs : List V} (sb : Same G H) (hg : G l = none) (g : Grow (upd G l (.lst vs)) H G' H') : Grow G H (less G' l) H' where
  g := fun b x e => by
    have : b ≠ l := fun z => by rw [z, hg] at e; cases e
    show (if b = l then none else G' b) = some x
    rw [if_neg this]
    exact g.g b x (by rw [upd_ne this]; exact e)
  h := g.h
  s := fun b x e => by
    unfold less at e
    split at e
    · cases e
    · exact g.s b x e
  f := fun b h1 h2 => by
    unfold less
    split
    · rfl
    · rename_i z
      exact g.f b (by rw [upd_ne z]; exact h1) h2
theorem less_keep {G' : Hp} {l : Addr} : ∀ b x, b ≠ l → G' b = some x → less G' l b = some x := fun b x h e => by unfold less; rw [if_neg h]; exact e
theorem owL_nox {ρ : En} {i : Nat} {e : Exc} : owL ρ i ≠ .exc e := by unfold owL; split <;> (intro z; cases z)
theorem ow_post {K : PySem.W.Frag} {mg : Str → Option Value} {a : Amb} {Dn : Ends} {G : Hp} {ρ : En} {i : Nat} {k : List D → Out} (h : Post K mg a Dn G (ofR ρ (owL ρ i) k)) : ∃ xs, owL ρ i = .ok xs ∧ Post K mg a Dn G (k xs) := by
  cases e : owL ρ i with
  | ok xs => rw [e] at h; exact ⟨xs, rfl, h⟩
  | exc ex => exact absurd e owL_nox
  | stuck => rw [e] at h; exact h.elim
theorem gd_post {K : PySem.W.Frag} {mg : Str → Option Value} {a : Amb} {Dn : Ends} {G : Hp} {ρ : En} {α : Type} {c : Prop} [Decidable c] {r : Res α} {k : α → Out} (h : Post K mg a Dn G (ofR ρ (gd c r) k)) : c ∧ Post K mg a Dn G (ofR ρ r k) := by
  by_cases hc : c
  · rw [gd_pos hc] at h; exact ⟨hc, h⟩
  · have e : gd c r = .stuck := if_neg hc
    rw [e] at h; exact h.elim
section
variable {X : Cx} {a : Amb} {e b : Expr} {es : List Expr} {f g : En → Res D} {fs : En → Res (List D)} {pos p pos2 apos : Pos} {x : Str} {i : Nat}
theorem s_app (i : Nat) (h : PE X e (tD X.K X.mg a f)) (hN : X.N[i]? = some x := by rfl) (hv : Vis X.env.scope x := by first | exact Or.inl rfl | exact Or.inr (Or.inl rfl) | exact Or.inr (Or.inr rfl)) (hd : (x == ("__debug__" : Str)) = false := by decide) (hcd : (x == ("__classdict__" : Str)) = false := by decide)
    (hsw : swapsWith (.Call (.Attribute (.Name x p) "append" apos) [e] [] pos) none pos2.line X.env = pure false := by rfl)
    (hbase : attributeBase (.Name x p) "append" X.env (eval (.Name x p) X.env) = eval (.Name x p) X.env := by rfl)
    (hfew : ((backTo pos (starEach (e :: []) X.env)).all (fun x => !x.1) && (backToKw pos (keywordEach [] X.env)).all (fun x => x.1.isSome) && decide ((e :: ([] : List Expr)).length + ([] : List Keyword).length + (if ([] : List Keyword).isEmpty then 0 else 1) < 30)) = true := by rfl)
    (hline : (apos.endLine == pos.line) = true := by rfl) (hs : starEach (e :: []) X.env = (false, eval e X.env) :: starEach [] X.env := by rfl) (hplain : (backTo pos (starEach [] X.env)).any (·.1) = false := by rfl) :
    PS X (.Expr (.Call (.Attribute (.Name x p) "append" apos) [e] [] pos) pos2) (tS X.K X.mg a (sApp i f)) :=
  (ps_expr (pe_bm PySem.F.plainAttrs_list PySem.F.slot_list_append PySem.F.type_list_append mt_append (pe_var hN hv hd hcd) (pa_cons h pa_nil hs) hbase hfew hline hs hplain) hsw).imp fun Dn σ H ⟨ρ, G, hR, q⟩ => by
    obtain ⟨xs, hx, q⟩ := ow_post q
    obtain ⟨l, vs, e1, h0, hg, hh, r⟩ := R.owL hR (owL_eq hx)
    refine ⟨.ref l, e1, Or.inl ⟨rfl, vs, SqL.of hh⟩, ρ, G, hR, (ofR_post hR q).imp fun d _ q1 v G' H' gr rd => ?_⟩
    obtain ⟨hz, q1⟩ := gd_post q1
    exact ⟨l, vs, v, rfl, rfl, gr.h _ _ hh, by rw [r.len]; exact hz, q1 σ G' _ (R.write (R.grow hR gr) (owL_eq hx) e1 (.lst ((Reps.mono gr.g _ _ r).app (.cons rd .nil)))) gr.g⟩
theorem s_ins (i : Nat) (h : PA X (e :: es) (tA X.K X.mg a fs)) (hN : X.N[i]? = some x := by rfl) (hv : Vis X.env.scope x := by first | exact Or.inl rfl | exact Or.inr (Or.inl rfl) | exact Or.inr (Or.inr rfl)) (hd : (x == ("__debug__" : Str)) = false := by decide) (hcd : (x == ("__classdict__" : Str)) = false := by decide)
    (hsw : swapsWith (.Call (.Attribute (.Name x p) "insert" apos) (e :: es) [] pos) none pos2.line X.env = pure false := by rfl)
    (hbase : attributeBase (.Name x p) "insert" X.env (eval (.Name x p) X.env) = eval (.Name x p) X.env := by rfl)
    (hfew : ((backTo pos (starEach (e :: es) X.env)).all (fun x => !x.1) && (backToKw pos (keywordEach [] X.env)).all (fun x => x.1.isSome) && decide ((e :: es).length + ([] : List Keyword).length + (if ([] : List Keyword).isEmpty then 0 else 1) < 30)) = true := by rfl)
    (hline : (apos.endLine == pos.line) = true := by rfl) (hs : starEach (e :: es) X.env = (false, eval e X.env) :: starEach es X.env := by rfl) (hplain : (backTo pos (starEach es X.env)).any (·.1) = false := by rfl) :
    PS X (.Expr (.Call (.Attribute (.Name x p) "insert" apos) (e :: es) [] pos) pos2) (tS X.K X.mg a (sIns i fs)) :=
  (ps_expr (pe_bm PySem.F.plainAttrs_list PySem.F.slot_list_insert PySem.F.type_list_insert mt_insert (pe_var hN hv hd hcd) h hbase hfew hline hs hplain) hsw).imp fun Dn σ H ⟨ρ, G, hR, q⟩ => by
    obtain ⟨xs, hx, q⟩ := ow_post q
    obtain ⟨l, vs, e1, h0, hg, hh, r⟩ := R.owL hR (owL_eq hx)
    refine ⟨.ref l, e1, Or.inl ⟨rfl, vs, SqL.of hh⟩, ρ, G, hR, (ofR_post hR q).imp fun ds _ q1 us G' H' gr rd => ?_⟩
    unfold insAt at q1
    split at q1
    · obtain ⟨v, u, rfl, r1, r2⟩ := reps2 rd
      obtain ⟨⟨hz, h1, h2⟩, q1⟩ := gd_post q1
      cases r1
      have rr := Reps.mono gr.g _ _ r
      exact ⟨l, vs, _, u, rfl, rfl, gr.h _ _ hh, by rw [r.len]; exact hz, h1, h2, q1 σ G' _ (R.write (R.grow hR gr) (owL_eq hx) e1 (.lst (((rr.take _).app (.cons r2 .nil)).app (rr.drop _)))) gr.g⟩
    · exact q1.elim
theorem s_pop (i : Nat) (hN : X.N[i]? = some x := by rfl) (hv : Vis X.env.scope x := by first | exact Or.inl rfl | exact Or.inr (Or.inl rfl) | exact Or.inr (Or.inr rfl)) (hd : (x == ("__debug__" : Str)) = false := by decide) (hcd : (x == ("__classdict__" : Str)) = false := by decide)
    (hsw : swapsWith (.Call (.Attribute (.Name x p) "pop" apos) [] [] pos) none pos2.line X.env = pure false := by rfl)
    (hbase : attributeBase (.Name x p) "pop" X.env (eval (.Name x p) X.env) = eval (.Name x p) X.env := by rfl) (hline : (apos.endLine == pos.line) = true := by rfl) :
    PS X (.Expr (.Call (.Attribute (.Name x p) "pop" apos) [] [] pos) pos2) (tS X.K X.mg a (sPop i)) :=
  (ps_expr (pe_bm0 PySem.F.plainAttrs_list PySem.F.slot_list_pop PySem.F.type_list_pop mt_pop (pe_var hN hv hd hcd) hbase hline) hsw).imp fun Dn σ H ⟨ρ, G, hR, q⟩ => by
    obtain ⟨xs, hx, q⟩ := ow_post q
    obtain ⟨l, vs, e1, h0, hg, hh, r⟩ := R.owL hR (owL_eq hx)
    obtain ⟨hz, q⟩ := gd_post q
    have hl : vs.length - 1 < vs.length := by
      have : 0 < xs.length := by cases xs with | nil => exact absurd rfl hz | cons _ _ => simp
      rw [r.len]; omega
    have rd : Reps X.K G vs.dropLast xs.dropLast := by
      rw [List.dropLast_eq_take, List.dropLast_eq_take, r.len]; exact r.take _
    exact ⟨.ref l, e1, Or.inl ⟨rfl, vs, SqL.of hh⟩, l, vs, _, rfl, rfl, hh, List.getElem?_eq_getElem hl, q σ G _ (R.write hR (owL_eq hx) e1 (.lst rd)) (Same.refl _)⟩
theorem reps_erase {K : PySem.W.Frag} {G : Hp} : ∀ {ds : List D} {vs : List V} (n : Nat), Reps K G vs ds → Reps K G (vs.eraseIdx n) (ds.eraseIdx n)
  | [], _, n, .nil => by simpa using Reps.nil
  | d :: ds, _, 0, .cons h r => r
  | d :: ds, _, n + 1, .cons h r => .cons h (reps_erase n r)
theorem s_popAt (i : Nat) (h : PE X e (tD X.K X.mg a f)) (hN : X.N[i]? = some x := by rfl) (hv : Vis X.env.scope x := by first | exact Or.inl rfl | exact Or.inr (Or.inl rfl) | exact Or.inr (Or.inr rfl)) (hd : (x == ("__debug__" : Str)) = false := by decide) (hcd : (x == ("__classdict__" : Str)) = false := by decide)
    (hsw : swapsWith (.Call (.Attribute (.Name x p) "pop" apos) [e] [] pos) none pos2.line X.env = pure false := by rfl)
    (hbase : attributeBase (.Name x p) "pop" X.env (eval (.Name x p) X.env) = eval (.Name x p) X.env := by rfl)
    (hfew : ((backTo pos (starEach (e :: []) X.env)).all (fun x => !x.1) && (backToKw pos (keywordEach [] X.env)).all (fun x => x.1.isSome) && decide ((e :: ([] : List Expr)).length + ([] : List Keyword).length + (if ([] : List Keyword).isEmpty then 0 else 1) < 30)) = true := by rfl)
    (hline : (apos.endLine == pos.line) = true := by rfl) (hs : starEach (e :: []) X.env = (false, eval e X.env) :: starEach [] X.env := by rfl) (hplain : (backTo pos (starEach [] X.env)).any (·.1) = false := by rfl) :
    PS X (.Expr (.Call (.Attribute (.Name x p) "pop" apos) [e] [] pos) pos2) (tS X.K X.mg a (sPopAt i f)) :=
  (ps_expr (pe_bm PySem.F.plainAttrs_list PySem.F.slot_list_pop PySem.F.type_list_pop mt_popAt (pe_var hN hv hd hcd) (pa_cons h pa_nil hs) hbase hfew hline hs hplain) hsw).imp fun Dn σ H ⟨ρ, G, hR, q⟩ => by
    obtain ⟨xs, hx, q⟩ := ow_post q
    obtain ⟨l, vs, e1, h0, hg, hh, r⟩ := R.owL hR (owL_eq hx)
    refine ⟨.ref l, e1, Or.inl ⟨rfl, vs, SqL.of hh⟩, ρ, G, hR, (ofR_post hR q).imp fun d _ q1 v G' H' gr rd => ?_⟩
    unfold popAt at q1
    cases rd with
    | int n =>
      obtain ⟨⟨h1, h2, h3⟩, q1⟩ := gd_post q1
      have hn : n.toNat < vs.length := by rw [r.len]; omega
      have e2 : seqIndex? n vs.length = some n.toNat := PySem.StrLaws.seqIndex_nonneg h1 (by rw [r.len]; exact h2)
      exact ⟨l, vs, n, n.toNat, _, rfl, rfl, gr.h _ _ hh, by omega, by omega, e2, List.getElem?_eq_getElem hn, q1 σ G' _ (R.write (R.grow hR gr) (owL_eq hx) e1 (.lst (reps_erase _ (Reps.mono gr.g _ _ r)))) gr.g⟩
    | _ => exact q1.elim
theorem s_put (i : Nat) (hf : PE X b (tD X.K X.mg a f)) (hg : PE X e (tD X.K X.mg a g)) (hN : X.N[i]? = some x := by rfl) (hv : Vis X.env.scope x := by first | exact Or.inl rfl | exact Or.inr (Or.inl rfl) | exact Or.inr (Or.inr rfl)) (hd : (x == ("__debug__" : Str)) = false := by decide) (hcd : (x == ("__classdict__" : Str)) = false := by decide)
    (hs : swapsWithSole [.Subscript (.Name x p) b pos] e pos2.line X.env = pure false := by rfl) (hw : swappedStores [.Subscript (.Name x p) b pos] e X.env = pure none := by rfl)
    (h1 : (assignEach [.Subscript (.Name x p) b pos] X.env).map (·.2) = [assign (.Subscript (.Name x p) b pos) X.env] := by rfl)
    (ha : ∀ v, assign (.Subscript (.Name x p) b pos) X.env v = (do let ov ← holding [v] (eval (.Name x p) X.env); let iv ← holding [v, ov] (eval b X.env); standAt pos; holding [v, ov, iv] (setItem ov iv v); release [v, ov, iv] []) := by intro _; rfl) :
    PS X (.Assign [.Subscript (.Name x p) b pos] e pos2) (tS X.K X.mg a (sPut i f g)) :=
  (ps_asg hg (pg_sub (pe_var hN hv hd hcd) hf set_list ha) hs hw h1).imp fun Dn σ H ⟨ρ, G, hR, q⟩ => by
    obtain ⟨xs, hx, q⟩ := ow_post q
    refine ⟨ρ, G, hR, (ofR_post hR q).imp fun d _ q1 v G1 H1 g1 r1 => ?_⟩
    have hR1 := R.grow hR g1
    obtain ⟨l, vs, e1, h0, hg, hh, r⟩ := R.owL hR1 (owL_eq hx)
    refine ⟨.ref l, e1, ρ, G1, hR1, (ofR_post (a := a) hR1 (Post.mono g1.g q1)).imp fun n _ q2 u G2 H2 g2 r2 => ?_⟩
    unfold putAt at q2
    cases r2 with
    | int n =>
      cases hj : ixN xs.length n with
      | none => simp only [hj] at q2; exact q2.elim
      | some j =>
        simp only [hj] at q2
        exact ⟨l, vs, n, j, rfl, rfl, g2.h _ _ hh, by rw [r.len]; exact hj, q2 σ G2 _ (R.write (R.grow hR1 g2) (owL_eq hx) e1 (.lst (Reps.set (Rep.mono g2.g _ _ r1) _ (Reps.mono g2.g _ _ r)))) g2.g⟩
    | _ => exact q2.elim
theorem d_ixO (i : Nat) (hf : PE X b (tD X.K X.mg a f)) (hp : PlainIx b) (hN : X.N[i]? = some x := by rfl) (hv : Vis X.env.scope x := by first | exact Or.inl rfl | exact Or.inr (Or.inl rfl) | exact Or.inr (Or.inr rfl)) (hd : (x == ("__debug__" : Str)) = false := by decide) (hcd : (x == ("__classdict__" : Str)) = false := by decide) :
    PE X (.Subscript (.Name x p) b pos) (tD X.K X.mg a (ixO i f)) :=
  (pe_ix ix_list (pe_var hN hv hd hcd) hf hp).imp fun σ H Q ⟨ρ, G, hR, q⟩ => by
    unfold ixO at q
    cases hx : owL ρ i with
    | exc ex => exact absurd hx owL_nox
    | stuck => rw [hx] at q; exact q.elim
    | ok xs =>
      rw [hx] at q
      obtain ⟨l, vs, e1, h0, hg, hh, r⟩ := R.owL hR (owL_eq hx)
      refine ⟨.ref l, e1, ρ, G, hR, (PostE.bind (r := f ρ) q).imp fun n _ q1 v G' H' g1 r1 => ?_⟩
      cases r1 with
      | int n =>
        cases hj : atI xs n with
        | none => simp only [hj] at q1; exact q1.elim
        | some d =>
          simp only [hj] at q1
          obtain ⟨u, e2, r2⟩ := (Reps.mono g1.g _ _ r).atI hj
          exact ⟨l, vs, n, u, rfl, rfl, SqL.of (g1.h _ _ hh), e2, q1 u G' H' g1 r2⟩
      | _ => exact q1.elim
theorem bor_wn {σ : L2.St} {G H : Hp} {l : Addr} {vs : List V} {ex : Exc} (s : Same G H) (hg : G l = none) (hs : sclX ex = true) (w : Wn X.K X.mg a σ G H ex) : Wn X.K X.mg a σ (upd G l (.lst vs)) H ex := fun d G' H' g' xr => by
  refine w d _ H' (less_grow s hg g') ?_
  obtain ⟨us, h1, h2⟩ := xr
  exact ⟨us, h1, scl_reps (g'.g _ _ upd_same) less_keep _ _ hs h2⟩
theorem d_bor (i : Nat) (h : PE X e (tD X.K X.mg a f)) : PE X e (tD X.K X.mg a (borE i f)) :=
  h.imp fun σ H Q ⟨ρ, G, hR, q⟩ => by
    unfold borE at q
    cases hx : owL ρ i with
    | exc ex => exact absurd hx owL_nox
    | stuck => rw [hx] at q; exact q.elim
    | ok xs =>
      simp only [hx] at q
      obtain ⟨l, vs, e1, hg, hh, r, sg, hR'⟩ := R.frz hR (owL_eq hx)
      refine ⟨ρ.set i (.sh (.lst xs)), _, hR', ?_⟩
      cases hf : f (ρ.set i (.sh (.lst xs))) with
      | stuck => simp only [hf] at q; exact q.elim
      | exc ex =>
        simp only [hf] at q
        obtain ⟨h1, q⟩ := PostE.gd q
        exact bor_wn (R.sub hR) hg h1 q
      | ok d =>
        simp only [hf] at q
        obtain ⟨h1, q⟩ := PostE.gd q
        exact fun v G' H' g' r' => q v _ H' (less_grow (R.sub hR) hg g') (scl_rep (g'.g _ _ upd_same) less_keep _ _ h1 r')
theorem t_bor {t : En → Res Bool} (i : Nat) (h : PT X e (tT X.K X.mg a t)) : PT X e (tT X.K X.mg a (borT i t)) :=
  h.imp fun σ H Q ⟨ρ, G, hR, q⟩ => by
    unfold borT at q
    cases hx : owL ρ i with
    | exc ex => exact absurd hx owL_nox
    | stuck => rw [hx] at q; exact q.elim
    | ok xs =>
      simp only [hx] at q
      obtain ⟨l, vs, e1, hg, hh, r, sg, hR'⟩ := R.frz hR (owL_eq hx)
      refine ⟨ρ.set i (.sh (.lst xs)), _, hR', ?_⟩
      cases hf : t (ρ.set i (.sh (.lst xs))) with
      | stuck => simp only [hf] at q; exact q.elim
      | exc ex =>
        simp only [hf] at q
        obtain ⟨h1, q⟩ := PostE.gd q
        exact bor_wn (R.sub hR) hg h1 q
      | ok d =>
        simp only [hf] at q
        exact fun G' H' g' => q G H' ⟨Same.refl _, g'.h, (R.sub hR).trans g'.h, fun _ h _ => h⟩
/-- .. a new list made while a list of one's own is read -/
def borO (i : Nat) (f : En → Res (List D)) : En → Res (List D) := fun ρ => match owL ρ i with
  | .ok xs => (match f (ρ.set i (.sh (.lst xs))) with
    | .ok ds => gd (sclA ds = true) (.ok ds)
    | .exc e => gd (sclX e = true) (.exc e)
    | .stuck => .stuck)
  | _ => .stuck
theorem o_bor {fo : En → Res (List D)} (i : Nat) (h : PE X e (tO X.K X.mg a fo)) : PE X e (tO X.K X.mg a (borO i fo)) :=
  h.imp fun σ H Q ⟨ρ, G, hR, q⟩ => by
    unfold borO at q
    cases hx : owL ρ i with
    | exc ex => exact absurd hx owL_nox
    | stuck => rw [hx] at q; exact q.elim
    | ok xs =>
      simp only [hx] at q
      obtain ⟨l, vs, e1, hg, hh, r, sg, hR'⟩ := R.frz hR (owL_eq hx)
      refine ⟨ρ.set i (.sh (.lst xs)), _, hR', ?_⟩
      cases hf : fo (ρ.set i (.sh (.lst xs))) with
      | stuck => simp only [hf] at q; exact q.elim
      | exc ex =>
        simp only [hf] at q
        obtain ⟨h1, q⟩ := PostE.gd q
        exact bor_wn (R.sub hR) hg h1 q
      | ok d =>
        simp only [hf] at q
        obtain ⟨h1, q⟩ := PostE.gd q
        exact fun l2 us G' H' g' n1 n2 e2 r' => q l2 us _ H' (less_grow (R.sub hR) hg g') n1 (by unfold less; rw [n2, ite_self]) e2 (scl_reps (g'.g _ _ upd_same) less_keep _ _ h1 r')
end
end PL

set_option maxRecDepth 100000
set_option maxHeartbeats 1000000
namespace PL
open PySem PySem.Spec PyProof.Rows L2

/-! ## dicts of one's own, keys ints and texts -/
def keyOf : D → Res Key | .int i => .ok (.inl i) | .str s => .ok (.inr s) | _ => .stuck
def valD (kvs : List (Key × D)) (k : Key) : Option D := (kvs.find? fun kv => decide (kv.1 = k)).map (·.2)
def putD (kvs : List (Key × D)) (k : Key) (d : D) : List (Key × D) := if kvs.any (fun kv => decide (kv.1 = k)) then kvs.map fun kv => if kv.1 = k then (kv.1, d) else kv else kvs ++ [(k, d)]
def owK (ρ : En) (i : Nat) : Res (List (Key × D)) := match ρ[i]? with | some (.ow (.dk xs)) => .ok xs | _ => .stuck
theorem owK_eq {ρ : En} {i : Nat} {xs : List (Key × D)} (h : owK ρ i = .ok xs) : ρ[i]? = some (.ow (.dk xs)) := by
  unfold owK at h
  cases e : ρ[i]? with
  | none => rw [e] at h; cases h
  | some s => cases s with
    | no => rw [e] at h; cases h
    | sh d => rw [e] at h; cases h
    | ow o => cases o with
      | lst k => rw [e] at h; cases h
      | dk ys => rw [e] at h; cases h; rfl
theorem owK_nox {ρ : En} {i : Nat} {e : Exc} : owK ρ i ≠ .exc e := by unfold owK; split <;> (intro z; cases z)
theorem owK_post {K : PySem.W.Frag} {mg : Str → Option Value} {a : Amb} {Dn : Ends} {G : Hp} {ρ : En} {i : Nat} {k : List (Key × D) → Out} (h : Post K mg a Dn G (ofR ρ (owK ρ i) k)) : ∃ xs, owK ρ i = .ok xs ∧ Post K mg a Dn G (k xs) := by
  cases e : owK ρ i with
  | ok xs => rw [e] at h; exact ⟨xs, rfl, h⟩
  | exc ex => exact absurd e owK_nox
  | stuck => rw [e] at h; exact h.elim
theorem kreps_val {K : PySem.W.Frag} {G : Hp} {k : Key} : ∀ {kvs : List (Key × V)} {kds : List (Key × D)}, KReps K G kvs kds → (valV kvs k = none ∧ valD kds k = none) ∨ ∃ v d, valV kvs k = some v ∧ valD kds k = some d ∧ Rep K G v d
  | _, _, .nil => .inl ⟨rfl, rfl⟩
  | (k0, v) :: r, (_, d) :: ds, .cons h t => by
    by_cases e : k0 = k
    · exact .inr ⟨v, d, by simp [valV, e], by simp [valD, e], h⟩
    · have e1 : valV ((k0, v) :: r) k = valV r k := by simp [valV, List.find?_cons, e]
      have e2 : valD ((k0, d) :: ds) k = valD ds k := by simp [valD, List.find?_cons, e]
      rw [e1, e2]
      exact kreps_val t
theorem kreps_any {K : PySem.W.Frag} {G : Hp} {k : Key} : ∀ {kvs : List (Key × V)} {kds : List (Key × D)}, KReps K G kvs kds → (kvs.any fun kv => decide (kv.1 = k)) = kds.any fun kv => decide (kv.1 = k)
  | _, _, .nil => rfl
  | (k0, v) :: r, (_, d) :: ds, .cons h t => by simp only [List.any_cons, kreps_any t]
theorem kreps_len {K : PySem.W.Frag} {G : Hp} : ∀ {kvs : List (Key × V)} {kds : List (Key × D)}, KReps K G kvs kds → kvs.length = kds.length
  | _, _, .nil => rfl
  | (k0, v) :: r, (_, d) :: ds, .cons h t => by simp [kreps_len t]
theorem kreps_map {K : PySem.W.Frag} {G : Hp} {k : Key} {v0 : V} {d0 : D} (q : Rep K G v0 d0) : ∀ {kvs : List (Key × V)} {kds : List (Key × D)}, KReps K G kvs kds → KReps K G (kvs.map fun kv => if kv.1 = k then (kv.1, v0) else kv) (kds.map fun kv => if kv.1 = k then (kv.1, d0) else kv)
  | _, _, .nil => .nil
  | (k0, v) :: r, (_, d) :: ds, .cons h t => by
    simp only [List.map_cons]
    by_cases e : k0 = k
    · rw [if_pos e, if_pos e]; exact .cons q (kreps_map q t)
    · rw [if_neg e, if_neg e]; exact .cons h (kreps_map q t)
theorem kreps_snoc {K : PySem.W.Frag} {G : Hp} {k : Key} {v0 : V} {d0 : D} (q : Rep K G v0 d0) : ∀ {kvs : List (Key × V)} {kds : List (Key × D)}, KReps K G kvs kds → KReps K G (kvs ++ [(k, v0)]) (kds ++ [(k, d0)])
  | _, _, .nil => .cons q .nil
  | (k0, v) :: r, (_, d) :: ds, .cons h t => .cons h (kreps_snoc q t)
theorem kreps_put {K : PySem.W.Frag} {G : Hp} {k : Key} {v0 : V} {d0 : D} (q : Rep K G v0 d0) {kvs : List (Key × V)} {kds : List (Key × D)} (r : KReps K G kvs kds) : KReps K G (putK kvs k v0) (putD kds k d0) := by
  unfold putK putD
  rw [kreps_any r]
  split
  · exact kreps_map q r
  · exact kreps_snoc q r
/-- i = {} -/
def sNewK (i : Nat) : En → Out := fun ρ => .next (ρ.set i (.ow (.dk [])))
/-- i[f] = g -/
def sPutK (i : Nat) (f g : En → Res D) : En → Out := fun ρ => ofR ρ (owK ρ i) fun kvs => ofR ρ (g ρ) fun d => ofR ρ (f ρ) fun n => ofR ρ (keyOf n) fun k => ofR ρ (gd (kvs.length < sizeLine) (.ok ())) fun _ => .next (ρ.set i (.ow (.dk (putD kvs k d))))
/-- i[f], found -/
def getK (i : Nat) (f : En → Res D) : En → Res D := fun ρ => (owK ρ i).bind fun kvs => (f ρ).bind fun n => (keyOf n).bind fun k => match valD kvs k with | some d => .ok d | none => .stuck
/-- f in i -/
def inK (i : Nat) (f : En → Res D) : En → Res D := fun ρ => (owK ρ i).bind fun kvs => (f ρ).bind fun n => (keyOf n).bind fun k => .ok (.bl (valD kvs k).isSome)
theorem keyOf_rep {K : PySem.W.Frag} {G : Hp} {v : V} {d : D} {k : Key} (r : Rep K G v d) (h : keyOf d = .ok k) : v = kV k := by
  cases r <;> first | (cases h; rfl) | cases h
section
variable {X : Cx} {a : Amb} {e b : Expr} {es : List Expr} {f g : En → Res D} {fs : En → Res (List D)} {pos p pos2 apos : Pos} {x : Str} {i k : Nat}
theorem s_newK (i : Nat) (hnd : X.N.Nodup) (hN : X.N[i]? = some x := by rfl) (hx : Loc X.env.scope x := by first | exact Or.inl rfl | exact Or.inr rfl) (hfn : X.fn x = true ∨ X.env.scope.names.lookup x = some .local := by first | exact .inl rfl | exact .inr rfl)
    (hs : swapsWith (.Dict [] [] pos) (some (.Name x p)) pos2.line X.env = pure false := by rfl) : PS X (.Assign [.Name x p] (.Dict [] [] pos) pos2) (tS X.K X.mg a (sNewK i)) :=
  (ps_set hnd hN hx pe_dnewK hs hfn).imp fun Dn σ H ⟨ρ, G, hR, q⟩ => fun y hy => q _ G _ (R.setNew hR i (Grow.own (R.sub hR) hy) hy ((R.sub hR).free hy) upd_same (.dk .nil)) (Same.refl _)
theorem s_putK (i : Nat) (ge : GE k X a) (hf : PE X b (tD X.K X.mg a f)) (hg : PE X e (tD X.K X.mg a g)) (hN : X.N[i]? = some x := by rfl) (hv : Vis X.env.scope x := by first | exact Or.inl rfl | exact Or.inr (Or.inl rfl) | exact Or.inr (Or.inr rfl)) (hd : (x == ("__debug__" : Str)) = false := by decide) (hcd : (x == ("__classdict__" : Str)) = false := by decide)
    (hs : swapsWith e (some (.Subscript (.Name x p) b pos)) pos2.line X.env = pure false := by rfl) : PS X (.Assign [.Subscript (.Name x p) b pos] e pos2) (tS X.K X.mg a (sPutK i f g)) :=
  (ps_dput (hu_of ge.hr) (pe_var hN hv hd hcd) hf hg hs).imp fun Dn σ H ⟨ρ, G, hR, q⟩ => by
    obtain ⟨xs, hx, q⟩ := owK_post q
    refine ⟨ρ, G, hR, (ofR_post hR q).imp fun d _ q1 v G1 H1 g1 r1 => ?_⟩
    have hR1 := R.grow hR g1
    obtain ⟨l, vs, e1, h0, hg, hh, r⟩ := R.owK hR1 (owK_eq hx)
    refine ⟨.ref l, e1, ρ, G1, hR1, (ofR_post (a := a) hR1 (Post.mono g1.g q1)).imp fun n _ q2 u G2 H2 g2 r2 => ?_⟩
    cases hk : keyOf n with
    | stuck => rw [hk] at q2; exact q2.elim
    | exc ex => cases n <;> cases hk
    | ok ky =>
      rw [hk] at q2
      obtain ⟨hz, q2⟩ := gd_post q2
      rw [keyOf_rep r2 hk]
      have rr := KReps.mono g2.g r
      exact ⟨l, _, rfl, DPut.k (k := ky) (g2.h _ _ hh) (by rw [kreps_len rr]; exact hz), q2 σ G2 _ (R.write (R.grow hR1 g2) (owK_eq hx) e1 (.dk (kreps_put (Rep.mono g2.g _ _ r1) rr))) g2.g⟩
theorem d_getK (i : Nat) (ge : GE k X a) (hf : PE X b (tD X.K X.mg a f)) (hp : NoSl b) (hN : X.N[i]? = some x := by rfl) (hv : Vis X.env.scope x := by first | exact Or.inl rfl | exact Or.inr (Or.inl rfl) | exact Or.inr (Or.inr rfl)) (hd : (x == ("__debug__" : Str)) = false := by decide) (hcd : (x == ("__classdict__" : Str)) = false := by decide) :
    PE X (.Subscript (.Name x p) b pos) (tD X.K X.mg a (getK i f)) :=
  (pe_dget (hu_of ge.hr) (pe_var hN hv hd hcd) hf hp).imp fun σ H Q ⟨ρ, G, hR, q⟩ => by
    unfold getK at q
    cases hx : owK ρ i with
    | exc ex => exact absurd hx owK_nox
    | stuck => rw [hx] at q; exact q.elim
    | ok xs =>
      rw [hx] at q
      obtain ⟨l, vs, e1, h0, hg, hh, r⟩ := R.owK hR (owK_eq hx)
      refine ⟨.ref l, e1, ρ, G, hR, (PostE.bind (r := f ρ) q).imp fun n _ q1 v G' H' g1 r1 => ?_⟩
      cases hk : keyOf n with
      | stuck => rw [hk] at q1; exact q1.elim
      | exc ex => cases n <;> cases hk
      | ok ky =>
        rw [hk] at q1
        rcases kreps_val (k := ky) (KReps.mono g1.g r) with ⟨a1, a2⟩ | ⟨w, d, a1, a2, a3⟩
        · simp only [Res.bind, a2] at q1; exact q1.elim
        · simp only [Res.bind, a2] at q1
          rw [keyOf_rep r1 hk]
          exact ⟨l, w, rfl, by rw [← a1]; exact DGet.k (g1.h _ _ hh), q1 w G' H' g1 a3⟩
end

/-! ## a module's constants -/
section
variable {X : Cx} {a : Amb} {pos : Pos} {x : Str}
theorem d_gint {i : Int} (h : ∃ t, X.mg x = some (.int i t)) (hg : Gl X x := by rfl) (hd : (x == ("__debug__" : Str)) = false := by decide) : PE X (.Name x pos) (tD X.K X.mg a (eC (.int i))) := by
  obtain ⟨t, h⟩ := h
  exact d_glob (v := .int i) h ⟨t, rfl⟩ (fun _ => .int i) hg hd
theorem d_gstr {z : Str} (h : ∃ t, X.mg x = some (.str z t)) (hg : Gl X x := by rfl) (hd : (x == ("__debug__" : Str)) = false := by decide) : PE X (.Name x pos) (tD X.K X.mg a (eC (.str z))) := by
  obtain ⟨t, h⟩ := h
  exact d_glob (v := .str z) h ⟨t, rfl⟩ (fun _ => .str z) hg hd
theorem d_gref {d : D} (h : ∃ p, X.mg x = some (.ref p) ∧ ∀ G, Rep X.K G (.ref p) d) (hg : Gl X x := by rfl) (hd : (x == ("__debug__" : Str)) = false := by decide) : PE X (.Name x pos) (tD X.K X.mg a (eC d)) := by
  obtain ⟨p, h, q⟩ := h
  exact d_glob (v := .ref p) h rfl q hg hd
end

/-! ## new lists by operators and slices -/
def catO : D → D → Res (List D) | .lst a, .lst b => gd (a.length + b.length ≤ sizeLine) (.ok (a ++ b)) | _, _ => .stuck
def repO : D → D → Res (List D) | .lst a, .int b => gd (-(2 ^ 63) ≤ b ∧ b < 2 ^ 63 ∧ a.length * b.toNat ≤ sizeLine) (.ok (List.replicate b.toNat a).flatten) | _, _ => .stuck
def binO (o : D → D → Res (List D)) (f g : En → Res D) : En → Res (List D) := fun ρ => (f ρ).bind fun x => (g ρ).bind fun y => o x y
def cutO : D → Option Int → Option Int → Res (List D) | .lst xs, lo, hi => .ok (cutG xs lo hi) | _, _, _ => .stuck
def sliceO (f : En → Res D) (l h : En → Res (Option Int)) : En → Res (List D) := fun ρ => (f ρ).bind fun x => (l ρ).bind fun lo => (h ρ).bind fun hi => cutO x lo hi
section
variable {X : Cx} {a : Amb} {e b : Expr} {f g : En → Res D} {pos : Pos}
theorem o_cat (hf : PE X e (tD X.K X.mg a f)) (hg : PE X b (tD X.K X.mg a g)) : PE X (.BinOp e .Add b pos) (tO X.K X.mg a (binO catO f g)) :=
  (pe_op op_cat hf hg).imp fun σ H Q ⟨ρ, G, hR, q⟩ => ⟨ρ, G, hR, (PostE.bind q).imp fun x _ q1 v1 G1 H1 g1 r1 => ⟨ρ, G1, R.grow hR g1, ((PostE.bind q1).grow g1).imp fun y _ q2 v2 G2 H2 g2 r2 => by
    have r1' := Rep.mono g2.g _ _ r1
    cases r1' with
    | @lst p vs ds h1 s1 => cases r2 with
      | @lst p2 us es h2 s2 =>
        obtain ⟨hz, q3⟩ := PostE.gd q2
        exact ⟨p, p2, vs, us, rfl, rfl, g2.s _ _ h1, g2.s _ _ h2, by rw [s1.len, s2.len]; exact hz, fun l hl => q3 l _ G2 _ ((g1.trans g2).trans (Grow.own g2.s hl)) ((g1.trans g2).h.free hl) (g2.s.free hl) upd_same (s1.app s2)⟩
      | _ => exact q2.elim
    | _ => cases r2 <;> exact q2.elim⟩⟩
theorem o_rep (hf : PE X e (tD X.K X.mg a f)) (hg : PE X b (tD X.K X.mg a g)) : PE X (.BinOp e .Mult b pos) (tO X.K X.mg a (binO repO f g)) :=
  (pe_op op_rep hf hg).imp fun σ H Q ⟨ρ, G, hR, q⟩ => ⟨ρ, G, hR, (PostE.bind q).imp fun x _ q1 v1 G1 H1 g1 r1 => ⟨ρ, G1, R.grow hR g1, ((PostE.bind q1).grow g1).imp fun y _ q2 v2 G2 H2 g2 r2 => by
    have r1' := Rep.mono g2.g _ _ r1
    cases r1' with
    | @lst p vs ds h1 s1 => cases r2 with
      | int n =>
        obtain ⟨⟨b1, b2, b3⟩, q3⟩ := PostE.gd q2
        exact ⟨p, n, vs, rfl, rfl, g2.s _ _ h1, b1, b2, by rw [s1.len]; exact b3, fun l hl => q3 l _ G2 _ ((g1.trans g2).trans (Grow.own g2.s hl)) ((g1.trans g2).h.free hl) (g2.s.free hl) upd_same (s1.rep _)⟩
      | _ => exact q2.elim
    | _ => cases r2 <;> exact q2.elim⟩⟩
theorem o_slice {lo hi : Option Expr} {l u : En → Res (Option Int)} {p2 : Pos} (hf : PE X e (tD X.K X.mg a f)) (hl : PO X lo (tP X.K X.mg a l)) (hu : PO X hi (tP X.K X.mg a u)) : PE X (.Subscript e (.Slice lo hi none p2) pos) (tO X.K X.mg a (sliceO f l u)) :=
  (pe_slice sl_list hf hl hu).imp fun σ H Q ⟨ρ, G, hR, q⟩ =>
    ⟨ρ, G, hR, (PostE.bind q).imp fun x _ q1 v G1 H1 g1 r1 => ⟨ρ, G1, R.grow hR g1, ((PostE.bind q1).grow g1).imp fun lo' _ q2 G2 H2 g2 =>
      ⟨ρ, G2, R.grow (R.grow hR g1) g2, ((PostE.bind q2).grow (g1.trans g2)).imp fun hi' _ q3 G3 H3 g3 => by
        have r3 := Rep.mono (g2.g.trans g3.g) _ _ r1
        have gg := (g1.trans g2).trans g3
        cases r3 with
        | @lst p vs ds h1 r => exact ⟨p, vs, rfl, SqL.of (g3.s _ _ h1), fun l' hl' => q3 l' _ _ _ (gg.trans (Grow.own g3.s hl')) (gg.h.free hl') (g3.s.free hl') upd_same (r.cut lo' hi')⟩
        | _ => exact q3.elim⟩⟩⟩
end
/-- what is never come to -/
def sNever : En → Out := fun _ => .stuck
theorem s_never {X : Cx} {a : Amb} {sts : List Stmt} : PSs X sts (tS X.K X.mg a sNever) := pss_never.imp fun Dn σ H ⟨ρ, G, hR, q⟩ => q.elim

/-! ## n op= e, ints -/
def sAug (i : Nat) (o : Int → Int → Int) (f : En → Res D) : En → Out := fun ρ => match ρ[i]? with
  | some (.sh (.int n)) => ofR ρ (f ρ) fun d => (match d with | .int m => .next (ρ.set i (.sh (.int (o n m)))) | _ => .stuck)
  | _ => .stuck
section
variable {X : Cx} {a : Amb} {e : Expr} {f : En → Res D} {pos p : Pos} {x : Str}
theorem s_aug {op : Operator} {o : Int → Int → Int} (ho : PIp X op (ipI o)) (i : Nat) (hnd : X.N.Nodup) (hf : PE X e (tD X.K X.mg a f)) (hN : X.N[i]? = some x := by rfl) (hx : Loc X.env.scope x := by first | exact Or.inl rfl | exact Or.inr rfl)
    (hfn : X.fn x = true ∨ X.env.scope.names.lookup x = some .local := by first | exact .inl rfl | exact .inr rfl) : PS X (.AugAssign (.Name x p) op e pos) (tS X.K X.mg a (sAug i o f)) :=
  (ps_aug hnd hN hx hf ho hfn).imp fun Dn σ H ⟨ρ, G, hR, q⟩ => by
    unfold sAug at q
    cases e1 : ρ[i]? with
    | none => rw [e1] at q; exact q.elim
    | some s => cases s with
      | no => rw [e1] at q; exact q.elim
      | ow _ => rw [e1] at q; exact q.elim
      | sh d =>
        rw [e1] at q
        cases d with
        | int n =>
          obtain ⟨v, e2, r⟩ := R.sh hR e1
          cases r
          refine ⟨.int n, e2, ρ, G, hR, (ofR_post hR q).imp fun d _ q1 v G' H' g r => ?_⟩
          cases r with
          | int m => exact ⟨n, m, rfl, rfl, q1 _ G' H' (R.setSh (R.grow hR g) i (.int _)) g.g⟩
          | _ => exact q1.elim
        | _ => exact q.elim
end
end PL

set_option maxRecDepth 100000
set_option maxHeartbeats 1000000
namespace PL
open PySem PySem.Spec PyProof.Rows L2

theorem cd_str {X : Cx} : CallD X (.type "str") strL := ⟨_, (call_str_int).or SkE.call_str_str, fun G H vs ds z Q s r h q => by
  unfold strL at h
  split at h
  · obtain ⟨v, rfl, r1⟩ := reps1 r
    obtain ⟨hz, h⟩ := gd_ok h
    cases h; cases r1
    exact .inl ⟨_, rfl, hz, q _ G H (Grow.refl s) (.str _)⟩
  · obtain ⟨v, rfl, r1⟩ := reps1 r
    cases h; cases r1
    exact .inr ⟨_, rfl, q _ G H (Grow.refl s) (.str _)⟩
  · cases h⟩
/-- a, b = e -/
def sAsg (t : D → En → Res En) (f : En → Res D) : En → Out := fun ρ => ofR ρ (f ρ) fun d => match t d ρ with | .ok ρ' => .next ρ' | _ => .stuck
theorem s_asg {X : Cx} {a : Amb} {tg e : Expr} {t : D → En → Res En} {f : En → Res D} {pos : Pos} (he : PE X e (tD X.K X.mg a f)) (hg : PG X tg (tG X.K a t)) (hs : swapsWithSole [tg] e pos.line X.env = pure false := by rfl) (hw : swappedStores [tg] e X.env = pure none := by rfl)
    (h1 : (assignEach [tg] X.env).map (·.2) = [assign tg X.env] := by rfl) : PS X (.Assign [tg] e pos) (tS X.K X.mg a (sAsg t f)) :=
  (ps_asg he hg hs hw h1).imp fun Dn σ H ⟨ρ, G, hR, q⟩ => ⟨ρ, G, hR, (ofR_post hR q).imp fun d _ q1 v G' H' g r => by
    cases ht : t d ρ with
    | ok ρ' => simp only [ht] at q1; exact ⟨ρ, G', d, ρ', R.grow hR g, r, ht, fun σ' hR' => q1 σ' G' H' hR' g.g⟩
    | exc _ => simp only [ht] at q1; exact q1.elim
    | stuck => simp only [ht] at q1; exact q1.elim⟩
/-- of parts of the top: the callee's fact as it is asked for -/
abbrev Fx (P : Program) (K : PySem.W.Frag) (mg : Str → Option Value) (x qual : Str) (st : Stmt) (ps : List Str) : Prop := ∃ f fd, Fun K x qual st f fd ∧ mg x = some (.ref f) ∧ Binds K fd ps []
end PL

set_option maxRecDepth 100000
set_option maxHeartbeats 1000000
namespace PL
open PySem PySem.Spec PyProof.Rows L2
/-! ## the end: facts of the top -/
section
variable {P : Program} {w : World} {K : PySem.W.Frag} {mg : Str → Option Value} {base h : Heap}
theorem fx_mk (X : K.In h) (G : h.Ns mainGlobals mg) {x qual : Str} {st : Stmt} {f : Addr} {oc : Value} {od an : Option Addr} {osl : Array (Option Value)} {kV doc pm cdv ct : Value} {ps : List Str}
    (a : PySem.W.nsIn K mainGlobals x = some (some (.ref f))) (l : K.lookup f = some ⟨oc, od, .func (PySem.W.fnOf x qual (defArgs st) (defBody st) (defScope st) .none kV doc pm an cdv ct), osl⟩) (c : PySem.W.codeIn K cdv qual = true) (k : PySem.W.keepIn K (.ref f) = true)
    (b : ∀ (kV doc pm : Value) (an : Option Addr) (cdv ct : Value) (us : List Value), us.length = ps.length → bindArgs (PySem.W.fnOf x qual (defArgs st) (defBody st) (defScope st) .none kV doc pm an cdv ct) ⟨us, []⟩ = pure (ps.zip us)) : Fx P K mg x qual st ps :=
  ⟨f, _, fun_mk l c k, PySem.W.mg_of X G a, (fun_mk l c k).binds b⟩
/-- a method's text in a class's -/
def inCls (s : Stmt) (j : Nat) : Stmt := match s with
  | .ClassDef _ _ _ b _ _ _ _ _ _ _ => b.getD j (.Pass ⟨0, 0, 0, 0⟩)
  | _ => .Pass ⟨0, 0, 0, 0⟩
theorem ext1 (X : K.In h) (G : h.Ns mainGlobals mg) {x qual fl : Str} {st : Stmt} {C f : Addr} {oc : Value} {od an : Option Addr} {osl : Array (Option Value)} {kV doc pm cdv ct : Value}
    {nm qn : Str} {N : Addr} {bs bm : List Value} {sn : List Str} {sub : List Value} {ab : Bool} {col : Option Bool} {dd : Option Addr} {m0 m1 m2 m3 m5 : Option Value}
    (a : PySem.W.nsIn K mainGlobals x = some (some (.ref C))) (xL : K.lookup C = some (excClassObj nm qn C N bs bm true sn sub ab col dd m0 m1 m2 m3 m5 "ValueError.__new__")) (rv : PySem.HandSPX.refsVE bm = true)
    (sa : PySem.W.findIn K (.ref C) "__setattr__" = some (some (.builtin "object.__setattr__"))) (ga : PySem.W.findIn K (.ref C) "__getattribute__" = some (some (.builtin "BaseException.__getattribute__"))) (gg : PySem.W.findIn K (.ref C) "__getattr__" = some none)
    (n1 : PySem.W.findIn K (.ref C) fl = some none) (iC : PySem.W.findIn K (.ref C) "__init__" = some (some (.ref f))) (tI : PySem.W.typeIn K (.ref f) = some (.type "function"))
    (l : K.lookup f = some ⟨oc, od, .func (PySem.W.fnOf "__init__" qual (defArgs st) (defBody st) (defScope st) .none kV doc pm an cdv ct), osl⟩) (c : PySem.W.codeIn K cdv qual = true) (k : PySem.W.keepIn K (.ref f) = true)
    (kC : PySem.W.keepIn K (.ref C) = true) (eC : PySem.W.subIn K (.ref C) (.type "BaseException") = some true) (tC : PySem.W.typeIn K (.ref C) = some (.type "type")) (hC : PySem.W.hasDictIn K C = true)
    (S : FnScope [("self" : Str), fl] [("self" : Str), fl] (defScope st))
    (b : ∀ (kV doc pm : Value) (an : Option Addr) (cdv ct : Value) (us : List Value), us.length = [("self" : Str), fl].length → bindArgs (PySem.W.fnOf "__init__" qual (defArgs st) (defBody st) (defScope st) .none kV doc pm an cdv ct) ⟨us, []⟩ = pure ([("self" : Str), fl].zip us))
    (body : ∀ (base : Heap) (cdv : Value) (A : Around) (outer : List Env) (s : Shared) (H : Hp) (E : XK), PSs (cxOf CX0 P w K mg base [("self" : Str), fl] qual (defScope st) f cdv A outer s H E).nox (defBody st) (tOst K fl (tVar 0) (tVar 1))) :
    ∀ base : Heap, ExT P w K mg base x [fl] C := by
  intro base
  have o : OexC K C := ⟨⟨nm, qn, N, bs, bm, sn, sub, ab, col, dd, m0, m1, m2, m3, m5, xL, rv⟩, sa, eC, tC, kC⟩
  refine ⟨PySem.W.mg_of X G a, o, ⟨ga, gg, eC, hC⟩, fun g hg => ?_, f, _, iC, tI, init1 (fun_mk l c k) S o n1 (body base), (fun_mk l c k).binds b⟩
  rw [List.mem_singleton] at hg
  subst hg
  exact n1
end
theorem cx_false {P : Program} {w : World} {H : Hp} {s : Shared} {e : Value} {s' : Shared} (h : L2.CX P w [] H s (fun _ _ _ => False) e s') : False := by
  unfold L2.CX at h
  obtain ⟨_, _, _, _, _, _, h⟩ := h
  simp_all
theorem ctup_mk {K : PySem.W.Frag} {h : Heap} {mg : Str → Option Value} (X : K.In h) (G : h.Ns mainGlobals mg) {x : Str} {p : Addr} {o : Obj} {its : Array Value} {n : Nat} {vs : List V} {ds : List D} (a : PySem.W.nsIn K mainGlobals x = some (some (.ref p))) (l : K.lookup p = some o) (hc : o.cls = .type "tuple") (hd : o.data = .seq its n)
    (hz : its.size ≤ sizeLine) (hv : Vals vs its.toList) (r : ∀ G : Hp, Reps K G vs ds) : ∃ p, mg x = some (.ref p) ∧ ∀ G : Hp, Rep K G (.ref p) (.tup ds) :=
  ⟨p, PySem.W.mg_of X G a, fun G => .tup (.inr ⟨o, its, n, l, hc, hd, hz, hv⟩) (r G)⟩
theorem cint_mk {K : PySem.W.Frag} {h : Heap} {mg : Str → Option Value} (X : K.In h) (G : h.Ns mainGlobals mg) {x : Str} {i : Int} {v : Value} {t : _} (a : PySem.W.nsIn K mainGlobals x = some (some v)) (e : v = .int i t) : ∃ t, mg x = some (.int i t) := ⟨t, e ▸ PySem.W.mg_of X G a⟩
theorem cstr_mk {K : PySem.W.Frag} {h : Heap} {mg : Str → Option Value} (X : K.In h) (G : h.Ns mainGlobals mg) {x z : Str} {v : Value} {t : _} (a : PySem.W.nsIn K mainGlobals x = some (some v)) (e : v = .str z t) : ∃ t, mg x = some (.str z t) := ⟨t, e ▸ PySem.W.mg_of X G a⟩
/-- what a law is asked -/
def spLaw (K : PySem.W.Frag) : Sp := fun vs H Q _ => ∃ (a : Addr) (ns : List Int), vs = [.ref a] ∧ SqL K H a (ns.map V.int) ∧ ns.length ≤ 63 ∧ ∀ H', Q (.bl true) H'
theorem law_sp {K : PySem.W.Frag} {mg : Str → Option Value} {m : List D → Res RV} (hm : ∀ ns : List Int, ns.length ≤ 63 → m [.scr ns] = .ok (.sh (.bl true))) {vs : List V} {H : Hp} {Q : VK} {E : XK} (h : spLaw K vs H Q E) : spOf K mg 1 m vs H Q E := by
  obtain ⟨a, ns, rfl, hS, hl, q⟩ := h
  refine ⟨rfl, H, [.scr ns], Same.refl _, .cons (.scr hS) .nil, ?_⟩
  rw [hm ns hl]
  exact fun v G' H' g r => by cases r; exact q H'
theorem end_law {P : Program} {w : World} {K : PySem.W.Frag} {mg : Str → Option Value} {h : Heap} {fa : Addr} (X : K.In h) (G : h.Ns mainGlobals mg) (hfa : mg "law" = some (.ref fa)) {st : Stmt} {f : Addr} {oc : Value} {od an : Option Addr} {osl : Array (Option Value)} {kV doc pm cdv ct : Value}
    {k : Nat} {m : List D → Res RV} (hmT : ∀ ns : List Int, ns.length ≤ 63 → m [.scr ns] = .ok (.sh (.bl true)))
    (a : PySem.W.nsIn K mainGlobals "law" = some (some (.ref f))) (l : K.lookup f = some ⟨oc, od, .func (PySem.W.fnOf "law" "law" (defArgs st) (defBody st) (defScope st) .none kV doc pm an cdv ct), osl⟩) (c : PySem.W.codeIn K cdv "law" = true) (kp : PySem.W.keepIn K (.ref f) = true)
    (b : ∀ (s : Shared) (u : Value), BindsTo s (PySem.W.fnOf "law" "law" (defArgs st) (defBody st) (defScope st) .none kV doc pm an cdv ct) ⟨[u], []⟩ [("script", u)])
    (ok : ∀ (base : Heap) (f : Addr) (fd : FuncData), Fun K "law" "law" st f fd → FnOk P w K mg base (L2.CX P w) k f fd ["script"] (spOf K mg 1 m)) :
    ∃ fd : FuncData, (∀ (s : Shared) (u : Value), BindsTo s fd ⟨[u], []⟩ [("script", u)]) ∧ ∀ base : Heap, K.In base → base.Ns mainGlobals mg → FnOk P w K mg base (L2.CX P w) k fa fd ["script"] (spLaw K) := by
  have e := hfa.symm.trans (PySem.W.mg_of X G a)
  cases e
  exact ⟨_, b, fun base _ _ => (ok base _ _ (fun_mk l c kp)).imp fun vs H Q E h => law_sp hmT h⟩
/-! the same, K told by a fact of it -/
abbrev FxK {K : PySem.W.Frag} {h : Heap} (_ : K.In h) (P : Program) (mg : Str → Option Value) (x qual : Str) (st : Stmt) (ps : List Str) : Prop := Fx P K mg x qual st ps
abbrev CtK {K : PySem.W.Frag} {h : Heap} (_ : K.In h) (mg : Str → Option Value) (x : Str) (d : D) : Prop := ∃ p, mg x = some (.ref p) ∧ ∀ G : Hp, Rep K G (.ref p) d
abbrev ExtK {K : PySem.W.Frag} {h : Heap} (_ : K.In h) (P : Program) (w : World) (mg : Str → Option Value) (x : Str) (fl : List Str) (C : Addr) : Prop := ∀ base : Heap, ExT P w K mg base x fl C
abbrev ExmK {K : PySem.W.Frag} {h : Heap} (_ : K.In h) (A C : Addr) (b : Bool) : Prop := PySem.W.exmOne K (.ref A) (.ref C) = some b
end PL

set_option maxRecDepth 100000
set_option maxHeartbeats 1000000
namespace PL
open PySem
theorem bind_ok {α β : Type} (a : α) (f : α → Res β) : (Res.ok a).bind f = f a := Eq.trans rfl rfl
theorem bind_exc {α β : Type} (e : Exc) (f : α → Res β) : (Res.exc e).bind f = .exc e := Eq.trans rfl rfl
theorem bind_stuck {α β : Type} (f : α → Res β) : (Res.stuck : Res α).bind f = .stuck := Eq.trans rfl rfl
theorem ofR_ok {α : Type} (ρ : En) (a : α) (k : α → Out) : ofR ρ (.ok a) k = k a := Eq.trans rfl rfl
theorem ofR_exc {α : Type} (ρ : En) (e : Exc) (k : α → Out) : ofR ρ (.exc e) k = .exc e ρ := Eq.trans rfl rfl
theorem seq_next {f g : En → Out} {ρ ρ' : En} (h : f ρ = .next ρ') : sSeq f g ρ = g ρ' := by unfold sSeq; rw [h]
theorem seq_ret {f g : En → Out} {ρ : En} {r : RV} (h : f ρ = .ret r) : sSeq f g ρ = .ret r := by unfold sSeq; rw [h]
theorem seq_exc {f g : En → Out} {ρ ρ' : En} {e : Exc} (h : f ρ = .exc e ρ') : sSeq f g ρ = .exc e ρ' := by unfold sSeq; rw [h]
theorem for_nil (t : D → En → Res En) (b : En → Out) (ρ : En) : forL t b [] ρ = .next ρ := Eq.trans rfl rfl
theorem for_cons (i : Nat) (b : En → Out) (d : D) (ds : List D) (ρ : En) : forL (gN i) b (d :: ds) ρ = lpO (forL (gN i) b ds) (b (ρ.set i (.sh d))) := Eq.trans rfl rfl
theorem lp_next (k : En → Out) (ρ : En) : lpO k (.next ρ) = k ρ := Eq.trans rfl rfl
theorem lp_ret (k : En → Out) (r : RV) : lpO k (.ret r) = .ret r := Eq.trans rfl rfl
theorem lp_exc (k : En → Out) (e : Exc) (ρ : En) : lpO k (.exc e ρ) = .exc e ρ := Eq.trans rfl rfl
theorem sz (n : Nat) (h : n ≤ 16777216) : n ≤ sizeLine := by rw [sizeLine_eq]; exact h
theorem sz' (n : Nat) (h : n < 16777216) : n < sizeLine := by rw [sizeLine_eq]; exact h
theorem atI_nat {α : Type} (xs : List α) (i : Nat) : L2.atI xs (i : Int) = xs[i]? := by
  unfold L2.atI L2.ixN
  rw [if_pos (by omega)]
  by_cases h : (i : Int) < xs.length
  · rw [if_pos h]; show xs[(i : Int).toNat]? = _; rw [Int.toNat_natCast]
  · rw [if_neg h, List.getElem?_eq_none (by omega)]; rfl
theorem atI_of {α : Type} (xs : List α) (i : Int) (n : Nat) (h : i = n) : L2.atI xs i = xs[n]? := by rw [h, atI_nat]
theorem atI_0 {α : Type} (x : α) (xs : List α) : L2.atI (x :: xs) 0 = some x := atI_of _ 0 0 rfl
theorem atI_1 {α : Type} (x y : α) (xs : List α) : L2.atI (x :: y :: xs) 1 = some y := atI_of _ 1 1 rfl
theorem atI_2 {α : Type} (x y z : α) (xs : List α) : L2.atI (x :: y :: z :: xs) 2 = some z := atI_of _ 2 2 rfl
theorem atI_3 {α : Type} (x y z w : α) (xs : List α) : L2.atI (x :: y :: z :: w :: xs) 3 = some w := atI_of _ 3 3 rfl
theorem eq_int (a b : Int) : eqD (.int a) (.int b) = .ok (.bl (decide (a = b))) := by
  unfold eqD
  rw [gd_pos ⟨rfl, rfl⟩]
  show Res.ok (D.bl (a == b)) = _
  rw [Bool.beq_eq_decide_eq]
theorem ne_int (a b : Int) : neD (.int a) (.int b) = .ok (.bl (!decide (a = b))) := by
  unfold neD
  rw [gd_pos ⟨rfl, rfl⟩]
  show Res.ok (D.bl (!(a == b))) = _
  rw [Bool.beq_eq_decide_eq]
theorem shp_str {a : Str} (h : PyData.strOk a = true) : shp (.str a) = true := by
  unfold shp SeqAt.shaped
  simp [toPy, PyData.canLay0, PyData.depth, h]
theorem eq_str {a b : Str} (h : PyData.strOk a = true) (h2 : PyData.strOk b = true) : eqD (.str a) (.str b) = .ok (.bl (decide (a = b))) := by
  unfold eqD
  rw [gd_pos ⟨shp_str h, shp_str h2⟩]
  show Res.ok (D.bl (a == b)) = _
  rw [Bool.beq_eq_decide_eq]
theorem ne_str {a b : Str} (h : PyData.strOk a = true) (h2 : PyData.strOk b = true) : neD (.str a) (.str b) = .ok (.bl (!decide (a = b))) := by
  unfold neD
  rw [gd_pos ⟨shp_str h, shp_str h2⟩]
  show Res.ok (D.bl (!(a == b))) = _
  rw [Bool.beq_eq_decide_eq]
theorem eq_bl (a b : Bool) : eqD (.bl a) (.bl b) = .ok (.bl (decide (a = b))) := by
  cases a <;> cases b <;> rfl
theorem rng1_nat (n : Nat) (h : n ≤ 1000000000) : rng1 [.int (n : Nat)] = .ok ((List.range n).map fun k => .int ((k : Nat) : Int)) := by
  show gd (-(2 ^ 62) ≤ (n : Int) ∧ (n : Int) < 2 ^ 62) (.ok ((List.range (n : Int).toNat).map fun k => D.int ((k : Nat) : Int))) = _
  rw [gd_pos (by omega), Int.toNat_natCast]
theorem rep_nat (xs : List D) (n : Nat) (h : n ≤ 1000000000) (hz : xs.length * n ≤ 16777216) : repO (.lst xs) (.int (n : Nat)) = .ok (List.replicate n xs).flatten := by
  show gd (-(2 ^ 63) ≤ (n : Int) ∧ (n : Int) < 2 ^ 63 ∧ xs.length * (n : Int).toNat ≤ sizeLine) (.ok (List.replicate (n : Int).toNat xs).flatten) = _
  rw [gd_pos ⟨by omega, by omega, by rw [Int.toNat_natCast]; exact sz _ hz⟩, Int.toNat_natCast]
theorem mul_nat (xs : List D) (n : Nat) (h : n ≤ 1000000000) (hz : xs.length * n ≤ 16777216) : mulD (.lst xs) (.int (n : Nat)) = .ok (.lst (List.replicate n xs).flatten) := by
  show gd (-(2 ^ 63) ≤ (n : Int) ∧ (n : Int) < 2 ^ 63 ∧ xs.length * (n : Int).toNat ≤ sizeLine) (.ok (D.lst (List.replicate (n : Int).toNat xs).flatten)) = _
  rw [gd_pos ⟨by omega, by omega, by rw [Int.toNat_natCast]; exact sz _ hz⟩, Int.toNat_natCast]
theorem add_lst (xs ys : List D) (h : xs.length + ys.length ≤ 16777216) : addD (.lst xs) (.lst ys) = .ok (.lst (xs ++ ys)) := gd_pos (sz _ h)
theorem add_tup (xs ys : List D) (h : xs.length + ys.length ≤ 16777216) : addD (.tup xs) (.tup ys) = .ok (.tup (xs ++ ys)) := gd_pos (sz _ h)
theorem tup_ok (xs : List D) (h : xs.length ≤ 16777216) : tupD xs = .ok (.tup xs) := gd_pos (sz _ h)
theorem lst_ok (xs : List D) (h : xs.length ≤ 16777216) : lstD xs = .ok xs := gd_pos (sz _ h)
theorem len_lst (xs : List D) : lenL [.lst xs] = .ok (.int (xs.length : Nat)) := rfl
theorem len_tup (xs : List D) : lenL [.tup xs] = .ok (.int (xs.length : Nat)) := rfl
theorem rep_one (d : D) (m : Nat) : (List.replicate m [d]).flatten = List.replicate m d := by
  induction m with
  | zero => rfl
  | succ m ih => rw [List.replicate_succ, List.flatten_cons, ih]; rfl
theorem run_of {n : Nat} {b : En → Out} {ds : List D} {env : En} {o : Out} {r : Res RV} (he : start0 n ds = env) (ho : b env = o) (hr : runO o = r) : runF n b ds = r := by subst he; unfold runF; rw [ho]; exact hr
theorem set_eq {i : Nat} {f : En → Res D} {ρ : En} {d : D} (h : f ρ = .ok d) : sSet i f ρ = .next (ρ.set i (.sh d)) := by unfold sSet; rw [h, ofR_ok]
theorem setO_eq {i : Nat} {f : En → Res (List D)} {ρ : En} {d : List D} (h : f ρ = .ok d) : sSetO i f ρ = .next (ρ.set i (.ow (.lst d))) := by unfold sSetO; rw [h, ofR_ok]
theorem for_eq {it : En → Res (List D)} {t : D → En → Res En} {b : En → Out} {ρ : En} {ds : List D} {o : Out} (h : it ρ = .ok ds) (hf : forL t b ds ρ = o) : sFor it t b ρ = o := by unfold sFor; rw [h, ofR_ok]; exact hf
theorem appO_eq {o : List D → Res (List D)} {f : En → Res (List D)} {ρ : En} {ds : List D} {r : Res (List D)} (h : f ρ = .ok ds) (hr : o ds = r) : appO o f ρ = r := by unfold appO; rw [h, bind_ok]; exact hr
theorem app_eq {o : List D → Res D} {f : En → Res (List D)} {ρ : En} {ds : List D} {r : Res D} (h : f ρ = .ok ds) (hr : o ds = r) : app o f ρ = r := by unfold app; rw [h, bind_ok]; exact hr
theorem cons_eq {f : En → Res D} {g : En → Res (List D)} {ρ : En} {d : D} {ds : List D} (h : f ρ = .ok d) (h2 : g ρ = .ok ds) : aCons f g ρ = .ok (d :: ds) := by unfold aCons; rw [h, bind_ok, h2, bind_ok]
theorem call_eq {m : List D → Res RV} {f : En → Res (List D)} {ρ : En} {ds : List D} {r : Res D} (h : f ρ = .ok ds) (hr : rvD (m ds) = r) : callE m f ρ = r := by unfold callE; rw [h, bind_ok]; exact hr
theorem bin_eq {o : D → D → Res D} {f g : En → Res D} {ρ : En} {x y : D} {r : Res D} (h : f ρ = .ok x) (h2 : g ρ = .ok y) (hr : o x y = r) : bin o f g ρ = r := by unfold bin; rw [h, bind_ok, h2, bind_ok]; exact hr
theorem binO_eq {o : D → D → Res (List D)} {f g : En → Res D} {ρ : En} {x y : D} {r : Res (List D)} (h : f ρ = .ok x) (h2 : g ρ = .ok y) (hr : o x y = r) : binO o f g ρ = r := by unfold binO; rw [h, bind_ok, h2, bind_ok]; exact hr
theorem own_eq {f : En → Res (List D)} {ρ : En} {xs : List D} (h : f ρ = .ok xs) : own f ρ = .ok (.lst xs) := by unfold own; rw [h, bind_ok]
theorem ret_eq {f : En → Res D} {ρ : En} {d : D} (h : f ρ = .ok d) : sRet f ρ = .ret (.sh d) := by unfold sRet; rw [h, ofR_ok]
theorem retO_eq {f : En → Res (List D)} {ρ : En} {d : List D} (h : f ρ = .ok d) : sRetO f ρ = .ret (.ow d) := by unfold sRetO; rw [h, ofR_ok]
theorem if_eq {c : En → Res Bool} {f g : En → Out} {ρ : En} {b : Bool} {o : Out} (h : c ρ = .ok b) (ho : (if b then f ρ else g ρ) = o) : sIf c f g ρ = o := by unfold sIf; rw [h, ofR_ok]; exact ho
theorem drop_eq {f : En → Res D} {ρ : En} {d : D} (h : f ρ = .ok d) : sDrop f ρ = .next ρ := by unfold sDrop; rw [h, ofR_ok]
theorem drop_exc {f : En → Res D} {ρ : En} {e : Exc} (h : f ρ = .exc e) : sDrop f ρ = .exc e ρ := by unfold sDrop; rw [h, ofR_exc]
theorem tst_eq {o : D → Res Bool} {f : En → Res D} {ρ : En} {d : D} {r : Res Bool} (h : f ρ = .ok d) (hr : o d = r) : tst o f ρ = r := by unfold tst; rw [h, bind_ok]; exact hr
theorem not_eq {f : En → Res Bool} {ρ : En} {b : Bool} (h : f ρ = .ok b) : notB f ρ = .ok (!b) := by unfold notB; rw [h, bind_ok]
theorem lc_yes {i : Nat} {tt : En → Res Bool} {te : En → Res D} {d v : D} {ds vs : List D} {ρ : En} (h : tt (ρ.set i (.sh d)) = .ok true) (h2 : te (ρ.set i (.sh d)) = .ok v) (h3 : lcL i tt te ds ρ = .ok vs) : lcL i tt te (d :: ds) ρ = .ok (v :: vs) := by
  unfold lcL; rw [h]; simp only [h2, h3]
theorem lc_no {i : Nat} {tt : En → Res Bool} {te : En → Res D} {d : D} {ds : List D} {ρ : En} {r : Res (List D)} (h : tt (ρ.set i (.sh d)) = .ok false) (h3 : lcL i tt te ds ρ = r) : lcL i tt te (d :: ds) ρ = r := by
  unfold lcL; rw [h]; exact h3
theorem seq_n {f g : En → Out} {ρ ρ' : En} {o : Out} (h : f ρ = .next ρ') (k : g ρ' = o) : sSeq f g ρ = o := (seq_next h).trans k
theorem lce_eq {it : En → Res (List D)} {i : Nat} {tt : En → Res Bool} {te : En → Res D} {ρ : En} {ds vs : List D} (h : it ρ = .ok ds) (hz : ds.length ≤ 16777216) (h2 : lcL i tt te ds ρ = .ok vs) : lcE it i tt te ρ = .ok vs := by
  unfold lcE; rw [h, bind_ok, gd_pos (sz _ hz)]; exact h2
end PL

set_option maxRecDepth 100000
set_option maxHeartbeats 1000000
namespace K46
open PySem PySem.Spec PyProof.Rows L2 PL
def knX : Exc → Bool | .badValue _ => true | .tooMany _ => true | _ => false
def isX_BadValue : Exc → Bool | .badValue _ => true | _ => false
def isX_TooMany : Exc → Bool | .tooMany _ => true | _ => false
/-! ### _law_row -/
def B1__law_row : En → Out := (sSeq (sApp 4 (bin modD (app intL (aCons (eVar 3) aNil)) (eVar 2))) (sSet 3 (bin fdivD (eVar 3) (eVar 2))))
def B2__law_row : En → Out := (sSeq (sSet 5 (bin modD (app intL (aCons (bin addD (bin addD (bin mulD (eVar 5) (eC (.int 69621))) (bin mulD (eVar 6) (eC (.int 48271)))) (eVar 3)) aNil)) (eC (.int 2147483629)))) (sApp 4 (bin modD (app intL (aCons (bin fdivD (eVar 5) (eC (.int 7))) aNil)) (eVar 2))))
def b__law_row : En → Out := (sSeq (sSet 3 (app absL (aCons (eVar 0) aNil))) (sSeq (sSetO 4 (appO lstD aNil)) (sSeq (sIf (tst bOf (bin geD (eVar 3) (bin powD (eC (.int 10)) (eC (.int 18))))) (sSeq (sSet 3 (bin subD (eVar 3) (bin powD (eC (.int 10)) (eC (.int 18))))) (sSeq (sFor (appO rng1 (aCons (eVar 1) aNil)) (gN 6) B1__law_row) (sRetV 4))) sNext) (sSeq (sSet 5 (bin modD (app intL (aCons (bin addD (bin mulD (eVar 3) (eC (.int 48271))) (eC (.int 11))) aNil)) (eC (.int 2147483647)))) (sSeq (sFor (appO rng1 (aCons (eVar 1) aNil)) (gN 6) B2__law_row) (sRetV 4))))))
def m__law_row : List D → Res RV := runF 7 b__law_row
/-! ### _law_sizes -/
def E1__law_sizes : En → Res D := (app tupD (aCons (bin addD (eC (.int 1)) (bin ixD (eVar 2) (bin mulD (eC (.int 2)) (eVar 3)))) (aCons (bin addD (eC (.int 1)) (bin ixD (eVar 2) (bin addD (bin mulD (eC (.int 2)) (eVar 3)) (eC (.int 1))))) (aCons (bin addD (eC (.int 1)) (bin ixD (eVar 2) (eVar 3))) aNil))))
def b__law_sizes : En → Out := (sSeq (sSet 2 (callE m__law_row (aCons (eVar 0) (aCons (bin mulD (eC (.int 2)) (eVar 1)) (aCons (eC (.int 999)) aNil))))) (sRetO (lcE (appO rng1 (aCons (eVar 1) aNil)) 3 yesB E1__law_sizes)))
def m__law_sizes : List D → Res RV := runF 4 b__law_sizes
/-! ### _law_changed -/
def B1__law_changed : En → Out := (sSeq (sIf (borT 4 (tst bOf (bin eqD (app lenL (aCons (eVar 4) aNil)) (eC (.int 0))))) (sRetV 4) sNext) (sSeq (sSet 6 (bin modD (app intL (aCons (bin ixD (eVar 3) (bin mulD (eC (.int 4)) (eVar 5))) aNil)) (eC (.int 8)))) (sSeq (sSet 7 (borE 4 (bin modD (app intL (aCons (bin ixD (eVar 3) (bin addD (bin mulD (eC (.int 4)) (eVar 5)) (eC (.int 1)))) aNil)) (app lenL (aCons (eVar 4) aNil))))) (sSeq (sSet 8 (borE 4 (bin modD (app intL (aCons (bin ixD (eVar 3) (bin addD (bin mulD (eC (.int 4)) (eVar 5)) (eC (.int 2)))) aNil)) (app lenL (aCons (eVar 4) aNil))))) (sSeq (sSet 9 (bin modD (app intL (aCons (bin ixD (eVar 3) (bin addD (bin mulD (eC (.int 4)) (eVar 5)) (eC (.int 3)))) aNil)) (eC (.int 3)))) (sSeq (sSet 10 (ixO 4 (eVar 7))) (sSeq (sIf (tst bOf (bin eqD (eVar 6) (eC (.int 3)))) (sPut 4 (eVar 7) (bin addD (sliceE (eVar 10) pN (pS (eC (.int 3)))) (app tupD (aCons (bin ixD (own (appO lstD (aCons (eC (.str "in")) (aCons (eC (.str "out")) aNil)))) (app intL (aCons (bin eqD (bin ixD (eVar 10) (eC (.int 3))) (eC (.str "in"))) aNil))) aNil)))) sNext) (sSeq (sIf (tst bOf (bin eqD (eVar 6) (eC (.int 4)))) (sPut 4 (eVar 7) (bin addD (app tupD (aCons (app max2L (aCons (eC (.int 0)) (aCons (bin subD (bin subD (bin ixD (eVar 10) (eC (.int 0))) (eC (.int 1))) (eVar 9)) aNil))) aNil)) (sliceE (eVar 10) (pS (eC (.int 1))) pN))) sNext) (sSeq (sIf (tst bOf (bin eqD (eVar 6) (eC (.int 5)))) (sPut 4 (eVar 7) (bin addD (app tupD (aCons (bin ixD (eVar 10) (eC (.int 0))) (aCons (app min2L (aCons (eC (.int 29)) (aCons (bin addD (eVar 2) (eVar 9)) aNil))) aNil))) (sliceE (eVar 10) (pS (eC (.int 2))) pN))) sNext) (sSeq (sIf (tst bOf (bin eqD (eVar 6) (eC (.int 6)))) (sSeq (sPut 4 (eVar 7) (ixO 4 (eVar 8))) (sPut 4 (eVar 8) (eVar 10))) sNext) (sIf (tst bOf (bin eqD (eVar 6) (eC (.int 7)))) (sPopAt 4 (eVar 7)) sNext)))))))))))
def b__law_changed : En → Out := (sSeq (sSet 3 (callE m__law_row (aCons (eVar 1) (aCons (eC (.int 8)) (aCons (eC (.int 5040)) aNil))))) (sSeq (sSetO 4 (appO listL (aCons (eVar 0) aNil))) (sSeq (sFor (appO rng1 (aCons (eC (.int 2)) aNil)) (gN 5) B1__law_changed) (sRetV 4))))
def m__law_changed : List D → Res RV := runF 11 b__law_changed
/-! ### _law_nearly -/
def b__law_nearly : En → Out := (sSeq (sSet 1 (bin ixD (eVar 0) (eC (.int 0)))) (sSeq (sSet 2 (bin ixD (eVar 0) (eC (.int 1)))) (sSeq (sSet 3 (bin ixD (eVar 0) (eC (.int 2)))) (sSeq (sSet 4 (bin ixD (eVar 0) (eC (.int 3)))) (sSeq (sSet 5 (own (appO lstD (aCons (own (appO listL (aCons (eVar 0) aNil))) (aCons (sliceE (eVar 0) pN (pS (eC (.int 3)))) (aCons (bin addD (eVar 0) (app tupD (aCons (eVar 4) aNil))) (aCons (app tupD aNil) (aCons (eC .non) (aCons (eC (.str "5 0 carl in")) (aCons (eVar 1) aNil)))))))))) (sSeq (sSet 5 (bin addD (eVar 5) (own (appO lstD (aCons (app tupD (aCons (una negD (eC (.int 1))) (aCons (eVar 2) (aCons (eVar 3) (aCons (eVar 4) aNil))))) (aCons (app tupD (aCons (eC (.int 1000001)) (aCons (eVar 2) (aCons (eVar 3) (aCons (eVar 4) aNil))))) (aCons (app tupD (aCons (eC (.bl true)) (aCons (eVar 2) (aCons (eVar 3) (aCons (eVar 4) aNil))))) aNil))))))) (sSeq (sSet 5 (bin addD (eVar 5) (own (appO lstD (aCons (app tupD (aCons (app strL (aCons (eVar 1) aNil)) (aCons (eVar 2) (aCons (eVar 3) (aCons (eVar 4) aNil))))) (aCons (app tupD (aCons (eVar 1) (aCons (una negD (eC (.int 1))) (aCons (eVar 3) (aCons (eVar 4) aNil))))) (aCons (app tupD (aCons (eVar 1) (aCons (eC (.int 30)) (aCons (eVar 3) (aCons (eVar 4) aNil))))) aNil))))))) (sSeq (sSet 5 (bin addD (eVar 5) (own (appO lstD (aCons (app tupD (aCons (eVar 1) (aCons (eC (.bl false)) (aCons (eVar 3) (aCons (eVar 4) aNil))))) (aCons (app tupD (aCons (eVar 1) (aCons (eC .non) (aCons (eVar 3) (aCons (eVar 4) aNil))))) (aCons (app tupD (aCons (eVar 1) (aCons (eVar 2) (aCons (eC (.str "")) (aCons (eVar 4) aNil))))) aNil))))))) (sSeq (sSet 5 (bin addD (eVar 5) (own (appO lstD (aCons (app tupD (aCons (eVar 1) (aCons (eVar 2) (aCons (bin addD (eC (.str "7")) (sliceE (eVar 3) pN (pS (eC (.int 5))))) (aCons (eVar 4) aNil))))) (aCons (app tupD (aCons (eVar 1) (aCons (eVar 2) (aCons (bin addD (sliceE (eVar 3) pN (pS (eC (.int 3)))) (eC (.str "A"))) (aCons (eVar 4) aNil))))) aNil)))))) (sSeq (sSet 5 (bin addD (eVar 5) (own (appO lstD (aCons (app tupD (aCons (eVar 1) (aCons (eVar 2) (aCons (eC (.str "abcdefghijklm")) (aCons (eVar 4) aNil))))) (aCons (app tupD (aCons (eVar 1) (aCons (eVar 2) (aCons (bin addD (sliceE (eVar 3) pN (pS (eC (.int 4)))) (eC (.str " "))) (aCons (eVar 4) aNil))))) aNil)))))) (sRet (bin addD (eVar 5) (own (appO lstD (aCons (app tupD (aCons (eVar 1) (aCons (eVar 2) (aCons (eVar 3) (aCons (eC (.str "IN")) aNil))))) (aCons (app tupD (aCons (eVar 1) (aCons (eVar 2) (aCons (eVar 3) (aCons (eC (.str "into")) aNil))))) (aCons (app tupD (aCons (eVar 1) (aCons (eVar 2) (aCons (eVar 3) (aCons (eC .non) aNil))))) aNil)))))))))))))))))
def m__law_nearly : List D → Res RV := runF 6 b__law_nearly
/-! ### _law_same -/
def B1__law_same (again : List D → Res RV) : En → Out := (sIf (notB (tst truD (callE again (aCons (bin ixD (eVar 0) (eVar 2)) (aCons (bin ixD (eVar 1) (eVar 2)) aNil))))) (sRet (eC (.bl false))) sNext)
def b__law_same (again : List D → Res RV) : En → Out := (sSeq (sIf (tst bOf (bin isD (eVar 1) (eC .non))) (sRet (bin isD (eVar 0) (eC .non))) sNext) (sSeq (sIf (tst truD (isiD "bool" (eVar 1))) (sRet (andV (isiD "bool" (eVar 0)) (bin eqD (eVar 0) (eVar 1)))) sNext) (sSeq (sIf (tst truD (isiD "int" (eVar 1))) (sRet (andV (isiD "int" (eVar 0)) (andV (notV (isiD "bool" (eVar 0))) (bin eqD (eVar 0) (eVar 1))))) sNext) (sSeq (sIf (tst truD (isiD "str" (eVar 1))) (sRet (andV (isiD "str" (eVar 0)) (bin eqD (eVar 0) (eVar 1)))) sNext) (sSeq (sIf (andB (tst truD (isiD "tuple" (eVar 1))) (notB (tst truD (isiD "tuple" (eVar 0))))) (sRet (eC (.bl false))) sNext) (sSeq (sIf (andB (tst truD (isiD "list" (eVar 1))) (notB (tst truD (isiD "list" (eVar 0))))) (sRet (eC (.bl false))) sNext) (sSeq (sIf (tst bOf (bin neD (app lenL (aCons (eVar 0) aNil)) (app lenL (aCons (eVar 1) aNil)))) (sRet (eC (.bl false))) sNext) (sSeq (sFor (appO rng1 (aCons (app lenL (aCons (eVar 1) aNil)) aNil)) (gN 2) (B1__law_same again)) (sRet (eC (.bl true)))))))))))
def m__law_same : Nat → List D → Res RV | 0 => runF 3 sNever | n + 1 => runF 3 (b__law_same (m__law_same n))
/-! ### need_list -/
def b_need_list : En → Out := (sSeq (sIf (notB (tst truD (isiD "list" (eVar 0)))) (sRaise mkBV (aCons (eVar 2) aNil)) sNext) (sIf (tst bOf (bin gtD (app lenL (aCons (eVar 0) aNil)) (eVar 1))) (sRaise mkTM (aCons (eVar 1) aNil)) sNext))
def m_need_list : List D → Res RV := runF 3 b_need_list
/-! ### is_integer -/
def b_is_integer : En → Out := (sRet (andV (isiD "int" (eVar 0)) (notV (isiD "bool" (eVar 0)))))
def m_is_integer : List D → Res RV := runF 1 b_is_integer
/-! ### in_range -/
def b_in_range : En → Out := (sRet (andV (callE m_is_integer (aCons (eVar 0) aNil)) (andV (bin leD (eVar 1) (eVar 0)) (bin leD (eVar 0) (eVar 2)))))
def m_in_range : List D → Res RV := runF 3 b_in_range
/-! ### is_size -/
def B1_is_size : En → Out := (sIf (notB (tst truD (callE m_in_range (aCons (eVar 1) (aCons (eC (.int 1)) (aCons (eC (.int 999)) aNil)))))) (sRet (eC (.bl false))) sNext)
def b_is_size : En → Out := (sSeq (sIf (orB (notB (tst truD (isiD "tuple" (eVar 0)))) (tst bOf (bin neD (app lenL (aCons (eVar 0) aNil)) (eC (.int 3))))) (sRet (eC (.bl false))) sNext) (sSeq (sFor (itE (eVar 0)) (gN 1) B1_is_size) (sRet (eC (.bl true)))))
def m_is_size : List D → Res RV := runF 2 b_is_size
/-! ### need_sizes -/
def B1_need_sizes : En → Out := (sIf (notB (tst truD (callE m_is_size (aCons (eVar 3) aNil)))) (sRaise mkBV (aCons (eVar 2) aNil)) sNext)
def b_need_sizes : En → Out := (sSeq (sDrop (callE m_need_list (aCons (eVar 0) (aCons (eVar 1) (aCons (eVar 2) aNil))))) (sFor (itE (eVar 0)) (gN 3) B1_need_sizes))
def m_need_sizes : List D → Res RV := runF 4 b_need_sizes
/-! ### need_bank -/
def b_need_bank : En → Out := (sDrop (callE m_need_sizes (aCons (eVar 0) (aCons (eC (.int 30)) (aCons (eC (.str "bank")) aNil)))))
def m_need_bank : List D → Res RV := runF 1 b_need_bank
/-! ### is_time -/
def b_is_time : En → Out := (sRet (callE m_in_range (aCons (eVar 0) (aCons (eC (.int 0)) (aCons (eC (.int 1000000)) aNil)))))
def m_is_time : List D → Res RV := runF 1 b_is_time
/-! ### is_name -/
def B1_is_name : En → Out := (sIf (andB (tst bOf (bin notInD (eVar 1) (eC (.str "abcdefghijklmnopqrstuvwxyz")))) (tst bOf (bin notInD (eVar 1) (eC (.str "0123456789"))))) (sRet (eC (.bl false))) sNext)
def b_is_name : En → Out := (sSeq (sIf (orB (notB (tst truD (isiD "str" (eVar 0)))) (orB (tst bOf (bin ltD (app lenL (aCons (eVar 0) aNil)) (eC (.int 1)))) (tst bOf (bin gtD (app lenL (aCons (eVar 0) aNil)) (eC (.int 12)))))) (sRet (eC (.bl false))) sNext) (sSeq (sIf (tst bOf (bin notInD (bin ixD (eVar 0) (eC (.int 0))) (eC (.str "abcdefghijklmnopqrstuvwxyz")))) (sRet (eC (.bl false))) sNext) (sSeq (sFor (itE (eVar 0)) (gN 1) B1_is_name) (sRet (eC (.bl true))))))
def m_is_name : List D → Res RV := runF 2 b_is_name
/-! ### is_opening -/
def b_is_opening : En → Out := (sSeq (sIf (orB (notB (tst truD (isiD "tuple" (eVar 0)))) (tst bOf (bin neD (app lenL (aCons (eVar 0) aNil)) (eC (.int 4))))) (sRet (eC (.bl false))) sNext) (sSeq (sIf (orB (notB (tst truD (callE m_is_time (aCons (bin ixD (eVar 0) (eC (.int 0))) aNil)))) (orB (notB (tst truD (callE m_in_range (aCons (bin ixD (eVar 0) (eC (.int 1))) (aCons (eC (.int 0)) (aCons (eC (.int 29)) aNil)))))) (notB (tst truD (callE m_is_name (aCons (bin ixD (eVar 0) (eC (.int 2))) aNil)))))) (sRet (eC (.bl false))) sNext) (sRet (bin inD (bin ixD (eVar 0) (eC (.int 3))) (eC (.tup [(.str "in"), (.str "out")]))))))
def m_is_opening : List D → Res RV := runF 1 b_is_opening
/-! ### need_history -/
def B1_need_history : En → Out := (sIf (notB (tst truD (callE m_is_opening (aCons (eVar 1) aNil)))) (sRaise mkBV (aCons (eC (.str "history")) aNil)) sNext)
def b_need_history : En → Out := (sSeq (sDrop (callE m_need_list (aCons (eVar 0) (aCons (eC (.int 60)) (aCons (eC (.str "history")) aNil))))) (sFor (itE (eVar 0)) (gN 1) B1_need_history))
def m_need_history : List D → Res RV := runF 2 b_need_history
/-! ### fault_of -/
def B1_fault_of : En → Out := (sSeq (sAsg (gT [5, 6, 7, 8]) (bin ixD (eVar 1) (eVar 4))) (sSeq (sIf (tst bOf (bin geD (eVar 6) (app lenL (aCons (eVar 0) aNil)))) (sRet (app tupD (aCons (eVar 4) (aCons (eC (.str "box")) aNil)))) sNext) (sSeq (sIf (tst bOf (bin ltD (eVar 5) (eVar 3))) (sRet (app tupD (aCons (eVar 4) (aCons (eC (.str "time")) aNil)))) sNext) (sSeq (sIf (andB (tst bOf (bin eqD (eVar 8) (eC (.str "in")))) (tst truD (ixO 2 (eVar 6)))) (sRet (app tupD (aCons (eVar 4) (aCons (eC (.str "in")) aNil)))) sNext) (sSeq (sIf (andB (tst bOf (bin eqD (eVar 8) (eC (.str "out")))) (notB (tst truD (ixO 2 (eVar 6))))) (sRet (app tupD (aCons (eVar 4) (aCons (eC (.str "out")) aNil)))) sNext) (sSeq (sPut 2 (eVar 6) (bin eqD (eVar 8) (eC (.str "in")))) (sSet 3 (eVar 5))))))))
def b_fault_of : En → Out := (sSeq (sSetO 2 (binO repO (own (appO lstD (aCons (eC (.bl false)) aNil))) (app lenL (aCons (eVar 0) aNil)))) (sSeq (sSet 3 (eC (.int 0))) (sSeq (sFor (appO rng1 (aCons (app lenL (aCons (eVar 1) aNil)) aNil)) (gN 4) B1_fault_of) (sRet (eC .non)))))
def m_fault_of : List D → Res RV := runF 9 b_fault_of
/-! ### fault -/
def b_fault : En → Out := (sSeq (sDrop (callE m_need_bank (aCons (eVar 0) aNil))) (sSeq (sDrop (callE m_need_history (aCons (eVar 1) aNil))) (sRet (callE m_fault_of (aCons (eVar 0) (aCons (eVar 1) aNil))))))
def m_fault : List D → Res RV := runF 2 b_fault
/-! ### need_regular -/
def b_need_regular : En → Out := (sSeq (sDrop (callE m_need_history (aCons (eVar 1) aNil))) (sIf (tst bOf (bin isNotD (callE m_fault_of (aCons (eVar 0) (aCons (eVar 1) aNil))) (eC .non))) (sRaise mkBV (aCons (eC (.str "history")) aNil)) sNext))
def m_need_regular : List D → Res RV := runF 2 b_need_regular
/-! ### stays_from -/
def B1_stays_from : En → Out := (sIf (tst bOf (bin eqD (eVar 6) (eC (.str "in")))) (sSeq (sPutK 2 (eVar 4) (borE 1 (app lenL (aCons (eVar 1) aNil)))) (sApp 1 (app tupD (aCons (eVar 4) (aCons (eVar 3) (aCons (eVar 5) (aCons (eC .non) (aCons (eC .non) aNil)))))))) (sSeq (sSet 7 (getK 2 (eVar 4))) (sPut 1 (eVar 7) (bin addD (sliceE (ixO 1 (eVar 7)) pN (pS (eC (.int 3)))) (app tupD (aCons (eVar 3) (aCons (eVar 5) aNil)))))))
def b_stays_from : En → Out := (sSeq (sSetO 1 (appO lstD aNil)) (sSeq (sNewK 2) (sSeq (sFor (itE (eVar 0)) (gT [3, 4, 5, 6]) B1_stays_from) (sRetV 1))))
def m_stays_from : List D → Res RV := runF 8 b_stays_from
/-! ### box_stays -/
def b_box_stays : En → Out := (sSeq (sDrop (callE m_need_bank (aCons (eVar 0) aNil))) (sSeq (sDrop (callE m_need_regular (aCons (eVar 0) (aCons (eVar 1) aNil)))) (sRetO (callO m_stays_from (aCons (eVar 1) aNil)))))
def m_box_stays : List D → Res RV := runF 2 b_box_stays
/-! ### format_history -/
def b_format_history : En → Out := (sSeq (sDrop (callE m_need_history (aCons (eVar 0) aNil))) sNever)
def m_format_history : List D → Res RV := runF 3 b_format_history
/-! ### day_of -/
def E1_day_of : En → Res D := (app tupD (aCons (bin ixD (eVar 1) (eC (.int 2))) (aCons (bin ixD (eVar 1) (eC (.int 1))) (aCons (bin ixD (eVar 1) (eC (.int 3))) aNil))))
def b_day_of : En → Out := (sSeq (sDrop (callE m_need_history (aCons (eVar 0) aNil))) (sRetO (lcE (itE (eVar 0)) 1 yesB E1_day_of)))
def m_day_of : List D → Res RV := runF 2 b_day_of
/-! ### _law_door -/
def b__law_door : En → Out := (sSeq (sTry (sSeq (sIf (tst bOf (bin eqD (eVar 0) (eC (.int 0)))) (sDrop (callE m_fault (aCons (eVar 1) (aCons (eVar 2) aNil)))) sNext) (sSeq (sIf (tst bOf (bin eqD (eVar 0) (eC (.int 1)))) (sDrop (callE m_box_stays (aCons (eVar 1) (aCons (eVar 2) aNil)))) sNext) (sSeq (sIf (tst bOf (bin eqD (eVar 0) (eC (.int 2)))) (sDrop (callE m_format_history (aCons (eVar 2) aNil))) sNext) (sIf (tst bOf (bin eqD (eVar 0) (eC (.int 3)))) (sDrop (callE m_day_of (aCons (eVar 2) aNil))) sNext)))) [⟨knX, isX_TooMany, 3, (xRet (fun ex => app tupD ((fun ex => aCons ((fun _ => (eC (.str "many"))) ex) ((fun ex => aCons ((fldX "TooMany" "limit") ex) ((fun _ => aNil) ex)) ex)) ex)))⟩, ⟨knX, isX_BadValue, 3, (xRet (fun ex => app tupD ((fun ex => aCons ((fun _ => (eC (.str "value"))) ex) ((fun ex => aCons ((fldX "BadValue" "what") ex) ((fun _ => aNil) ex)) ex)) ex)))⟩]) (sRet (app tupD (aCons (eC (.str "none")) aNil))))
def m__law_door : List D → Res RV := runF 4 b__law_door
/-! ### _law_all_doors -/
def B1__law_all_doors : En → Out := (sIf (notB (tst truD (callE (m__law_same 6) (aCons (callE m__law_door (aCons (eVar 3) (aCons (eVar 0) (aCons (eVar 1) aNil)))) (aCons (eVar 2) aNil))))) (sRet (eC (.bl false))) sNext)
def b__law_all_doors : En → Out := (sSeq (sFor (appO rng1 (aCons (eC (.int 4)) aNil)) (gN 3) B1__law_all_doors) (sRet (eC (.bl true))))
def m__law_all_doors : List D → Res RV := runF 4 b__law_all_doors
/-! ### _law_fault -/
def E1__law_fault : En → Res D := (bin ixD (eVar 5) (eC (.int 3)))
def T1__law_fault : En → Res Bool := (tst bOf (bin eqD (bin ixD (eVar 5) (eC (.int 1))) (bin ixD (eVar 3) (eC (.int 1)))))
def B1__law_fault : En → Out := (sSeq (sSet 3 (bin ixD (eVar 1) (eVar 2))) (sSeq (sIf (tst bOf (bin geD (bin ixD (eVar 3) (eC (.int 1))) (eVar 0))) (sRet (app tupD (aCons (eVar 2) (aCons (eC (.str "box")) aNil)))) sNext) (sSeq (sIf (andB (tst bOf (bin gtD (eVar 2) (eC (.int 0)))) (tst bOf (bin ltD (bin ixD (eVar 3) (eC (.int 0))) (bin ixD (bin ixD (eVar 1) (bin subD (eVar 2) (eC (.int 1)))) (eC (.int 0)))))) (sRet (app tupD (aCons (eVar 2) (aCons (eC (.str "time")) aNil)))) sNext) (sSeq (sSet 4 (own (lcE (itE (sliceE (eVar 1) pN (pS (eVar 2)))) 5 T1__law_fault E1__law_fault))) (sSeq (sIf (andB (tst bOf (bin eqD (bin ixD (eVar 3) (eC (.int 3))) (eC (.str "in")))) (tst bOf (bin eqD (sliceE (eVar 4) (pS (una negD (eC (.int 1)))) pN) (own (appO lstD (aCons (eC (.str "in")) aNil)))))) (sRet (app tupD (aCons (eVar 2) (aCons (eC (.str "in")) aNil)))) sNext) (sIf (andB (tst bOf (bin eqD (bin ixD (eVar 3) (eC (.int 3))) (eC (.str "out")))) (tst bOf (bin neD (sliceE (eVar 4) (pS (una negD (eC (.int 1)))) pN) (own (appO lstD (aCons (eC (.str "in")) aNil)))))) (sRet (app tupD (aCons (eVar 2) (aCons (eC (.str "out")) aNil)))) sNext))))))
def b__law_fault : En → Out := (sSeq (sFor (appO rng1 (aCons (app lenL (aCons (eVar 1) aNil)) aNil)) (gN 2) B1__law_fault) (sRet (eC .non)))
def m__law_fault : List D → Res RV := runF 6 b__law_fault
/-! ### _law_stays -/
def E1__law_stays : En → Res D := (eVar 6)
def T1__law_stays : En → Res Bool := (tst bOf (bin eqD (bin ixD (eVar 6) (eC (.int 1))) (bin ixD (bin ixD (eVar 0) (eVar 2)) (eC (.int 1)))))
def B1__law_stays : En → Out := (sIf (tst bOf (bin eqD (bin ixD (bin ixD (eVar 0) (eVar 2)) (eC (.int 3))) (eC (.str "in")))) (sSeq (sSet 3 (own (lcE (itE (sliceE (eVar 0) (pS (bin addD (eVar 2) (eC (.int 1)))) pN)) 6 T1__law_stays E1__law_stays))) (sSeq (sSet 4 (eC .non)) (sSeq (sSet 5 (eC .non)) (sSeq (sIf (tst bOf (bin gtD (app lenL (aCons (eVar 3) aNil)) (eC (.int 0)))) (sSeq (sSet 4 (bin ixD (bin ixD (eVar 3) (eC (.int 0))) (eC (.int 0)))) (sSet 5 (bin ixD (bin ixD (eVar 3) (eC (.int 0))) (eC (.int 2))))) sNext) (sApp 1 (app tupD (aCons (bin ixD (bin ixD (eVar 0) (eVar 2)) (eC (.int 1))) (aCons (bin ixD (bin ixD (eVar 0) (eVar 2)) (eC (.int 0))) (aCons (bin ixD (bin ixD (eVar 0) (eVar 2)) (eC (.int 2))) (aCons (eVar 4) (aCons (eVar 5) aNil))))))))))) sNext)
def b__law_stays : En → Out := (sSeq (sSetO 1 (appO lstD aNil)) (sSeq (sFor (appO rng1 (aCons (app lenL (aCons (eVar 0) aNil)) aNil)) (gN 2) B1__law_stays) (sRetV 1)))
def m__law_stays : List D → Res RV := runF 7 b__law_stays
/-! ### _law_walked -/
def b__law_walked : En → Out := (sSeq (sSet 2 (own (appO listL (aCons (eVar 0) aNil)))) (sSeq (sSetO 3 (appO listL (aCons (eVar 1) aNil))) (sSeq (sSet 4 (callE m__law_fault (aCons (app lenL (aCons (eVar 0) aNil)) (aCons (eVar 1) aNil)))) (sSeq (sIf (borT 3 (notB (tst truD (callE (m__law_same 6) (aCons (callE m_fault (aCons (eVar 2) (aCons (eVar 3) aNil))) (aCons (eVar 4) aNil)))))) (sRet (eC (.bl false))) sNext) (sSeq (sIf (tst bOf (bin isNotD (eVar 4) (eC .non))) (sSeq (sIf (borT 3 (notB (tst truD (callE (m__law_same 6) (aCons (callE m__law_door (aCons (eC (.int 1)) (aCons (eVar 2) (aCons (eVar 3) aNil)))) (aCons (app tupD (aCons (eC (.str "value")) (aCons (eC (.str "history")) aNil))) aNil)))))) (sRet (eC (.bl false))) sNext) (sRet (borE 3 (andV (callE (m__law_same 6) (aCons (eVar 3) (aCons (eVar 1) aNil))) (callE (m__law_same 6) (aCons (eVar 2) (aCons (eVar 0) aNil))))))) sNext) (sSeq (sSet 5 (callE m__law_stays (aCons (eVar 1) aNil))) (sSeq (sSetO 6 (borO 3 (callO m_box_stays (aCons (eVar 2) (aCons (eVar 3) aNil))))) (sSeq (sIf (borT 6 (notB (tst truD (callE (m__law_same 6) (aCons (eVar 6) (aCons (eVar 5) aNil)))))) (sRet (eC (.bl false))) sNext) (sSeq (sApp 6 (app tupD (aCons (eC (.int 0)) (aCons (eC (.int 0)) (aCons (eC (.str "a")) (aCons (eC .non) (aCons (eC .non) aNil))))))) (sSeq (sApp 3 (app tupD (aCons (eC (.int 1000000)) (aCons (eC (.int 29)) (aCons (eC (.str "a")) (aCons (eC (.str "out")) aNil)))))) (sSeq (sIf (notB (tst truD (callE (m__law_same 6) (aCons (callE m_box_stays (aCons (eVar 2) (aCons (own (appO listL (aCons (eVar 1) aNil))) aNil))) (aCons (eVar 5) aNil))))) (sRet (eC (.bl false))) sNext) (sRet (borE 3 (andV (callE (m__law_same 6) (aCons (sliceE (eVar 3) pN (pS (una negD (eC (.int 1))))) (aCons (eVar 1) aNil))) (callE (m__law_same 6) (aCons (eVar 2) (aCons (eVar 0) aNil)))))))))))))))))
def m__law_walked : List D → Res RV := runF 7 b__law_walked
/-! ### _law_refused -/
def B1__law_refused : En → Out := (sIf (tst bOf (bin isNotD (callE m_is_opening (aCons (eVar 5) aNil)) (eC (.bl false)))) (sRet (eC (.bl false))) sNext)
def B2__law_refused : En → Out := (sIf (tst bOf (bin isNotD (callE m_is_opening (aCons (eVar 6) aNil)) (eC (.bl true)))) (sRet (eC (.bl false))) sNext)
def B3__law_refused : En → Out := (sSeq (sIf (notB (tst truD (callE (m__law_same 6) (aCons (callE m__law_door (aCons (eVar 9) (aCons (sliceE (bin addD (eVar 0) (own (appO lstD (aCons (app tupD (aCons (eC (.int 1)) (aCons (eC (.int 1)) (aCons (eC (.int 0)) aNil)))) aNil)))) (pS (una negD (eC (.int 30)))) pN) (aCons (eVar 7) aNil)))) (aCons (app tupD (aCons (eC (.str "value")) (aCons (eC (.str "bank")) aNil))) aNil))))) (sRet (eC (.bl false))) sNext) (sIf (notB (tst truD (callE (m__law_same 6) (aCons (callE m__law_door (aCons (eVar 9) (aCons (sliceE (bin addD (bin mulD (eVar 0) (eC (.int 31))) (bin mulD (own (appO lstD (aCons (eC .non) aNil))) (eC (.int 31)))) pN (pS (eC (.int 31)))) (aCons (eVar 7) aNil)))) (aCons (app tupD (aCons (eC (.str "many")) (aCons (eC (.int 30)) aNil))) aNil))))) (sRet (eC (.bl false))) sNext))
def b__law_refused : En → Out := (sSeq (sSet 4 (callE m__law_nearly (aCons (bin ixD (eVar 1) (eVar 2)) aNil))) (sSeq (sFor (itE (eVar 4)) (gN 5) B1__law_refused) (sSeq (sFor (itE (eVar 1)) (gN 6) B2__law_refused) (sSeq (sSetO 7 (appO listL (aCons (eVar 1) aNil))) (sSeq (sPut 7 (eVar 2) (bin ixD (eVar 4) (bin modD (app intL (aCons (eVar 3) aNil)) (app lenL (aCons (eVar 4) aNil))))) (sSeq (sIf (borT 7 (notB (tst truD (callE m__law_all_doors (aCons (eVar 0) (aCons (eVar 7) (aCons (app tupD (aCons (eC (.str "value")) (aCons (eC (.str "history")) aNil))) aNil))))))) (sRet (eC (.bl false))) sNext) (sSeq (sIf (notB (tst truD (callE m__law_all_doors (aCons (eVar 0) (aCons (app tupleL (aCons (eVar 1) aNil)) (aCons (app tupD (aCons (eC (.str "value")) (aCons (eC (.str "history")) aNil))) aNil)))))) (sRet (eC (.bl false))) sNext) (sFrz 7 (sSeq (sSet 8 (sliceE (bin mulD (eVar 7) (eC (.int 61))) pN (pS (eC (.int 61))))) (sSeq (sIf (orB (notB (tst truD (callE m__law_all_doors (aCons (eVar 0) (aCons (eVar 8) (aCons (app tupD (aCons (eC (.str "many")) (aCons (eC (.int 60)) aNil))) aNil)))))) (notB (tst truD (callE m__law_walked (aCons (eVar 0) (aCons (sliceE (bin mulD (eVar 1) (eC (.int 60))) pN (pS (eC (.int 60)))) aNil)))))) (sRet (eC (.bl false))) sNext) (sSeq (sFor (appO rng1 (aCons (eC (.int 2)) aNil)) (gN 9) B3__law_refused) (sRet (eC (.bl true))))))))))))))
def m__law_refused : List D → Res RV := runF 10 b__law_refused
/-! ### _law_cell -/
def b__law_cell : En → Out := (sSeq (sIf (tst bOf (bin ltD (eVar 1) (app lenL (aCons (eVar 0) aNil)))) (sRet (app intL (aCons (bin ixD (eVar 0) (eVar 1)) aNil))) sNext) (sRet (eC (.int 0))))
def m__law_cell : List D → Res RV := runF 2 b__law_cell
/-! ### _law_name -/
def B1__law_name : En → Out := (sIf (tst bOf (bin gtD (eVar 3) (eC (.int 0)))) (sSeq (sSet 2 (bin addD (eVar 2) (bin ixD (eVar 1) (bin modD (app intL (aCons (eVar 3) aNil)) (eC (.int 36)))))) (sSet 3 (bin fdivD (eVar 3) (eC (.int 36))))) sNext)
def b__law_name : En → Out := (sSeq (sSet 1 (eC (.str "abcdefghijklmnopqrstuvwxyz0123456789"))) (sSeq (sSet 2 (bin ixD (eVar 1) (bin modD (app intL (aCons (eVar 0) aNil)) (eC (.int 26))))) (sSeq (sSet 3 (bin fdivD (eVar 0) (eC (.int 26)))) (sSeq (sFor (appO rng1 (aCons (eC (.int 11)) aNil)) (gN 4) B1__law_name) (sRet (eVar 2))))))
def m__law_name : List D → Res RV := runF 5 b__law_name
/-! ### _law_regular -/
def E1__law_regular : En → Res D := (callE m__law_name (aCons (eVar 14) aNil))
def B1__law_regular : En → Out := (sSeq (sSet 9 (bin addD (eVar 9) (bin modD (app intL (aCons (bin ixD (eVar 4) (eVar 11)) aNil)) (bin ixD (own (appO lstD (aCons (eC (.int 1)) (aCons (eC (.int 4)) (aCons (eC (.int 16000)) aNil))))) (bin modD (app intL (aCons (bin ixD (eVar 2) (eC (.int 4))) aNil)) (eC (.int 3))))))) (sSeq (sSet 12 (bin modD (app intL (aCons (bin ixD (eVar 5) (eVar 11)) aNil)) (app max2L (aCons (eC (.int 1)) (aCons (eVar 1) aNil))))) (sSeq (sSet 13 (eC (.str "in"))) (sSeq (sIf (tst truD (ixO 8 (eVar 12))) (sSet 13 (eC (.str "out"))) sNext) (sSeq (sPut 8 (eVar 12) (notV (ixO 8 (eVar 12)))) (sApp 10 (app tupD (aCons (eVar 9) (aCons (eVar 12) (aCons (bin ixD (eVar 7) (bin ixD (eVar 6) (eVar 11))) (aCons (eVar 13) aNil)))))))))))
def b__law_regular : En → Out := (sSeq (sSet 3 (bin modD (app intL (aCons (bin ixD (eVar 2) (eC (.int 2))) aNil)) (eC (.int 13)))) (sSeq (sIf (tst bOf (bin eqD (bin modD (app intL (aCons (bin ixD (eVar 2) (eC (.int 3))) aNil)) (eC (.int 3))) (eC (.int 0)))) (sSet 3 (bin addD (eC (.int 48)) (eVar 3))) sNext) (sSeq (sSet 4 (callE m__law_row (aCons (callE m__law_cell (aCons (eVar 0) (aCons (eC (.int 2)) aNil))) (aCons (eVar 3) (aCons (eC (.int 16000)) aNil))))) (sSeq (sSet 5 (callE m__law_row (aCons (callE m__law_cell (aCons (eVar 0) (aCons (eC (.int 3)) aNil))) (aCons (eVar 3) (aCons (eC (.int 30)) aNil))))) (sSeq (sSet 6 (callE m__law_row (aCons (callE m__law_cell (aCons (eVar 0) (aCons (eC (.int 4)) aNil))) (aCons (eVar 3) (aCons (eC (.int 4)) aNil))))) (sSeq (sSet 7 (own (lcE (itE (callE m__law_row (aCons (callE m__law_cell (aCons (eVar 0) (aCons (eC (.int 5)) aNil))) (aCons (eC (.int 4)) (aCons (bin mulD (eC (.int 26)) (bin powD (eC (.int 36)) (eC (.int 11)))) aNil))))) 14 yesB E1__law_regular))) (sSeq (sSetO 8 (binO repO (own (appO lstD (aCons (eC (.bl false)) aNil))) (eC (.int 30)))) (sSeq (sSet 9 (bin modD (app intL (aCons (bin ixD (eVar 2) (eC (.int 5))) aNil)) (eC (.int 40061)))) (sSeq (sSetO 10 (appO lstD aNil)) (sSeq (sFor (appO rng1 (aCons (eVar 3) aNil)) (gN 11) B1__law_regular) (sRetV 10)))))))))))
def m__law_regular : List D → Res RV := runF 15 b__law_regular
/-! ### law -/
def b_law : En → Out := (sSeq (sSet 1 (callE m__law_row (aCons (callE m__law_cell (aCons (eVar 0) (aCons (eC (.int 0)) aNil))) (aCons (eC (.int 8)) (aCons (eC (.int 5040)) aNil))))) (sSeq (sSet 2 (bin modD (app intL (aCons (bin ixD (eVar 1) (eC (.int 0))) aNil)) (eC (.int 5)))) (sSeq (sIf (tst bOf (bin eqD (bin modD (app intL (aCons (bin ixD (eVar 1) (eC (.int 1))) aNil)) (eC (.int 4))) (eC (.int 0)))) (sSet 2 (bin modD (app intL (aCons (bin ixD (eVar 1) (eC (.int 0))) aNil)) (eC (.int 31)))) sNext) (sSeq (sSet 3 (callE m__law_sizes (aCons (callE m__law_cell (aCons (eVar 0) (aCons (eC (.int 1)) aNil))) (aCons (eVar 2) aNil)))) (sSeq (sSet 4 (callE m__law_changed (aCons (callE m__law_regular (aCons (eVar 0) (aCons (eVar 2) (aCons (eVar 1) aNil)))) (aCons (callE m__law_cell (aCons (eVar 0) (aCons (eC (.int 6)) aNil))) (aCons (eVar 2) aNil))))) (sSeq (sIf (notB (tst truD (callE m__law_walked (aCons (eVar 3) (aCons (eVar 4) aNil))))) (sRet (eC (.bl false))) sNext) (sSeq (sIf (orB (tst bOf (bin isNotD (callE m_is_opening (aCons (app tupD (aCons (eC (.int 0)) (aCons (eC (.int 0)) (aCons (eC (.str "a")) (aCons (eC (.str "in")) aNil))))) aNil)) (eC (.bl true)))) (tst bOf (bin isNotD (callE m_is_opening (aCons (app tupD (aCons (eC (.int 1000000)) (aCons (eC (.int 29)) (aCons (eC (.str "abcdefghijk9")) (aCons (eC (.str "out")) aNil))))) aNil)) (eC (.bl true))))) (sRet (eC (.bl false))) sNext) (sSeq (sIf (tst bOf (bin eqD (app lenL (aCons (eVar 4) aNil)) (eC (.int 0)))) (sRet (callE m__law_all_doors (aCons (eVar 3) (aCons (app tupD aNil) (aCons (app tupD (aCons (eC (.str "value")) (aCons (eC (.str "history")) aNil))) aNil))))) sNext) (sRet (callE m__law_refused (aCons (eVar 3) (aCons (eVar 4) (aCons (bin modD (app intL (aCons (bin ixD (eVar 1) (eC (.int 6))) aNil)) (app lenL (aCons (eVar 4) aNil))) (aCons (bin ixD (eVar 1) (eC (.int 7))) aNil))))))))))))))
def m_law : List D → Res RV := runF 5 b_law
end K46

set_option maxRecDepth 100000
set_option maxHeartbeats 1000000
namespace K46
open PySem PL
theorem is_integer_eq (d : D) : m_is_integer [d] = .ok (.sh (.bl (isiB (tyD d) "int" && !isiB (tyD d) "bool"))) := by cases d <;> rfl
theorem in_range_int (i lo hi : Int) : m_in_range [.int i, .int lo, .int hi] = .ok (.sh (.bl (decide (lo ≤ i) && decide (i ≤ hi)))) := by
  have h : m_is_integer [.int i] = .ok (.sh (.bl true)) := rfl
  unfold m_in_range b_in_range
  simp only [PL.runF, PL.runO, PL.start0, PL.sSeq, PL.sNext, PL.sSet, PL.sSetO, PL.sDrop, PL.sRet, PL.sRetO, PL.sRetV, PL.sRetN, PL.sIf, PL.sBrk, PL.sCont, PL.sFrz, PL.sFor, PL.sAsg, PL.sRaise, PL.sTry, PL.tryO, PL.unset, PL.xRet, PL.fldX, PL.ofR_ok, PL.ofR_exc, PL.eC, PL.eVar, PL.bin, PL.una, PL.aNil, PL.aCons, PL.app, PL.appO, PL.own, PL.tru, PL.ifE, PL.andB, PL.orB, PL.notB, PL.gd, PL.bOf, PL.truD, PL.tst, PL.andV, PL.orV, PL.notV, PL.callE, PL.callO, PL.rvD, PL.rvO, PL.bind_ok, PL.bind_exc, PL.bind_stuck, PL.addD, PL.subD, PL.mulD, PL.modD, PL.fdivD, PL.powD, PL.ltD, PL.leD, PL.gtD, PL.geD, PL.isD, PL.isNotD, PL.isNonD, PL.ixD, PL.sliceD, PL.sliceE, PL.pN, PL.pS, PL.lenL, PL.absL, PL.intL, PL.max2L, PL.min2L, PL.listL, PL.tupleL, PL.isiD, PL.isiB, PL.tyD, PL.itE, PL.seqOf, PL.gN, PL.gT, PL.setAll, PL.lp_next, PL.lp_ret, PL.lp_exc, PL.for_nil, PL.for_cons, PL.atI_0, PL.atI_1, PL.atI_2, PL.atI_3, PL.tupD, PL.lstD, PL.owL, PL.setL, PL.sApp, PL.sPop, PL.sPopAt, PL.popAt, PL.sPut, PL.putAt, PL.ixO, PL.borE, PL.borT, PL.borO, PL.binO, PL.catO, PL.repO, PL.cutO, PL.sliceO, PL.lcE, PL.yesB, PL.mkBV, PL.mkTM, PL.mkBT, PL.negD, List.map_cons, List.map_nil, List.length_cons, List.length_nil, List.getElem?_cons_zero, List.getElem?_cons_succ, List.set_cons_zero, List.set_cons_succ, List.cons_append, List.nil_append, List.replicate_succ, List.replicate_zero, List.append_nil, Nat.reduceSub, Nat.reduceAdd, Bool.false_eq_true, List.map, PL.eq_int, PL.ne_int, PL.eq_bl,  if_true, if_false, ite_true, ite_false, h]
  cases decide (lo ≤ i) <;> rfl
theorem need_list_ok (xs : List D) (n : Int) (w : D) (h : (xs.length : Int) ≤ n) : m_need_list [.lst xs, .int n, w] = .ok (.sh .non) := by
  unfold m_need_list b_need_list
  have h2 : ¬ n < (xs.length : Int) := by omega
  simp [PL.runF, PL.runO, PL.start0, PL.sSeq, PL.sNext, PL.sSet, PL.sSetO, PL.sDrop, PL.sRet, PL.sRetO, PL.sRetV, PL.sRetN, PL.sIf, PL.sBrk, PL.sCont, PL.sFrz, PL.sFor, PL.sAsg, PL.sRaise, PL.sTry, PL.tryO, PL.unset, PL.xRet, PL.fldX, PL.ofR_ok, PL.ofR_exc, PL.eC, PL.eVar, PL.bin, PL.una, PL.aNil, PL.aCons, PL.app, PL.appO, PL.own, PL.tru, PL.ifE, PL.andB, PL.orB, PL.notB, PL.gd, PL.bOf, PL.truD, PL.tst, PL.andV, PL.orV, PL.notV, PL.callE, PL.callO, PL.rvD, PL.rvO, PL.bind_ok, PL.bind_exc, PL.bind_stuck, PL.addD, PL.subD, PL.mulD, PL.modD, PL.fdivD, PL.powD, PL.ltD, PL.leD, PL.gtD, PL.geD, PL.isD, PL.isNotD, PL.isNonD, PL.ixD, PL.sliceD, PL.sliceE, PL.pN, PL.pS, PL.lenL, PL.absL, PL.intL, PL.max2L, PL.min2L, PL.listL, PL.tupleL, PL.isiD, PL.isiB, PL.tyD, PL.itE, PL.seqOf, PL.gN, PL.gT, PL.setAll, PL.lp_next, PL.lp_ret, PL.lp_exc, PL.for_nil, PL.for_cons, PL.atI_0, PL.atI_1, PL.atI_2, PL.atI_3, PL.tupD, PL.lstD, PL.owL, PL.setL, PL.sApp, PL.sPop, PL.sPopAt, PL.popAt, PL.sPut, PL.putAt, PL.ixO, PL.borE, PL.borT, PL.borO, PL.binO, PL.catO, PL.repO, PL.cutO, PL.sliceO, PL.lcE, PL.yesB, PL.mkBV, PL.mkTM, PL.mkBT, PL.negD, List.map_cons, List.map_nil, List.length_cons, List.length_nil, List.getElem?_cons_zero, List.getElem?_cons_succ, List.set_cons_zero, List.set_cons_succ, List.cons_append, List.nil_append, List.replicate_succ, List.replicate_zero, List.append_nil, Nat.reduceSub, Nat.reduceAdd, Bool.false_eq_true, List.map, PL.eq_int, PL.ne_int, PL.eq_bl,  if_true, if_false, ite_true, ite_false, h2]
theorem need_list_many (xs : List D) (n : Int) (w : D) (h : n < (xs.length : Int)) : m_need_list [.lst xs, .int n, w] = .exc (.tooMany (.int n)) := by
  unfold m_need_list b_need_list
  simp [PL.runF, PL.runO, PL.start0, PL.sSeq, PL.sNext, PL.sSet, PL.sSetO, PL.sDrop, PL.sRet, PL.sRetO, PL.sRetV, PL.sRetN, PL.sIf, PL.sBrk, PL.sCont, PL.sFrz, PL.sFor, PL.sAsg, PL.sRaise, PL.sTry, PL.tryO, PL.unset, PL.xRet, PL.fldX, PL.ofR_ok, PL.ofR_exc, PL.eC, PL.eVar, PL.bin, PL.una, PL.aNil, PL.aCons, PL.app, PL.appO, PL.own, PL.tru, PL.ifE, PL.andB, PL.orB, PL.notB, PL.gd, PL.bOf, PL.truD, PL.tst, PL.andV, PL.orV, PL.notV, PL.callE, PL.callO, PL.rvD, PL.rvO, PL.bind_ok, PL.bind_exc, PL.bind_stuck, PL.addD, PL.subD, PL.mulD, PL.modD, PL.fdivD, PL.powD, PL.ltD, PL.leD, PL.gtD, PL.geD, PL.isD, PL.isNotD, PL.isNonD, PL.ixD, PL.sliceD, PL.sliceE, PL.pN, PL.pS, PL.lenL, PL.absL, PL.intL, PL.max2L, PL.min2L, PL.listL, PL.tupleL, PL.isiD, PL.isiB, PL.tyD, PL.itE, PL.seqOf, PL.gN, PL.gT, PL.setAll, PL.lp_next, PL.lp_ret, PL.lp_exc, PL.for_nil, PL.for_cons, PL.atI_0, PL.atI_1, PL.atI_2, PL.atI_3, PL.tupD, PL.lstD, PL.owL, PL.setL, PL.sApp, PL.sPop, PL.sPopAt, PL.popAt, PL.sPut, PL.putAt, PL.ixO, PL.borE, PL.borT, PL.borO, PL.binO, PL.catO, PL.repO, PL.cutO, PL.sliceO, PL.lcE, PL.yesB, PL.mkBV, PL.mkTM, PL.mkBT, PL.negD, List.map_cons, List.map_nil, List.length_cons, List.length_nil, List.getElem?_cons_zero, List.getElem?_cons_succ, List.set_cons_zero, List.set_cons_succ, List.cons_append, List.nil_append, List.replicate_succ, List.replicate_zero, List.append_nil, Nat.reduceSub, Nat.reduceAdd, Bool.false_eq_true, List.map, PL.eq_int, PL.ne_int, PL.eq_bl,  if_true, if_false, ite_true, ite_false, h]
theorem need_list_no (xs : List D) (n : Int) (w : D) : m_need_list [.tup xs, .int n, w] = .exc (.badValue w) := by
  unfold m_need_list b_need_list
  simp [PL.runF, PL.runO, PL.start0, PL.sSeq, PL.sNext, PL.sSet, PL.sSetO, PL.sDrop, PL.sRet, PL.sRetO, PL.sRetV, PL.sRetN, PL.sIf, PL.sBrk, PL.sCont, PL.sFrz, PL.sFor, PL.sAsg, PL.sRaise, PL.sTry, PL.tryO, PL.unset, PL.xRet, PL.fldX, PL.ofR_ok, PL.ofR_exc, PL.eC, PL.eVar, PL.bin, PL.una, PL.aNil, PL.aCons, PL.app, PL.appO, PL.own, PL.tru, PL.ifE, PL.andB, PL.orB, PL.notB, PL.gd, PL.bOf, PL.truD, PL.tst, PL.andV, PL.orV, PL.notV, PL.callE, PL.callO, PL.rvD, PL.rvO, PL.bind_ok, PL.bind_exc, PL.bind_stuck, PL.addD, PL.subD, PL.mulD, PL.modD, PL.fdivD, PL.powD, PL.ltD, PL.leD, PL.gtD, PL.geD, PL.isD, PL.isNotD, PL.isNonD, PL.ixD, PL.sliceD, PL.sliceE, PL.pN, PL.pS, PL.lenL, PL.absL, PL.intL, PL.max2L, PL.min2L, PL.listL, PL.tupleL, PL.isiD, PL.isiB, PL.tyD, PL.itE, PL.seqOf, PL.gN, PL.gT, PL.setAll, PL.lp_next, PL.lp_ret, PL.lp_exc, PL.for_nil, PL.for_cons, PL.atI_0, PL.atI_1, PL.atI_2, PL.atI_3, PL.tupD, PL.lstD, PL.owL, PL.setL, PL.sApp, PL.sPop, PL.sPopAt, PL.popAt, PL.sPut, PL.putAt, PL.ixO, PL.borE, PL.borT, PL.borO, PL.binO, PL.catO, PL.repO, PL.cutO, PL.sliceO, PL.lcE, PL.yesB, PL.mkBV, PL.mkTM, PL.mkBT, PL.negD, List.map_cons, List.map_nil, List.length_cons, List.length_nil, List.getElem?_cons_zero, List.getElem?_cons_succ, List.set_cons_zero, List.set_cons_succ, List.cons_append, List.nil_append, List.replicate_succ, List.replicate_zero, List.append_nil, Nat.reduceSub, Nat.reduceAdd, Bool.false_eq_true, List.map, PL.eq_int, PL.ne_int, PL.eq_bl,  if_true, if_false, ite_true, ite_false]
end K46

set_option maxRecDepth 100000
set_option maxHeartbeats 1000000
namespace K46
open PySem PL
/-! ## rows -/
/-- the signs of a name -/
def lett (c : Nat) : Bool := decide (97 ≤ c) && decide (c ≤ 122)
def dgt (c : Nat) : Bool := decide (48 ≤ c) && decide (c ≤ 57)
def nmOk : List Nat → Bool | [] => false | c :: cs => lett c && cs.all (fun x => lett x || dgt x) && decide (cs.length ≤ 11)
def nm (cs : List Nat) : Str := ⟨cs.toArray⟩
theorem in_letters (c : Nat) : decide (c ∈ ("abcdefghijklmnopqrstuvwxyz" : Str).cps.toList) = lett c := by
  have e : ("abcdefghijklmnopqrstuvwxyz" : Str).cps.toList = [97, 98, 99, 100, 101, 102, 103, 104, 105, 106, 107, 108, 109, 110, 111, 112, 113, 114, 115, 116, 117, 118, 119, 120, 121, 122] := by decide +kernel
  rw [e]
  unfold lett
  simp only [List.mem_cons, List.not_mem_nil, or_false]
  rw [Bool.eq_iff_iff]
  simp only [decide_eq_true_eq, Bool.and_eq_true]
  omega
theorem in_digits (c : Nat) : decide (c ∈ ("0123456789" : Str).cps.toList) = dgt c := by
  have e : ("0123456789" : Str).cps.toList = [48, 49, 50, 51, 52, 53, 54, 55, 56, 57] := by decide +kernel
  rw [e]
  unfold dgt
  simp only [List.mem_cons, List.not_mem_nil, or_false]
  rw [Bool.eq_iff_iff]
  simp only [decide_eq_true_eq, Bool.and_eq_true]
  omega
theorem notin_letters (c : Nat) : notInD (.str ⟨#[c]⟩) (.str "abcdefghijklmnopqrstuvwxyz") = .ok (.bl (!lett c)) := by
  show Res.ok (D.bl (!decide (c ∈ ("abcdefghijklmnopqrstuvwxyz" : Str).cps.toList))) = _
  rw [in_letters]
theorem notin_digits (c : Nat) : notInD (.str ⟨#[c]⟩) (.str "0123456789") = .ok (.bl (!dgt c)) := by
  show Res.ok (D.bl (!decide (c ∈ ("0123456789" : Str).cps.toList))) = _
  rw [in_digits]
/-- a name's loop -/
theorem name_loop (s : D) : ∀ (cs : List Nat) (o : Sl), ∃ o', forL (gN 1) B1_is_name (cs.map fun c => .str ⟨#[c]⟩) [.sh s, o] = if cs.all (fun x => lett x || dgt x) then .next [.sh s, o'] else .ret (.sh (.bl false))
  | [], o => ⟨o, rfl⟩
  | c :: cs, o => by
    obtain ⟨o', ih⟩ := name_loop s cs (.sh (.str ⟨#[c]⟩))
    refine ⟨o', ?_⟩
    show lpO (forL (gN 1) B1_is_name (cs.map fun c => .str ⟨#[c]⟩)) (B1_is_name [.sh s, .sh (.str ⟨#[c]⟩)]) = _
    have hb : B1_is_name [.sh s, .sh (.str ⟨#[c]⟩)] = if (lett c || dgt c) = true then .next [.sh s, .sh (.str ⟨#[c]⟩)] else .ret (.sh (.bl false)) := by
      unfold B1_is_name
      simp only [PL.runF, PL.runO, PL.start0, PL.sSeq, PL.sNext, PL.sSet, PL.sSetO, PL.sDrop, PL.sRet, PL.sRetO, PL.sRetV, PL.sRetN, PL.sIf, PL.sBrk, PL.sCont, PL.sFrz, PL.sFor, PL.sAsg, PL.sRaise, PL.sTry, PL.tryO, PL.unset, PL.xRet, PL.fldX, PL.ofR_ok, PL.ofR_exc, PL.eC, PL.eVar, PL.bin, PL.una, PL.aNil, PL.aCons, PL.app, PL.appO, PL.own, PL.tru, PL.ifE, PL.andB, PL.orB, PL.notB, PL.gd, PL.bOf, PL.truD, PL.tst, PL.andV, PL.orV, PL.notV, PL.callE, PL.callO, PL.rvD, PL.rvO, PL.bind_ok, PL.bind_exc, PL.bind_stuck, PL.addD, PL.subD, PL.mulD, PL.modD, PL.fdivD, PL.powD, PL.ltD, PL.leD, PL.gtD, PL.geD, PL.isD, PL.isNotD, PL.isNonD, PL.ixD, PL.sliceD, PL.sliceE, PL.pN, PL.pS, PL.lenL, PL.absL, PL.intL, PL.max2L, PL.min2L, PL.listL, PL.tupleL, PL.isiD, PL.isiB, PL.tyD, PL.itE, PL.seqOf, PL.gN, PL.gT, PL.setAll, PL.lp_next, PL.lp_ret, PL.lp_exc, PL.for_nil, PL.for_cons, PL.atI_0, PL.atI_1, PL.atI_2, PL.atI_3, PL.tupD, PL.lstD, PL.owL, PL.setL, PL.sApp, PL.sPop, PL.sPopAt, PL.popAt, PL.sPut, PL.putAt, PL.ixO, PL.borE, PL.borT, PL.borO, PL.binO, PL.catO, PL.repO, PL.cutO, PL.sliceO, PL.lcE, PL.yesB, PL.mkBV, PL.mkTM, PL.mkBT, PL.negD, List.map_cons, List.map_nil, List.length_cons, List.length_nil, List.getElem?_cons_zero, List.getElem?_cons_succ, List.set_cons_zero, List.set_cons_succ, List.cons_append, List.nil_append, List.replicate_succ, List.replicate_zero, List.append_nil, Nat.reduceSub, Nat.reduceAdd, Bool.false_eq_true, List.map, PL.eq_int, PL.ne_int, PL.eq_bl,  if_true, if_false, ite_true, ite_false, notin_letters, notin_digits]
      cases lett c <;> cases dgt c <;> rfl
    rw [hb, List.all_cons]
    by_cases h : (lett c || dgt c) = true
    · rw [if_pos h, h, Bool.true_and]
      exact ih
    · rw [if_neg h]
      have h' : (lett c || dgt c) = false := by simpa using h
      rw [h', Bool.false_and]
      rfl
/-- is_name of a short text -/
theorem is_name_str (cs : List Nat) (h : cs.length ≤ 20) : m_is_name [.str (nm cs)] = .ok (.sh (.bl (nmOk cs))) := by
  have hl : (nm cs).length = cs.length := by show cs.toArray.size = _; simp
  have hs : cs.length ≤ sizeLine := sz _ (by omega)
  cases cs with
  | nil => rfl
  | cons c cs =>
    have h1 : ¬ (((c :: cs).length : Nat) : Int) < 1 := by simp only [List.length_cons]; omega
    have hx : (nm (c :: cs)).cps.toList = c :: cs := by simp [nm]
    have h0 : L2.atI (c :: cs) 0 = some c := by
      have e : L2.ixN (c :: cs).length 0 = some 0 := by
        unfold L2.ixN
        rw [if_pos (by omega), if_pos (by simp only [List.length_cons]; omega)] <;> rfl
      unfold L2.atI
      rw [e] <;> rfl
    have hsg : signs (nm (c :: cs)) = (c :: cs).map fun c => .str ⟨#[c]⟩ := by unfold signs; rw [hx]
    unfold m_is_name b_is_name
    by_cases h2 : (12 : Int) < (((c :: cs).length : Nat) : Int)
    · have e : nmOk (c :: cs) = false := by
        unfold nmOk
        have : ¬ cs.length ≤ 11 := by simp only [List.length_cons] at h2; omega
        simp [this]
      rw [e]
      simp only [List.length_cons] at h1 h2 hl hs
      simp only [PL.runF, PL.runO, PL.start0, PL.sSeq, PL.sNext, PL.sSet, PL.sSetO, PL.sDrop, PL.sRet, PL.sRetO, PL.sRetV, PL.sRetN, PL.sIf, PL.sBrk, PL.sCont, PL.sFrz, PL.sFor, PL.sAsg, PL.sRaise, PL.sTry, PL.tryO, PL.unset, PL.xRet, PL.fldX, PL.ofR_ok, PL.ofR_exc, PL.eC, PL.eVar, PL.bin, PL.una, PL.aNil, PL.aCons, PL.app, PL.appO, PL.own, PL.tru, PL.ifE, PL.andB, PL.orB, PL.notB, PL.gd, PL.bOf, PL.truD, PL.tst, PL.andV, PL.orV, PL.notV, PL.callE, PL.callO, PL.rvD, PL.rvO, PL.bind_ok, PL.bind_exc, PL.bind_stuck, PL.addD, PL.subD, PL.mulD, PL.modD, PL.fdivD, PL.powD, PL.ltD, PL.leD, PL.gtD, PL.geD, PL.isD, PL.isNotD, PL.isNonD, PL.ixD, PL.sliceD, PL.sliceE, PL.pN, PL.pS, PL.lenL, PL.absL, PL.intL, PL.max2L, PL.min2L, PL.listL, PL.tupleL, PL.isiD, PL.isiB, PL.tyD, PL.itE, PL.seqOf, PL.gN, PL.gT, PL.setAll, PL.lp_next, PL.lp_ret, PL.lp_exc, PL.for_nil, PL.for_cons, PL.atI_0, PL.atI_1, PL.atI_2, PL.atI_3, PL.tupD, PL.lstD, PL.owL, PL.setL, PL.sApp, PL.sPop, PL.sPopAt, PL.popAt, PL.sPut, PL.putAt, PL.ixO, PL.borE, PL.borT, PL.borO, PL.binO, PL.catO, PL.repO, PL.cutO, PL.sliceO, PL.lcE, PL.yesB, PL.mkBV, PL.mkTM, PL.mkBT, PL.negD, List.map_cons, List.map_nil, List.length_cons, List.length_nil, List.getElem?_cons_zero, List.getElem?_cons_succ, List.set_cons_zero, List.set_cons_succ, List.cons_append, List.nil_append, List.replicate_succ, List.replicate_zero, List.append_nil, Nat.reduceSub, Nat.reduceAdd, Bool.false_eq_true, List.map, PL.eq_int, PL.ne_int, PL.eq_bl,  if_true, if_false, ite_true, ite_false, String.reduceBEq, decide_true, decide_false, Bool.not_true, Bool.not_false, Bool.true_and, Bool.false_and, Bool.and_true, Bool.and_false, Bool.true_or, Bool.false_or, Bool.or_true, Bool.or_false, decide_not, Bool.not_eq_true, Bool.not_not, reduceCtorEq, ne_eq, not_true_eq_false, not_false_eq_true, eq_self, beq_self_eq_true, bne_self_eq_false, and_true, true_and, and_self, hl, hs, h1, h2]
    · have l11 : decide (cs.length ≤ 11) = true := by
        simp only [List.length_cons] at h2
        exact decide_eq_true (by omega)
      have e : nmOk (c :: cs) = (lett c && cs.all (fun x => lett x || dgt x)) := by show ((lett c && _) && decide _) = _; rw [l11, Bool.and_true]
      rw [e]
      obtain ⟨o', nl⟩ := name_loop (.str (nm (c :: cs))) (c :: cs) .no
      rw [← hsg] at nl
      simp only [List.length_cons] at h1 h2 hl hs
      cases hc : lett c with
      | false => simp only [PL.runF, PL.runO, PL.start0, PL.sSeq, PL.sNext, PL.sSet, PL.sSetO, PL.sDrop, PL.sRet, PL.sRetO, PL.sRetV, PL.sRetN, PL.sIf, PL.sBrk, PL.sCont, PL.sFrz, PL.sFor, PL.sAsg, PL.sRaise, PL.sTry, PL.tryO, PL.unset, PL.xRet, PL.fldX, PL.ofR_ok, PL.ofR_exc, PL.eC, PL.eVar, PL.bin, PL.una, PL.aNil, PL.aCons, PL.app, PL.appO, PL.own, PL.tru, PL.ifE, PL.andB, PL.orB, PL.notB, PL.gd, PL.bOf, PL.truD, PL.tst, PL.andV, PL.orV, PL.notV, PL.callE, PL.callO, PL.rvD, PL.rvO, PL.bind_ok, PL.bind_exc, PL.bind_stuck, PL.addD, PL.subD, PL.mulD, PL.modD, PL.fdivD, PL.powD, PL.ltD, PL.leD, PL.gtD, PL.geD, PL.isD, PL.isNotD, PL.isNonD, PL.ixD, PL.sliceD, PL.sliceE, PL.pN, PL.pS, PL.lenL, PL.absL, PL.intL, PL.max2L, PL.min2L, PL.listL, PL.tupleL, PL.isiD, PL.isiB, PL.tyD, PL.itE, PL.seqOf, PL.gN, PL.gT, PL.setAll, PL.lp_next, PL.lp_ret, PL.lp_exc, PL.for_nil, PL.for_cons, PL.atI_0, PL.atI_1, PL.atI_2, PL.atI_3, PL.tupD, PL.lstD, PL.owL, PL.setL, PL.sApp, PL.sPop, PL.sPopAt, PL.popAt, PL.sPut, PL.putAt, PL.ixO, PL.borE, PL.borT, PL.borO, PL.binO, PL.catO, PL.repO, PL.cutO, PL.sliceO, PL.lcE, PL.yesB, PL.mkBV, PL.mkTM, PL.mkBT, PL.negD, List.map_cons, List.map_nil, List.length_cons, List.length_nil, List.getElem?_cons_zero, List.getElem?_cons_succ, List.set_cons_zero, List.set_cons_succ, List.cons_append, List.nil_append, List.replicate_succ, List.replicate_zero, List.append_nil, Nat.reduceSub, Nat.reduceAdd, Bool.false_eq_true, List.map, PL.eq_int, PL.ne_int, PL.eq_bl,  if_true, if_false, ite_true, ite_false, String.reduceBEq, decide_true, decide_false, Bool.not_true, Bool.not_false, Bool.true_and, Bool.false_and, Bool.and_true, Bool.and_false, Bool.true_or, Bool.false_or, Bool.or_true, Bool.or_false, decide_not, Bool.not_eq_true, Bool.not_not, reduceCtorEq, ne_eq, not_true_eq_false, not_false_eq_true, eq_self, beq_self_eq_true, bne_self_eq_false, and_true, true_and, and_self, hl, hs, h1, h2, hx, h0, notin_letters, hc]
      | true =>
        cases ha : cs.all (fun x => lett x || dgt x) <;> simp only [List.all_cons, hc, ha, String.reduceBEq, decide_true, decide_false, Bool.not_true, Bool.not_false, Bool.true_and, Bool.false_and, Bool.and_true, Bool.and_false, Bool.true_or, Bool.false_or, Bool.or_true, Bool.or_false, decide_not, Bool.not_eq_true, Bool.not_not, reduceCtorEq, ne_eq, not_true_eq_false, not_false_eq_true, eq_self, beq_self_eq_true, bne_self_eq_false, and_true, true_and, and_self, if_true, if_false] at nl <;> simp only [PL.runF, PL.runO, PL.start0, PL.sSeq, PL.sNext, PL.sSet, PL.sSetO, PL.sDrop, PL.sRet, PL.sRetO, PL.sRetV, PL.sRetN, PL.sIf, PL.sBrk, PL.sCont, PL.sFrz, PL.sFor, PL.sAsg, PL.sRaise, PL.sTry, PL.tryO, PL.unset, PL.xRet, PL.fldX, PL.ofR_ok, PL.ofR_exc, PL.eC, PL.eVar, PL.bin, PL.una, PL.aNil, PL.aCons, PL.app, PL.appO, PL.own, PL.tru, PL.ifE, PL.andB, PL.orB, PL.notB, PL.gd, PL.bOf, PL.truD, PL.tst, PL.andV, PL.orV, PL.notV, PL.callE, PL.callO, PL.rvD, PL.rvO, PL.bind_ok, PL.bind_exc, PL.bind_stuck, PL.addD, PL.subD, PL.mulD, PL.modD, PL.fdivD, PL.powD, PL.ltD, PL.leD, PL.gtD, PL.geD, PL.isD, PL.isNotD, PL.isNonD, PL.ixD, PL.sliceD, PL.sliceE, PL.pN, PL.pS, PL.lenL, PL.absL, PL.intL, PL.max2L, PL.min2L, PL.listL, PL.tupleL, PL.isiD, PL.isiB, PL.tyD, PL.itE, PL.seqOf, PL.gN, PL.gT, PL.setAll, PL.lp_next, PL.lp_ret, PL.lp_exc, PL.for_nil, PL.for_cons, PL.atI_0, PL.atI_1, PL.atI_2, PL.atI_3, PL.tupD, PL.lstD, PL.owL, PL.setL, PL.sApp, PL.sPop, PL.sPopAt, PL.popAt, PL.sPut, PL.putAt, PL.ixO, PL.borE, PL.borT, PL.borO, PL.binO, PL.catO, PL.repO, PL.cutO, PL.sliceO, PL.lcE, PL.yesB, PL.mkBV, PL.mkTM, PL.mkBT, PL.negD, List.map_cons, List.map_nil, List.length_cons, List.length_nil, List.getElem?_cons_zero, List.getElem?_cons_succ, List.set_cons_zero, List.set_cons_succ, List.cons_append, List.nil_append, List.replicate_succ, List.replicate_zero, List.append_nil, Nat.reduceSub, Nat.reduceAdd, Bool.false_eq_true, List.map, PL.eq_int, PL.ne_int, PL.eq_bl,  if_true, if_false, ite_true, ite_false, String.reduceBEq, decide_true, decide_false, Bool.not_true, Bool.not_false, Bool.true_and, Bool.false_and, Bool.and_true, Bool.and_false, Bool.true_or, Bool.false_or, Bool.or_true, Bool.or_false, decide_not, Bool.not_eq_true, Bool.not_not, reduceCtorEq, ne_eq, not_true_eq_false, not_false_eq_true, eq_self, beq_self_eq_true, bne_self_eq_false, and_true, true_and, and_self, hl, hs, h1, h2, hx, h0, notin_letters, hc, nl]
end K46

set_option maxRecDepth 100000
set_option maxHeartbeats 1000000
namespace K46
open PySem PL
abbrev yes : Res RV := .ok (.sh (.bl true))
abbrev no : Res RV := .ok (.sh (.bl false))
abbrev bv (b : Bool) : Res RV := .ok (.sh (.bl b))
theorem in_range_not (d : D) (lo hi : Int) (h : m_is_integer [d] = no) : m_in_range [d, .int lo, .int hi] = no := by
  unfold m_in_range b_in_range
  simp only [PL.runF, PL.runO, PL.start0, PL.sSeq, PL.sNext, PL.sSet, PL.sSetO, PL.sDrop, PL.sRet, PL.sRetO, PL.sRetV, PL.sRetN, PL.sIf, PL.sBrk, PL.sCont, PL.sFrz, PL.sFor, PL.sAsg, PL.sRaise, PL.sTry, PL.tryO, PL.unset, PL.xRet, PL.fldX, PL.ofR_ok, PL.ofR_exc, PL.eC, PL.eVar, PL.bin, PL.una, PL.aNil, PL.aCons, PL.app, PL.appO, PL.own, PL.tru, PL.ifE, PL.andB, PL.orB, PL.notB, PL.gd, PL.bOf, PL.truD, PL.tst, PL.andV, PL.orV, PL.notV, PL.callE, PL.callO, PL.rvD, PL.rvO, PL.bind_ok, PL.bind_exc, PL.bind_stuck, PL.addD, PL.subD, PL.mulD, PL.modD, PL.fdivD, PL.powD, PL.ltD, PL.leD, PL.gtD, PL.geD, PL.isD, PL.isNotD, PL.isNonD, PL.ixD, PL.sliceD, PL.sliceE, PL.pN, PL.pS, PL.lenL, PL.absL, PL.intL, PL.max2L, PL.min2L, PL.listL, PL.tupleL, PL.isiD, PL.isiB, PL.tyD, PL.itE, PL.seqOf, PL.gN, PL.gT, PL.setAll, PL.lp_next, PL.lp_ret, PL.lp_exc, PL.for_nil, PL.for_cons, PL.atI_0, PL.atI_1, PL.atI_2, PL.atI_3, PL.tupD, PL.lstD, PL.owL, PL.setL, PL.sApp, PL.sPop, PL.sPopAt, PL.popAt, PL.sPut, PL.putAt, PL.ixO, PL.borE, PL.borT, PL.borO, PL.binO, PL.catO, PL.repO, PL.cutO, PL.sliceO, PL.lcE, PL.yesB, PL.mkBV, PL.mkTM, PL.mkBT, PL.negD, List.map_cons, List.map_nil, List.length_cons, List.length_nil, List.getElem?_cons_zero, List.getElem?_cons_succ, List.set_cons_zero, List.set_cons_succ, List.cons_append, List.nil_append, List.replicate_succ, List.replicate_zero, List.append_nil, Nat.reduceSub, Nat.reduceAdd, Bool.false_eq_true, List.map, PL.eq_int, PL.ne_int, PL.eq_bl,  if_true, if_false, ite_true, ite_false, h]
theorem time_int (i : Int) : m_is_time [.int i] = bv (decide (0 ≤ i) && decide (i ≤ 1000000)) := by
  unfold m_is_time b_is_time
  simp only [PL.runF, PL.runO, PL.start0, PL.sSeq, PL.sNext, PL.sSet, PL.sSetO, PL.sDrop, PL.sRet, PL.sRetO, PL.sRetV, PL.sRetN, PL.sIf, PL.sBrk, PL.sCont, PL.sFrz, PL.sFor, PL.sAsg, PL.sRaise, PL.sTry, PL.tryO, PL.unset, PL.xRet, PL.fldX, PL.ofR_ok, PL.ofR_exc, PL.eC, PL.eVar, PL.bin, PL.una, PL.aNil, PL.aCons, PL.app, PL.appO, PL.own, PL.tru, PL.ifE, PL.andB, PL.orB, PL.notB, PL.gd, PL.bOf, PL.truD, PL.tst, PL.andV, PL.orV, PL.notV, PL.callE, PL.callO, PL.rvD, PL.rvO, PL.bind_ok, PL.bind_exc, PL.bind_stuck, PL.addD, PL.subD, PL.mulD, PL.modD, PL.fdivD, PL.powD, PL.ltD, PL.leD, PL.gtD, PL.geD, PL.isD, PL.isNotD, PL.isNonD, PL.ixD, PL.sliceD, PL.sliceE, PL.pN, PL.pS, PL.lenL, PL.absL, PL.intL, PL.max2L, PL.min2L, PL.listL, PL.tupleL, PL.isiD, PL.isiB, PL.tyD, PL.itE, PL.seqOf, PL.gN, PL.gT, PL.setAll, PL.lp_next, PL.lp_ret, PL.lp_exc, PL.for_nil, PL.for_cons, PL.atI_0, PL.atI_1, PL.atI_2, PL.atI_3, PL.tupD, PL.lstD, PL.owL, PL.setL, PL.sApp, PL.sPop, PL.sPopAt, PL.popAt, PL.sPut, PL.putAt, PL.ixO, PL.borE, PL.borT, PL.borO, PL.binO, PL.catO, PL.repO, PL.cutO, PL.sliceO, PL.lcE, PL.yesB, PL.mkBV, PL.mkTM, PL.mkBT, PL.negD, List.map_cons, List.map_nil, List.length_cons, List.length_nil, List.getElem?_cons_zero, List.getElem?_cons_succ, List.set_cons_zero, List.set_cons_succ, List.cons_append, List.nil_append, List.replicate_succ, List.replicate_zero, List.append_nil, Nat.reduceSub, Nat.reduceAdd, Bool.false_eq_true, List.map, PL.eq_int, PL.ne_int, PL.eq_bl,  if_true, if_false, ite_true, ite_false, in_range_int]
theorem time_not (d : D) (h : m_is_integer [d] = no) : m_is_time [d] = no := by
  unfold m_is_time b_is_time
  simp only [PL.runF, PL.runO, PL.start0, PL.sSeq, PL.sNext, PL.sSet, PL.sSetO, PL.sDrop, PL.sRet, PL.sRetO, PL.sRetV, PL.sRetN, PL.sIf, PL.sBrk, PL.sCont, PL.sFrz, PL.sFor, PL.sAsg, PL.sRaise, PL.sTry, PL.tryO, PL.unset, PL.xRet, PL.fldX, PL.ofR_ok, PL.ofR_exc, PL.eC, PL.eVar, PL.bin, PL.una, PL.aNil, PL.aCons, PL.app, PL.appO, PL.own, PL.tru, PL.ifE, PL.andB, PL.orB, PL.notB, PL.gd, PL.bOf, PL.truD, PL.tst, PL.andV, PL.orV, PL.notV, PL.callE, PL.callO, PL.rvD, PL.rvO, PL.bind_ok, PL.bind_exc, PL.bind_stuck, PL.addD, PL.subD, PL.mulD, PL.modD, PL.fdivD, PL.powD, PL.ltD, PL.leD, PL.gtD, PL.geD, PL.isD, PL.isNotD, PL.isNonD, PL.ixD, PL.sliceD, PL.sliceE, PL.pN, PL.pS, PL.lenL, PL.absL, PL.intL, PL.max2L, PL.min2L, PL.listL, PL.tupleL, PL.isiD, PL.isiB, PL.tyD, PL.itE, PL.seqOf, PL.gN, PL.gT, PL.setAll, PL.lp_next, PL.lp_ret, PL.lp_exc, PL.for_nil, PL.for_cons, PL.atI_0, PL.atI_1, PL.atI_2, PL.atI_3, PL.tupD, PL.lstD, PL.owL, PL.setL, PL.sApp, PL.sPop, PL.sPopAt, PL.popAt, PL.sPut, PL.putAt, PL.ixO, PL.borE, PL.borT, PL.borO, PL.binO, PL.catO, PL.repO, PL.cutO, PL.sliceO, PL.lcE, PL.yesB, PL.mkBV, PL.mkTM, PL.mkBT, PL.negD, List.map_cons, List.map_nil, List.length_cons, List.length_nil, List.getElem?_cons_zero, List.getElem?_cons_succ, List.set_cons_zero, List.set_cons_succ, List.cons_append, List.nil_append, List.replicate_succ, List.replicate_zero, List.append_nil, Nat.reduceSub, Nat.reduceAdd, Bool.false_eq_true, List.map, PL.eq_int, PL.ne_int, PL.eq_bl,  if_true, if_false, ite_true, ite_false, in_range_not d _ _ h]
theorem op_gen {t b n x : D} {a1 a2 a3 a4 : Bool} (h1 : m_is_time [t] = bv a1) (h2 : m_in_range [b, .int 0, .int 29] = bv a2) (h3 : m_is_name [n] = bv a3) (h4 : inD x (.tup [.str "in", .str "out"]) = .ok (.bl a4)) :
    m_is_opening [.tup [t, b, n, x]] = bv (a1 && (a2 && (a3 && a4))) := by
  unfold m_is_opening b_is_opening
  cases a1 <;> cases a2 <;> cases a3 <;> simp [PL.runF, PL.runO, PL.start0, PL.sSeq, PL.sNext, PL.sSet, PL.sSetO, PL.sDrop, PL.sRet, PL.sRetO, PL.sRetV, PL.sRetN, PL.sIf, PL.sBrk, PL.sCont, PL.sFrz, PL.sFor, PL.sAsg, PL.sRaise, PL.sTry, PL.tryO, PL.unset, PL.xRet, PL.fldX, PL.ofR_ok, PL.ofR_exc, PL.eC, PL.eVar, PL.bin, PL.una, PL.aNil, PL.aCons, PL.app, PL.appO, PL.own, PL.tru, PL.ifE, PL.andB, PL.orB, PL.notB, PL.gd, PL.bOf, PL.truD, PL.tst, PL.andV, PL.orV, PL.notV, PL.callE, PL.callO, PL.rvD, PL.rvO, PL.bind_ok, PL.bind_exc, PL.bind_stuck, PL.addD, PL.subD, PL.mulD, PL.modD, PL.fdivD, PL.powD, PL.ltD, PL.leD, PL.gtD, PL.geD, PL.isD, PL.isNotD, PL.isNonD, PL.ixD, PL.sliceD, PL.sliceE, PL.pN, PL.pS, PL.lenL, PL.absL, PL.intL, PL.max2L, PL.min2L, PL.listL, PL.tupleL, PL.isiD, PL.isiB, PL.tyD, PL.itE, PL.seqOf, PL.gN, PL.gT, PL.setAll, PL.lp_next, PL.lp_ret, PL.lp_exc, PL.for_nil, PL.for_cons, PL.atI_0, PL.atI_1, PL.atI_2, PL.atI_3, PL.tupD, PL.lstD, PL.owL, PL.setL, PL.sApp, PL.sPop, PL.sPopAt, PL.popAt, PL.sPut, PL.putAt, PL.ixO, PL.borE, PL.borT, PL.borO, PL.binO, PL.catO, PL.repO, PL.cutO, PL.sliceO, PL.lcE, PL.yesB, PL.mkBV, PL.mkTM, PL.mkBT, PL.negD, List.map_cons, List.map_nil, List.length_cons, List.length_nil, List.getElem?_cons_zero, List.getElem?_cons_succ, List.set_cons_zero, List.set_cons_succ, List.cons_append, List.nil_append, List.replicate_succ, List.replicate_zero, List.append_nil, Nat.reduceSub, Nat.reduceAdd, Bool.false_eq_true, List.map, PL.eq_int, PL.ne_int, PL.eq_bl,  if_true, if_false, ite_true, ite_false, String.reduceBEq, decide_true, decide_false, Bool.not_true, Bool.not_false, Bool.true_and, Bool.false_and, Bool.and_true, Bool.and_false, Bool.true_or, Bool.false_or, Bool.or_true, Bool.or_false, decide_not, Bool.not_eq_true, Bool.not_not, reduceCtorEq, ne_eq, not_true_eq_false, not_false_eq_true, eq_self, beq_self_eq_true, bne_self_eq_false, and_true, true_and, and_self, h1, h2, h3, h4]
theorem op_tup {xs : List D} (h : xs.length ≠ 4) : m_is_opening [.tup xs] = no := by
  unfold m_is_opening b_is_opening
  have h2 : ¬ (xs.length : Int) = 4 := by omega
  simp only [PL.runF, PL.runO, PL.start0, PL.sSeq, PL.sNext, PL.sSet, PL.sSetO, PL.sDrop, PL.sRet, PL.sRetO, PL.sRetV, PL.sRetN, PL.sIf, PL.sBrk, PL.sCont, PL.sFrz, PL.sFor, PL.sAsg, PL.sRaise, PL.sTry, PL.tryO, PL.unset, PL.xRet, PL.fldX, PL.ofR_ok, PL.ofR_exc, PL.eC, PL.eVar, PL.bin, PL.una, PL.aNil, PL.aCons, PL.app, PL.appO, PL.own, PL.tru, PL.ifE, PL.andB, PL.orB, PL.notB, PL.gd, PL.bOf, PL.truD, PL.tst, PL.andV, PL.orV, PL.notV, PL.callE, PL.callO, PL.rvD, PL.rvO, PL.bind_ok, PL.bind_exc, PL.bind_stuck, PL.addD, PL.subD, PL.mulD, PL.modD, PL.fdivD, PL.powD, PL.ltD, PL.leD, PL.gtD, PL.geD, PL.isD, PL.isNotD, PL.isNonD, PL.ixD, PL.sliceD, PL.sliceE, PL.pN, PL.pS, PL.lenL, PL.absL, PL.intL, PL.max2L, PL.min2L, PL.listL, PL.tupleL, PL.isiD, PL.isiB, PL.tyD, PL.itE, PL.seqOf, PL.gN, PL.gT, PL.setAll, PL.lp_next, PL.lp_ret, PL.lp_exc, PL.for_nil, PL.for_cons, PL.atI_0, PL.atI_1, PL.atI_2, PL.atI_3, PL.tupD, PL.lstD, PL.owL, PL.setL, PL.sApp, PL.sPop, PL.sPopAt, PL.popAt, PL.sPut, PL.putAt, PL.ixO, PL.borE, PL.borT, PL.borO, PL.binO, PL.catO, PL.repO, PL.cutO, PL.sliceO, PL.lcE, PL.yesB, PL.mkBV, PL.mkTM, PL.mkBT, PL.negD, List.map_cons, List.map_nil, List.length_cons, List.length_nil, List.getElem?_cons_zero, List.getElem?_cons_succ, List.set_cons_zero, List.set_cons_succ, List.cons_append, List.nil_append, List.replicate_succ, List.replicate_zero, List.append_nil, Nat.reduceSub, Nat.reduceAdd, Bool.false_eq_true, List.map, PL.eq_int, PL.ne_int, PL.eq_bl,  if_true, if_false, ite_true, ite_false, String.reduceBEq, decide_true, decide_false, Bool.not_true, Bool.not_false, Bool.true_and, Bool.false_and, Bool.and_true, Bool.and_false, Bool.true_or, Bool.false_or, Bool.or_true, Bool.or_false, decide_not, Bool.not_eq_true, Bool.not_not, reduceCtorEq, ne_eq, not_true_eq_false, not_false_eq_true, eq_self, beq_self_eq_true, bne_self_eq_false, and_true, true_and, and_self, h2]
theorem op_not {d : D} (h : isiB (tyD d) "tuple" = false) : m_is_opening [d] = no := by
  cases d <;> first | rfl | (cases h; done)
structure Row where
  t : Int
  b : Int
  p : List Nat
  w : Bool
def way (w : Bool) : Str := if w then "in" else "out"
def Row.d (r : Row) : D := .tup [.int r.t, .int r.b, .str (nm r.p), .str (way r.w)]
def Row.ok (r : Row) : Prop := 0 ≤ r.t ∧ r.t ≤ 1000000 ∧ 0 ≤ r.b ∧ r.b ≤ 29 ∧ nmOk r.p = true
theorem nm_len {p : List Nat} (h : nmOk p = true) : 1 ≤ p.length ∧ p.length ≤ 12 := by
  cases p with
  | nil => cases h
  | cons c cs =>
    unfold nmOk at h
    simp only [Bool.and_eq_true, decide_eq_true_eq] at h
    simp only [List.length_cons]
    omega
theorem way_in (w : Bool) : inD (.str (way w)) (.tup [.str "in", .str "out"]) = .ok (.bl true) := by cases w <;> rfl
theorem row_time {r : Row} (h : r.ok) : m_is_time [.int r.t] = yes := by rw [time_int, decide_eq_true h.1, decide_eq_true h.2.1]; rfl
theorem row_box {r : Row} (h : r.ok) : m_in_range [.int r.b, .int 0, .int 29] = yes := by rw [in_range_int, decide_eq_true h.2.2.1, decide_eq_true h.2.2.2.1]; rfl
theorem row_name {r : Row} (h : r.ok) : m_is_name [.str (nm r.p)] = yes := by rw [is_name_str _ (by have := nm_len h.2.2.2.2; omega), h.2.2.2.2]
theorem op_row {r : Row} (h : r.ok) : m_is_opening [r.d] = yes := op_gen (row_time h) (row_box h) (row_name h) (way_in _)
/-! ## doors' checks -/
theorem rows_loop {v : D} : ∀ (rs : List Row) (o : Sl), (∀ r ∈ rs, r.ok) → ∃ o', forL (gN 1) B1_need_history (rs.map Row.d) [.sh v, o] = .next [.sh v, o']
  | [], o, _ => ⟨o, rfl⟩
  | r :: rs, o, h => by
    obtain ⟨o', ih⟩ := rows_loop (v := v) rs (.sh r.d) fun x hx => h x (List.mem_cons_of_mem _ hx)
    refine ⟨o', ?_⟩
    have hb : B1_need_history [.sh v, .sh r.d] = .next [.sh v, .sh r.d] := by
      unfold B1_need_history
      simp only [PL.runF, PL.runO, PL.start0, PL.sSeq, PL.sNext, PL.sSet, PL.sSetO, PL.sDrop, PL.sRet, PL.sRetO, PL.sRetV, PL.sRetN, PL.sIf, PL.sBrk, PL.sCont, PL.sFrz, PL.sFor, PL.sAsg, PL.sRaise, PL.sTry, PL.tryO, PL.unset, PL.xRet, PL.fldX, PL.ofR_ok, PL.ofR_exc, PL.eC, PL.eVar, PL.bin, PL.una, PL.aNil, PL.aCons, PL.app, PL.appO, PL.own, PL.tru, PL.ifE, PL.andB, PL.orB, PL.notB, PL.gd, PL.bOf, PL.truD, PL.tst, PL.andV, PL.orV, PL.notV, PL.callE, PL.callO, PL.rvD, PL.rvO, PL.bind_ok, PL.bind_exc, PL.bind_stuck, PL.addD, PL.subD, PL.mulD, PL.modD, PL.fdivD, PL.powD, PL.ltD, PL.leD, PL.gtD, PL.geD, PL.isD, PL.isNotD, PL.isNonD, PL.ixD, PL.sliceD, PL.sliceE, PL.pN, PL.pS, PL.lenL, PL.absL, PL.intL, PL.max2L, PL.min2L, PL.listL, PL.tupleL, PL.isiD, PL.isiB, PL.tyD, PL.itE, PL.seqOf, PL.gN, PL.gT, PL.setAll, PL.lp_next, PL.lp_ret, PL.lp_exc, PL.for_nil, PL.for_cons, PL.atI_0, PL.atI_1, PL.atI_2, PL.atI_3, PL.tupD, PL.lstD, PL.owL, PL.setL, PL.sApp, PL.sPop, PL.sPopAt, PL.popAt, PL.sPut, PL.putAt, PL.ixO, PL.borE, PL.borT, PL.borO, PL.binO, PL.catO, PL.repO, PL.cutO, PL.sliceO, PL.lcE, PL.yesB, PL.mkBV, PL.mkTM, PL.mkBT, PL.negD, List.map_cons, List.map_nil, List.length_cons, List.length_nil, List.getElem?_cons_zero, List.getElem?_cons_succ, List.set_cons_zero, List.set_cons_succ, List.cons_append, List.nil_append, List.replicate_succ, List.replicate_zero, List.append_nil, Nat.reduceSub, Nat.reduceAdd, Bool.false_eq_true, List.map, PL.eq_int, PL.ne_int, PL.eq_bl,  if_true, if_false, ite_true, ite_false, String.reduceBEq, decide_true, decide_false, Bool.not_true, Bool.not_false, Bool.true_and, Bool.false_and, Bool.and_true, Bool.and_false, Bool.true_or, Bool.false_or, Bool.or_true, Bool.or_false, decide_not, Bool.not_eq_true, Bool.not_not, reduceCtorEq, ne_eq, not_true_eq_false, not_false_eq_true, eq_self, beq_self_eq_true, bne_self_eq_false, and_true, true_and, and_self, op_row (h r List.mem_cons_self)]
    show lpO _ (B1_need_history [.sh v, .sh r.d]) = _
    rw [hb]
    exact ih
theorem need_history_ok (rs : List Row) (h : ∀ r ∈ rs, r.ok) (hl : rs.length ≤ 60) : m_need_history [.lst (rs.map Row.d)] = .ok (.sh .non) := by
  have h1 := need_list_ok (rs.map Row.d) 60 (.str "history") (by simp; omega)
  obtain ⟨o', h2⟩ := rows_loop (v := .lst (rs.map Row.d)) rs .no h
  unfold m_need_history b_need_history
  simp only [PL.runF, PL.runO, PL.start0, PL.sSeq, PL.sNext, PL.sSet, PL.sSetO, PL.sDrop, PL.sRet, PL.sRetO, PL.sRetV, PL.sRetN, PL.sIf, PL.sBrk, PL.sCont, PL.sFrz, PL.sFor, PL.sAsg, PL.sRaise, PL.sTry, PL.tryO, PL.unset, PL.xRet, PL.fldX, PL.ofR_ok, PL.ofR_exc, PL.eC, PL.eVar, PL.bin, PL.una, PL.aNil, PL.aCons, PL.app, PL.appO, PL.own, PL.tru, PL.ifE, PL.andB, PL.orB, PL.notB, PL.gd, PL.bOf, PL.truD, PL.tst, PL.andV, PL.orV, PL.notV, PL.callE, PL.callO, PL.rvD, PL.rvO, PL.bind_ok, PL.bind_exc, PL.bind_stuck, PL.addD, PL.subD, PL.mulD, PL.modD, PL.fdivD, PL.powD, PL.ltD, PL.leD, PL.gtD, PL.geD, PL.isD, PL.isNotD, PL.isNonD, PL.ixD, PL.sliceD, PL.sliceE, PL.pN, PL.pS, PL.lenL, PL.absL, PL.intL, PL.max2L, PL.min2L, PL.listL, PL.tupleL, PL.isiD, PL.isiB, PL.tyD, PL.itE, PL.seqOf, PL.gN, PL.gT, PL.setAll, PL.lp_next, PL.lp_ret, PL.lp_exc, PL.for_nil, PL.for_cons, PL.atI_0, PL.atI_1, PL.atI_2, PL.atI_3, PL.tupD, PL.lstD, PL.owL, PL.setL, PL.sApp, PL.sPop, PL.sPopAt, PL.popAt, PL.sPut, PL.putAt, PL.ixO, PL.borE, PL.borT, PL.borO, PL.binO, PL.catO, PL.repO, PL.cutO, PL.sliceO, PL.lcE, PL.yesB, PL.mkBV, PL.mkTM, PL.mkBT, PL.negD, List.map_cons, List.map_nil, List.length_cons, List.length_nil, List.getElem?_cons_zero, List.getElem?_cons_succ, List.set_cons_zero, List.set_cons_succ, List.cons_append, List.nil_append, List.replicate_succ, List.replicate_zero, List.append_nil, Nat.reduceSub, Nat.reduceAdd, Bool.false_eq_true, List.map, PL.eq_int, PL.ne_int, PL.eq_bl,  if_true, if_false, ite_true, ite_false, h1, h2]
theorem need_history_many (xs : List D) (h : 60 < xs.length) : m_need_history [.lst xs] = .exc (.tooMany (.int 60)) := by
  have h1 := need_list_many xs 60 (.str "history") (by omega)
  unfold m_need_history b_need_history
  simp only [PL.runF, PL.runO, PL.start0, PL.sSeq, PL.sNext, PL.sSet, PL.sSetO, PL.sDrop, PL.sRet, PL.sRetO, PL.sRetV, PL.sRetN, PL.sIf, PL.sBrk, PL.sCont, PL.sFrz, PL.sFor, PL.sAsg, PL.sRaise, PL.sTry, PL.tryO, PL.unset, PL.xRet, PL.fldX, PL.ofR_ok, PL.ofR_exc, PL.eC, PL.eVar, PL.bin, PL.una, PL.aNil, PL.aCons, PL.app, PL.appO, PL.own, PL.tru, PL.ifE, PL.andB, PL.orB, PL.notB, PL.gd, PL.bOf, PL.truD, PL.tst, PL.andV, PL.orV, PL.notV, PL.callE, PL.callO, PL.rvD, PL.rvO, PL.bind_ok, PL.bind_exc, PL.bind_stuck, PL.addD, PL.subD, PL.mulD, PL.modD, PL.fdivD, PL.powD, PL.ltD, PL.leD, PL.gtD, PL.geD, PL.isD, PL.isNotD, PL.isNonD, PL.ixD, PL.sliceD, PL.sliceE, PL.pN, PL.pS, PL.lenL, PL.absL, PL.intL, PL.max2L, PL.min2L, PL.listL, PL.tupleL, PL.isiD, PL.isiB, PL.tyD, PL.itE, PL.seqOf, PL.gN, PL.gT, PL.setAll, PL.lp_next, PL.lp_ret, PL.lp_exc, PL.for_nil, PL.for_cons, PL.atI_0, PL.atI_1, PL.atI_2, PL.atI_3, PL.tupD, PL.lstD, PL.owL, PL.setL, PL.sApp, PL.sPop, PL.sPopAt, PL.popAt, PL.sPut, PL.putAt, PL.ixO, PL.borE, PL.borT, PL.borO, PL.binO, PL.catO, PL.repO, PL.cutO, PL.sliceO, PL.lcE, PL.yesB, PL.mkBV, PL.mkTM, PL.mkBT, PL.negD, List.map_cons, List.map_nil, List.length_cons, List.length_nil, List.getElem?_cons_zero, List.getElem?_cons_succ, List.set_cons_zero, List.set_cons_succ, List.cons_append, List.nil_append, List.replicate_succ, List.replicate_zero, List.append_nil, Nat.reduceSub, Nat.reduceAdd, Bool.false_eq_true, List.map, PL.eq_int, PL.ne_int, PL.eq_bl,  if_true, if_false, ite_true, ite_false, h1]
theorem need_history_no (xs : List D) : m_need_history [.tup xs] = .exc (.badValue (.str "history")) := by
  have h1 := need_list_no xs 60 (.str "history")
  unfold m_need_history b_need_history
  simp only [PL.runF, PL.runO, PL.start0, PL.sSeq, PL.sNext, PL.sSet, PL.sSetO, PL.sDrop, PL.sRet, PL.sRetO, PL.sRetV, PL.sRetN, PL.sIf, PL.sBrk, PL.sCont, PL.sFrz, PL.sFor, PL.sAsg, PL.sRaise, PL.sTry, PL.tryO, PL.unset, PL.xRet, PL.fldX, PL.ofR_ok, PL.ofR_exc, PL.eC, PL.eVar, PL.bin, PL.una, PL.aNil, PL.aCons, PL.app, PL.appO, PL.own, PL.tru, PL.ifE, PL.andB, PL.orB, PL.notB, PL.gd, PL.bOf, PL.truD, PL.tst, PL.andV, PL.orV, PL.notV, PL.callE, PL.callO, PL.rvD, PL.rvO, PL.bind_ok, PL.bind_exc, PL.bind_stuck, PL.addD, PL.subD, PL.mulD, PL.modD, PL.fdivD, PL.powD, PL.ltD, PL.leD, PL.gtD, PL.geD, PL.isD, PL.isNotD, PL.isNonD, PL.ixD, PL.sliceD, PL.sliceE, PL.pN, PL.pS, PL.lenL, PL.absL, PL.intL, PL.max2L, PL.min2L, PL.listL, PL.tupleL, PL.isiD, PL.isiB, PL.tyD, PL.itE, PL.seqOf, PL.gN, PL.gT, PL.setAll, PL.lp_next, PL.lp_ret, PL.lp_exc, PL.for_nil, PL.for_cons, PL.atI_0, PL.atI_1, PL.atI_2, PL.atI_3, PL.tupD, PL.lstD, PL.owL, PL.setL, PL.sApp, PL.sPop, PL.sPopAt, PL.popAt, PL.sPut, PL.putAt, PL.ixO, PL.borE, PL.borT, PL.borO, PL.binO, PL.catO, PL.repO, PL.cutO, PL.sliceO, PL.lcE, PL.yesB, PL.mkBV, PL.mkTM, PL.mkBT, PL.negD, List.map_cons, List.map_nil, List.length_cons, List.length_nil, List.getElem?_cons_zero, List.getElem?_cons_succ, List.set_cons_zero, List.set_cons_succ, List.cons_append, List.nil_append, List.replicate_succ, List.replicate_zero, List.append_nil, Nat.reduceSub, Nat.reduceAdd, Bool.false_eq_true, List.map, PL.eq_int, PL.ne_int, PL.eq_bl,  if_true, if_false, ite_true, ite_false, h1]
theorem bad_loop {v x : D} (hx : m_is_opening [x] = no) : ∀ (rs : List Row) (ys : List D) (o : Sl), (∀ r ∈ rs, r.ok) → ∃ ρ, forL (gN 1) B1_need_history (rs.map Row.d ++ x :: ys) [.sh v, o] = .exc (.badValue (.str "history")) ρ
  | [], ys, o, _ => by
    have hb : B1_need_history [.sh v, .sh x] = .exc (.badValue (.str "history")) [.sh v, .sh x] := by
      unfold B1_need_history
      simp only [PL.runF, PL.runO, PL.start0, PL.sSeq, PL.sNext, PL.sSet, PL.sSetO, PL.sDrop, PL.sRet, PL.sRetO, PL.sRetV, PL.sRetN, PL.sIf, PL.sBrk, PL.sCont, PL.sFrz, PL.sFor, PL.sAsg, PL.sRaise, PL.sTry, PL.tryO, PL.unset, PL.xRet, PL.fldX, PL.ofR_ok, PL.ofR_exc, PL.eC, PL.eVar, PL.bin, PL.una, PL.aNil, PL.aCons, PL.app, PL.appO, PL.own, PL.tru, PL.ifE, PL.andB, PL.orB, PL.notB, PL.gd, PL.bOf, PL.truD, PL.tst, PL.andV, PL.orV, PL.notV, PL.callE, PL.callO, PL.rvD, PL.rvO, PL.bind_ok, PL.bind_exc, PL.bind_stuck, PL.addD, PL.subD, PL.mulD, PL.modD, PL.fdivD, PL.powD, PL.ltD, PL.leD, PL.gtD, PL.geD, PL.isD, PL.isNotD, PL.isNonD, PL.ixD, PL.sliceD, PL.sliceE, PL.pN, PL.pS, PL.lenL, PL.absL, PL.intL, PL.max2L, PL.min2L, PL.listL, PL.tupleL, PL.isiD, PL.isiB, PL.tyD, PL.itE, PL.seqOf, PL.gN, PL.gT, PL.setAll, PL.lp_next, PL.lp_ret, PL.lp_exc, PL.for_nil, PL.for_cons, PL.atI_0, PL.atI_1, PL.atI_2, PL.atI_3, PL.tupD, PL.lstD, PL.owL, PL.setL, PL.sApp, PL.sPop, PL.sPopAt, PL.popAt, PL.sPut, PL.putAt, PL.ixO, PL.borE, PL.borT, PL.borO, PL.binO, PL.catO, PL.repO, PL.cutO, PL.sliceO, PL.lcE, PL.yesB, PL.mkBV, PL.mkTM, PL.mkBT, PL.negD, List.map_cons, List.map_nil, List.length_cons, List.length_nil, List.getElem?_cons_zero, List.getElem?_cons_succ, List.set_cons_zero, List.set_cons_succ, List.cons_append, List.nil_append, List.replicate_succ, List.replicate_zero, List.append_nil, Nat.reduceSub, Nat.reduceAdd, Bool.false_eq_true, List.map, PL.eq_int, PL.ne_int, PL.eq_bl,  if_true, if_false, ite_true, ite_false, String.reduceBEq, decide_true, decide_false, Bool.not_true, Bool.not_false, Bool.true_and, Bool.false_and, Bool.and_true, Bool.and_false, Bool.true_or, Bool.false_or, Bool.or_true, Bool.or_false, decide_not, Bool.not_eq_true, Bool.not_not, reduceCtorEq, ne_eq, not_true_eq_false, not_false_eq_true, eq_self, beq_self_eq_true, bne_self_eq_false, and_true, true_and, and_self, hx]
    refine ⟨[.sh v, .sh x], ?_⟩
    show lpO _ (B1_need_history [.sh v, .sh x]) = _
    rw [hb]; rfl
  | r :: rs, ys, o, h => by
    obtain ⟨ρ, ih⟩ := bad_loop (v := v) hx rs ys (.sh r.d) fun x hx => h x (List.mem_cons_of_mem _ hx)
    refine ⟨ρ, ?_⟩
    have hb : B1_need_history [.sh v, .sh r.d] = .next [.sh v, .sh r.d] := by
      unfold B1_need_history
      simp only [PL.runF, PL.runO, PL.start0, PL.sSeq, PL.sNext, PL.sSet, PL.sSetO, PL.sDrop, PL.sRet, PL.sRetO, PL.sRetV, PL.sRetN, PL.sIf, PL.sBrk, PL.sCont, PL.sFrz, PL.sFor, PL.sAsg, PL.sRaise, PL.sTry, PL.tryO, PL.unset, PL.xRet, PL.fldX, PL.ofR_ok, PL.ofR_exc, PL.eC, PL.eVar, PL.bin, PL.una, PL.aNil, PL.aCons, PL.app, PL.appO, PL.own, PL.tru, PL.ifE, PL.andB, PL.orB, PL.notB, PL.gd, PL.bOf, PL.truD, PL.tst, PL.andV, PL.orV, PL.notV, PL.callE, PL.callO, PL.rvD, PL.rvO, PL.bind_ok, PL.bind_exc, PL.bind_stuck, PL.addD, PL.subD, PL.mulD, PL.modD, PL.fdivD, PL.powD, PL.ltD, PL.leD, PL.gtD, PL.geD, PL.isD, PL.isNotD, PL.isNonD, PL.ixD, PL.sliceD, PL.sliceE, PL.pN, PL.pS, PL.lenL, PL.absL, PL.intL, PL.max2L, PL.min2L, PL.listL, PL.tupleL, PL.isiD, PL.isiB, PL.tyD, PL.itE, PL.seqOf, PL.gN, PL.gT, PL.setAll, PL.lp_next, PL.lp_ret, PL.lp_exc, PL.for_nil, PL.for_cons, PL.atI_0, PL.atI_1, PL.atI_2, PL.atI_3, PL.tupD, PL.lstD, PL.owL, PL.setL, PL.sApp, PL.sPop, PL.sPopAt, PL.popAt, PL.sPut, PL.putAt, PL.ixO, PL.borE, PL.borT, PL.borO, PL.binO, PL.catO, PL.repO, PL.cutO, PL.sliceO, PL.lcE, PL.yesB, PL.mkBV, PL.mkTM, PL.mkBT, PL.negD, List.map_cons, List.map_nil, List.length_cons, List.length_nil, List.getElem?_cons_zero, List.getElem?_cons_succ, List.set_cons_zero, List.set_cons_succ, List.cons_append, List.nil_append, List.replicate_succ, List.replicate_zero, List.append_nil, Nat.reduceSub, Nat.reduceAdd, Bool.false_eq_true, List.map, PL.eq_int, PL.ne_int, PL.eq_bl,  if_true, if_false, ite_true, ite_false, String.reduceBEq, decide_true, decide_false, Bool.not_true, Bool.not_false, Bool.true_and, Bool.false_and, Bool.and_true, Bool.and_false, Bool.true_or, Bool.false_or, Bool.or_true, Bool.or_false, decide_not, Bool.not_eq_true, Bool.not_not, reduceCtorEq, ne_eq, not_true_eq_false, not_false_eq_true, eq_self, beq_self_eq_true, bne_self_eq_false, and_true, true_and, and_self, op_row (h r List.mem_cons_self)]
    show lpO _ (B1_need_history [.sh v, .sh r.d]) = _
    rw [hb]
    exact ih
theorem need_history_bad (rs : List Row) (x : D) (ys : List D) (h : ∀ r ∈ rs, r.ok) (hx : m_is_opening [x] = no) (hl : rs.length + ys.length < 60) : m_need_history [.lst (rs.map Row.d ++ x :: ys)] = .exc (.badValue (.str "history")) := by
  have h1 := need_list_ok (rs.map Row.d ++ x :: ys) 60 (.str "history") (by simp; omega)
  obtain ⟨ρ, h2⟩ := bad_loop (v := .lst (rs.map Row.d ++ x :: ys)) hx rs ys .no h
  unfold m_need_history b_need_history
  simp only [PL.runF, PL.runO, PL.start0, PL.sSeq, PL.sNext, PL.sSet, PL.sSetO, PL.sDrop, PL.sRet, PL.sRetO, PL.sRetV, PL.sRetN, PL.sIf, PL.sBrk, PL.sCont, PL.sFrz, PL.sFor, PL.sAsg, PL.sRaise, PL.sTry, PL.tryO, PL.unset, PL.xRet, PL.fldX, PL.ofR_ok, PL.ofR_exc, PL.eC, PL.eVar, PL.bin, PL.una, PL.aNil, PL.aCons, PL.app, PL.appO, PL.own, PL.tru, PL.ifE, PL.andB, PL.orB, PL.notB, PL.gd, PL.bOf, PL.truD, PL.tst, PL.andV, PL.orV, PL.notV, PL.callE, PL.callO, PL.rvD, PL.rvO, PL.bind_ok, PL.bind_exc, PL.bind_stuck, PL.addD, PL.subD, PL.mulD, PL.modD, PL.fdivD, PL.powD, PL.ltD, PL.leD, PL.gtD, PL.geD, PL.isD, PL.isNotD, PL.isNonD, PL.ixD, PL.sliceD, PL.sliceE, PL.pN, PL.pS, PL.lenL, PL.absL, PL.intL, PL.max2L, PL.min2L, PL.listL, PL.tupleL, PL.isiD, PL.isiB, PL.tyD, PL.itE, PL.seqOf, PL.gN, PL.gT, PL.setAll, PL.lp_next, PL.lp_ret, PL.lp_exc, PL.for_nil, PL.for_cons, PL.atI_0, PL.atI_1, PL.atI_2, PL.atI_3, PL.tupD, PL.lstD, PL.owL, PL.setL, PL.sApp, PL.sPop, PL.sPopAt, PL.popAt, PL.sPut, PL.putAt, PL.ixO, PL.borE, PL.borT, PL.borO, PL.binO, PL.catO, PL.repO, PL.cutO, PL.sliceO, PL.lcE, PL.yesB, PL.mkBV, PL.mkTM, PL.mkBT, PL.negD, List.map_cons, List.map_nil, List.length_cons, List.length_nil, List.getElem?_cons_zero, List.getElem?_cons_succ, List.set_cons_zero, List.set_cons_succ, List.cons_append, List.nil_append, List.replicate_succ, List.replicate_zero, List.append_nil, Nat.reduceSub, Nat.reduceAdd, Bool.false_eq_true, List.map, PL.eq_int, PL.ne_int, PL.eq_bl,  if_true, if_false, ite_true, ite_false, h1, h2]
/-! ## banks -/
def Size := Int × Int × Int
def Size.d (s : Size) : D := .tup [.int s.1, .int s.2.1, .int s.2.2]
def Size.ok (s : Size) : Prop := (1 ≤ s.1 ∧ s.1 ≤ 999) ∧ (1 ≤ s.2.1 ∧ s.2.1 ≤ 999) ∧ (1 ≤ s.2.2 ∧ s.2.2 ≤ 999)
theorem size_ok {s : Size} (h : s.ok) : m_is_size [s.d] = yes := by
  have r : ∀ i : Int, 1 ≤ i ∧ i ≤ 999 → m_in_range [.int i, .int 1, .int 999] = yes := fun i hi => by rw [in_range_int, decide_eq_true hi.1, decide_eq_true hi.2]; rfl
  have hb : ∀ (i : Int) (o : Sl), 1 ≤ i ∧ i ≤ 999 → B1_is_size [.sh s.d, .sh (.int i)] = .next [.sh s.d, .sh (.int i)] := fun i o hi => by
    unfold B1_is_size
    simp only [PL.runF, PL.runO, PL.start0, PL.sSeq, PL.sNext, PL.sSet, PL.sSetO, PL.sDrop, PL.sRet, PL.sRetO, PL.sRetV, PL.sRetN, PL.sIf, PL.sBrk, PL.sCont, PL.sFrz, PL.sFor, PL.sAsg, PL.sRaise, PL.sTry, PL.tryO, PL.unset, PL.xRet, PL.fldX, PL.ofR_ok, PL.ofR_exc, PL.eC, PL.eVar, PL.bin, PL.una, PL.aNil, PL.aCons, PL.app, PL.appO, PL.own, PL.tru, PL.ifE, PL.andB, PL.orB, PL.notB, PL.gd, PL.bOf, PL.truD, PL.tst, PL.andV, PL.orV, PL.notV, PL.callE, PL.callO, PL.rvD, PL.rvO, PL.bind_ok, PL.bind_exc, PL.bind_stuck, PL.addD, PL.subD, PL.mulD, PL.modD, PL.fdivD, PL.powD, PL.ltD, PL.leD, PL.gtD, PL.geD, PL.isD, PL.isNotD, PL.isNonD, PL.ixD, PL.sliceD, PL.sliceE, PL.pN, PL.pS, PL.lenL, PL.absL, PL.intL, PL.max2L, PL.min2L, PL.listL, PL.tupleL, PL.isiD, PL.isiB, PL.tyD, PL.itE, PL.seqOf, PL.gN, PL.gT, PL.setAll, PL.lp_next, PL.lp_ret, PL.lp_exc, PL.for_nil, PL.for_cons, PL.atI_0, PL.atI_1, PL.atI_2, PL.atI_3, PL.tupD, PL.lstD, PL.owL, PL.setL, PL.sApp, PL.sPop, PL.sPopAt, PL.popAt, PL.sPut, PL.putAt, PL.ixO, PL.borE, PL.borT, PL.borO, PL.binO, PL.catO, PL.repO, PL.cutO, PL.sliceO, PL.lcE, PL.yesB, PL.mkBV, PL.mkTM, PL.mkBT, PL.negD, List.map_cons, List.map_nil, List.length_cons, List.length_nil, List.getElem?_cons_zero, List.getElem?_cons_succ, List.set_cons_zero, List.set_cons_succ, List.cons_append, List.nil_append, List.replicate_succ, List.replicate_zero, List.append_nil, Nat.reduceSub, Nat.reduceAdd, Bool.false_eq_true, List.map, PL.eq_int, PL.ne_int, PL.eq_bl,  if_true, if_false, ite_true, ite_false, String.reduceBEq, decide_true, decide_false, Bool.not_true, Bool.not_false, Bool.true_and, Bool.false_and, Bool.and_true, Bool.and_false, Bool.true_or, Bool.false_or, Bool.or_true, Bool.or_false, decide_not, Bool.not_eq_true, Bool.not_not, reduceCtorEq, ne_eq, not_true_eq_false, not_false_eq_true, eq_self, beq_self_eq_true, bne_self_eq_false, and_true, true_and, and_self, r i hi]
  have hl : forL (gN 1) B1_is_size [.int s.1, .int s.2.1, .int s.2.2] [.sh s.d, .no] = .next [.sh s.d, .sh (.int s.2.2)] := by
    show lpO (forL (gN 1) B1_is_size [.int s.2.1, .int s.2.2]) (B1_is_size [.sh s.d, .sh (.int s.1)]) = _
    rw [hb _ .no h.1]
    show lpO (forL (gN 1) B1_is_size [.int s.2.2]) (B1_is_size [.sh s.d, .sh (.int s.2.1)]) = _
    rw [hb _ .no h.2.1]
    show lpO (forL (gN 1) B1_is_size []) (B1_is_size [.sh s.d, .sh (.int s.2.2)]) = _
    rw [hb _ .no h.2.2]
    rfl
  unfold m_is_size b_is_size Size.d
  unfold Size.d at hl
  simp [PL.runF, PL.runO, PL.start0, PL.sSeq, PL.sNext, PL.sSet, PL.sSetO, PL.sDrop, PL.sRet, PL.sRetO, PL.sRetV, PL.sRetN, PL.sIf, PL.sBrk, PL.sCont, PL.sFrz, PL.sFor, PL.sAsg, PL.sRaise, PL.sTry, PL.tryO, PL.unset, PL.xRet, PL.fldX, PL.ofR_ok, PL.ofR_exc, PL.eC, PL.eVar, PL.bin, PL.una, PL.aNil, PL.aCons, PL.app, PL.appO, PL.own, PL.tru, PL.ifE, PL.andB, PL.orB, PL.notB, PL.gd, PL.bOf, PL.truD, PL.tst, PL.andV, PL.orV, PL.notV, PL.callE, PL.callO, PL.rvD, PL.rvO, PL.bind_ok, PL.bind_exc, PL.bind_stuck, PL.addD, PL.subD, PL.mulD, PL.modD, PL.fdivD, PL.powD, PL.ltD, PL.leD, PL.gtD, PL.geD, PL.isD, PL.isNotD, PL.isNonD, PL.ixD, PL.sliceD, PL.sliceE, PL.pN, PL.pS, PL.lenL, PL.absL, PL.intL, PL.max2L, PL.min2L, PL.listL, PL.tupleL, PL.isiD, PL.isiB, PL.tyD, PL.itE, PL.seqOf, PL.gN, PL.gT, PL.setAll, PL.lp_next, PL.lp_ret, PL.lp_exc, PL.for_nil, PL.for_cons, PL.atI_0, PL.atI_1, PL.atI_2, PL.atI_3, PL.tupD, PL.lstD, PL.owL, PL.setL, PL.sApp, PL.sPop, PL.sPopAt, PL.popAt, PL.sPut, PL.putAt, PL.ixO, PL.borE, PL.borT, PL.borO, PL.binO, PL.catO, PL.repO, PL.cutO, PL.sliceO, PL.lcE, PL.yesB, PL.mkBV, PL.mkTM, PL.mkBT, PL.negD, List.map_cons, List.map_nil, List.length_cons, List.length_nil, List.getElem?_cons_zero, List.getElem?_cons_succ, List.set_cons_zero, List.set_cons_succ, List.cons_append, List.nil_append, List.replicate_succ, List.replicate_zero, List.append_nil, Nat.reduceSub, Nat.reduceAdd, Bool.false_eq_true, List.map, PL.eq_int, PL.ne_int, PL.eq_bl,  if_true, if_false, ite_true, ite_false, String.reduceBEq, decide_true, decide_false, Bool.not_true, Bool.not_false, Bool.true_and, Bool.false_and, Bool.and_true, Bool.and_false, Bool.true_or, Bool.false_or, Bool.or_true, Bool.or_false, decide_not, Bool.not_eq_true, Bool.not_not, reduceCtorEq, ne_eq, not_true_eq_false, not_false_eq_true, eq_self, beq_self_eq_true, bne_self_eq_false, and_true, true_and, and_self, hl]
theorem size_bad : m_is_size [.tup [.int 1, .int 1, .int 0]] = no := rfl
theorem sizes_loop {v n z : D} : ∀ (rs : List Size) (o : Sl), (∀ r ∈ rs, r.ok) → ∃ o', forL (gN 3) B1_need_sizes (rs.map Size.d) [.sh v, .sh n, .sh z, o] = .next [.sh v, .sh n, .sh z, o']
  | [], o, _ => ⟨o, rfl⟩
  | r :: rs, o, h => by
    obtain ⟨o', ih⟩ := sizes_loop (v := v) (n := n) (z := z) rs (.sh r.d) fun x hx => h x (List.mem_cons_of_mem _ hx)
    refine ⟨o', ?_⟩
    have hb : B1_need_sizes [.sh v, .sh n, .sh z, .sh r.d] = .next [.sh v, .sh n, .sh z, .sh r.d] := by
      unfold B1_need_sizes
      simp only [PL.runF, PL.runO, PL.start0, PL.sSeq, PL.sNext, PL.sSet, PL.sSetO, PL.sDrop, PL.sRet, PL.sRetO, PL.sRetV, PL.sRetN, PL.sIf, PL.sBrk, PL.sCont, PL.sFrz, PL.sFor, PL.sAsg, PL.sRaise, PL.sTry, PL.tryO, PL.unset, PL.xRet, PL.fldX, PL.ofR_ok, PL.ofR_exc, PL.eC, PL.eVar, PL.bin, PL.una, PL.aNil, PL.aCons, PL.app, PL.appO, PL.own, PL.tru, PL.ifE, PL.andB, PL.orB, PL.notB, PL.gd, PL.bOf, PL.truD, PL.tst, PL.andV, PL.orV, PL.notV, PL.callE, PL.callO, PL.rvD, PL.rvO, PL.bind_ok, PL.bind_exc, PL.bind_stuck, PL.addD, PL.subD, PL.mulD, PL.modD, PL.fdivD, PL.powD, PL.ltD, PL.leD, PL.gtD, PL.geD, PL.isD, PL.isNotD, PL.isNonD, PL.ixD, PL.sliceD, PL.sliceE, PL.pN, PL.pS, PL.lenL, PL.absL, PL.intL, PL.max2L, PL.min2L, PL.listL, PL.tupleL, PL.isiD, PL.isiB, PL.tyD, PL.itE, PL.seqOf, PL.gN, PL.gT, PL.setAll, PL.lp_next, PL.lp_ret, PL.lp_exc, PL.for_nil, PL.for_cons, PL.atI_0, PL.atI_1, PL.atI_2, PL.atI_3, PL.tupD, PL.lstD, PL.owL, PL.setL, PL.sApp, PL.sPop, PL.sPopAt, PL.popAt, PL.sPut, PL.putAt, PL.ixO, PL.borE, PL.borT, PL.borO, PL.binO, PL.catO, PL.repO, PL.cutO, PL.sliceO, PL.lcE, PL.yesB, PL.mkBV, PL.mkTM, PL.mkBT, PL.negD, List.map_cons, List.map_nil, List.length_cons, List.length_nil, List.getElem?_cons_zero, List.getElem?_cons_succ, List.set_cons_zero, List.set_cons_succ, List.cons_append, List.nil_append, List.replicate_succ, List.replicate_zero, List.append_nil, Nat.reduceSub, Nat.reduceAdd, Bool.false_eq_true, List.map, PL.eq_int, PL.ne_int, PL.eq_bl,  if_true, if_false, ite_true, ite_false, String.reduceBEq, decide_true, decide_false, Bool.not_true, Bool.not_false, Bool.true_and, Bool.false_and, Bool.and_true, Bool.and_false, Bool.true_or, Bool.false_or, Bool.or_true, Bool.or_false, decide_not, Bool.not_eq_true, Bool.not_not, reduceCtorEq, ne_eq, not_true_eq_false, not_false_eq_true, eq_self, beq_self_eq_true, bne_self_eq_false, and_true, true_and, and_self, size_ok (h r List.mem_cons_self)]
    show lpO _ (B1_need_sizes [.sh v, .sh n, .sh z, .sh r.d]) = _
    rw [hb]
    exact ih
theorem sizes_bad {v n z x : D} (hx : m_is_size [x] = no) : ∀ (rs : List Size) (ys : List D) (o : Sl), (∀ r ∈ rs, r.ok) → ∃ ρ, forL (gN 3) B1_need_sizes (rs.map Size.d ++ x :: ys) [.sh v, .sh n, .sh z, o] = .exc (.badValue z) ρ
  | [], ys, o, _ => by
    have hb : B1_need_sizes [.sh v, .sh n, .sh z, .sh x] = .exc (.badValue z) [.sh v, .sh n, .sh z, .sh x] := by
      unfold B1_need_sizes
      simp only [PL.runF, PL.runO, PL.start0, PL.sSeq, PL.sNext, PL.sSet, PL.sSetO, PL.sDrop, PL.sRet, PL.sRetO, PL.sRetV, PL.sRetN, PL.sIf, PL.sBrk, PL.sCont, PL.sFrz, PL.sFor, PL.sAsg, PL.sRaise, PL.sTry, PL.tryO, PL.unset, PL.xRet, PL.fldX, PL.ofR_ok, PL.ofR_exc, PL.eC, PL.eVar, PL.bin, PL.una, PL.aNil, PL.aCons, PL.app, PL.appO, PL.own, PL.tru, PL.ifE, PL.andB, PL.orB, PL.notB, PL.gd, PL.bOf, PL.truD, PL.tst, PL.andV, PL.orV, PL.notV, PL.callE, PL.callO, PL.rvD, PL.rvO, PL.bind_ok, PL.bind_exc, PL.bind_stuck, PL.addD, PL.subD, PL.mulD, PL.modD, PL.fdivD, PL.powD, PL.ltD, PL.leD, PL.gtD, PL.geD, PL.isD, PL.isNotD, PL.isNonD, PL.ixD, PL.sliceD, PL.sliceE, PL.pN, PL.pS, PL.lenL, PL.absL, PL.intL, PL.max2L, PL.min2L, PL.listL, PL.tupleL, PL.isiD, PL.isiB, PL.tyD, PL.itE, PL.seqOf, PL.gN, PL.gT, PL.setAll, PL.lp_next, PL.lp_ret, PL.lp_exc, PL.for_nil, PL.for_cons, PL.atI_0, PL.atI_1, PL.atI_2, PL.atI_3, PL.tupD, PL.lstD, PL.owL, PL.setL, PL.sApp, PL.sPop, PL.sPopAt, PL.popAt, PL.sPut, PL.putAt, PL.ixO, PL.borE, PL.borT, PL.borO, PL.binO, PL.catO, PL.repO, PL.cutO, PL.sliceO, PL.lcE, PL.yesB, PL.mkBV, PL.mkTM, PL.mkBT, PL.negD, List.map_cons, List.map_nil, List.length_cons, List.length_nil, List.getElem?_cons_zero, List.getElem?_cons_succ, List.set_cons_zero, List.set_cons_succ, List.cons_append, List.nil_append, List.replicate_succ, List.replicate_zero, List.append_nil, Nat.reduceSub, Nat.reduceAdd, Bool.false_eq_true, List.map, PL.eq_int, PL.ne_int, PL.eq_bl,  if_true, if_false, ite_true, ite_false, String.reduceBEq, decide_true, decide_false, Bool.not_true, Bool.not_false, Bool.true_and, Bool.false_and, Bool.and_true, Bool.and_false, Bool.true_or, Bool.false_or, Bool.or_true, Bool.or_false, decide_not, Bool.not_eq_true, Bool.not_not, reduceCtorEq, ne_eq, not_true_eq_false, not_false_eq_true, eq_self, beq_self_eq_true, bne_self_eq_false, and_true, true_and, and_self, hx]
    refine ⟨[.sh v, .sh n, .sh z, .sh x], ?_⟩
    show lpO _ (B1_need_sizes [.sh v, .sh n, .sh z, .sh x]) = _
    rw [hb]; rfl
  | r :: rs, ys, o, h => by
    obtain ⟨ρ, ih⟩ := sizes_bad (v := v) (n := n) (z := z) hx rs ys (.sh r.d) fun x hx => h x (List.mem_cons_of_mem _ hx)
    refine ⟨ρ, ?_⟩
    have hb : B1_need_sizes [.sh v, .sh n, .sh z, .sh r.d] = .next [.sh v, .sh n, .sh z, .sh r.d] := by
      unfold B1_need_sizes
      simp only [PL.runF, PL.runO, PL.start0, PL.sSeq, PL.sNext, PL.sSet, PL.sSetO, PL.sDrop, PL.sRet, PL.sRetO, PL.sRetV, PL.sRetN, PL.sIf, PL.sBrk, PL.sCont, PL.sFrz, PL.sFor, PL.sAsg, PL.sRaise, PL.sTry, PL.tryO, PL.unset, PL.xRet, PL.fldX, PL.ofR_ok, PL.ofR_exc, PL.eC, PL.eVar, PL.bin, PL.una, PL.aNil, PL.aCons, PL.app, PL.appO, PL.own, PL.tru, PL.ifE, PL.andB, PL.orB, PL.notB, PL.gd, PL.bOf, PL.truD, PL.tst, PL.andV, PL.orV, PL.notV, PL.callE, PL.callO, PL.rvD, PL.rvO, PL.bind_ok, PL.bind_exc, PL.bind_stuck, PL.addD, PL.subD, PL.mulD, PL.modD, PL.fdivD, PL.powD, PL.ltD, PL.leD, PL.gtD, PL.geD, PL.isD, PL.isNotD, PL.isNonD, PL.ixD, PL.sliceD, PL.sliceE, PL.pN, PL.pS, PL.lenL, PL.absL, PL.intL, PL.max2L, PL.min2L, PL.listL, PL.tupleL, PL.isiD, PL.isiB, PL.tyD, PL.itE, PL.seqOf, PL.gN, PL.gT, PL.setAll, PL.lp_next, PL.lp_ret, PL.lp_exc, PL.for_nil, PL.for_cons, PL.atI_0, PL.atI_1, PL.atI_2, PL.atI_3, PL.tupD, PL.lstD, PL.owL, PL.setL, PL.sApp, PL.sPop, PL.sPopAt, PL.popAt, PL.sPut, PL.putAt, PL.ixO, PL.borE, PL.borT, PL.borO, PL.binO, PL.catO, PL.repO, PL.cutO, PL.sliceO, PL.lcE, PL.yesB, PL.mkBV, PL.mkTM, PL.mkBT, PL.negD, List.map_cons, List.map_nil, List.length_cons, List.length_nil, List.getElem?_cons_zero, List.getElem?_cons_succ, List.set_cons_zero, List.set_cons_succ, List.cons_append, List.nil_append, List.replicate_succ, List.replicate_zero, List.append_nil, Nat.reduceSub, Nat.reduceAdd, Bool.false_eq_true, List.map, PL.eq_int, PL.ne_int, PL.eq_bl,  if_true, if_false, ite_true, ite_false, String.reduceBEq, decide_true, decide_false, Bool.not_true, Bool.not_false, Bool.true_and, Bool.false_and, Bool.and_true, Bool.and_false, Bool.true_or, Bool.false_or, Bool.or_true, Bool.or_false, decide_not, Bool.not_eq_true, Bool.not_not, reduceCtorEq, ne_eq, not_true_eq_false, not_false_eq_true, eq_self, beq_self_eq_true, bne_self_eq_false, and_true, true_and, and_self, size_ok (h r List.mem_cons_self)]
    show lpO _ (B1_need_sizes [.sh v, .sh n, .sh z, .sh r.d]) = _
    rw [hb]
    exact ih
theorem bank_ok (rs : List Size) (h : ∀ r ∈ rs, r.ok) (hl : rs.length ≤ 30) : m_need_bank [.lst (rs.map Size.d)] = .ok (.sh .non) := by
  have h1 := need_list_ok (rs.map Size.d) 30 (.str "bank") (by simp; omega)
  obtain ⟨o', h2⟩ := sizes_loop (v := .lst (rs.map Size.d)) (n := .int 30) (z := .str "bank") rs .no h
  have h3 : m_need_sizes [.lst (rs.map Size.d), .int 30, .str "bank"] = .ok (.sh .non) := by
    unfold m_need_sizes b_need_sizes
    simp only [PL.runF, PL.runO, PL.start0, PL.sSeq, PL.sNext, PL.sSet, PL.sSetO, PL.sDrop, PL.sRet, PL.sRetO, PL.sRetV, PL.sRetN, PL.sIf, PL.sBrk, PL.sCont, PL.sFrz, PL.sFor, PL.sAsg, PL.sRaise, PL.sTry, PL.tryO, PL.unset, PL.xRet, PL.fldX, PL.ofR_ok, PL.ofR_exc, PL.eC, PL.eVar, PL.bin, PL.una, PL.aNil, PL.aCons, PL.app, PL.appO, PL.own, PL.tru, PL.ifE, PL.andB, PL.orB, PL.notB, PL.gd, PL.bOf, PL.truD, PL.tst, PL.andV, PL.orV, PL.notV, PL.callE, PL.callO, PL.rvD, PL.rvO, PL.bind_ok, PL.bind_exc, PL.bind_stuck, PL.addD, PL.subD, PL.mulD, PL.modD, PL.fdivD, PL.powD, PL.ltD, PL.leD, PL.gtD, PL.geD, PL.isD, PL.isNotD, PL.isNonD, PL.ixD, PL.sliceD, PL.sliceE, PL.pN, PL.pS, PL.lenL, PL.absL, PL.intL, PL.max2L, PL.min2L, PL.listL, PL.tupleL, PL.isiD, PL.isiB, PL.tyD, PL.itE, PL.seqOf, PL.gN, PL.gT, PL.setAll, PL.lp_next, PL.lp_ret, PL.lp_exc, PL.for_nil, PL.for_cons, PL.atI_0, PL.atI_1, PL.atI_2, PL.atI_3, PL.tupD, PL.lstD, PL.owL, PL.setL, PL.sApp, PL.sPop, PL.sPopAt, PL.popAt, PL.sPut, PL.putAt, PL.ixO, PL.borE, PL.borT, PL.borO, PL.binO, PL.catO, PL.repO, PL.cutO, PL.sliceO, PL.lcE, PL.yesB, PL.mkBV, PL.mkTM, PL.mkBT, PL.negD, List.map_cons, List.map_nil, List.length_cons, List.length_nil, List.getElem?_cons_zero, List.getElem?_cons_succ, List.set_cons_zero, List.set_cons_succ, List.cons_append, List.nil_append, List.replicate_succ, List.replicate_zero, List.append_nil, Nat.reduceSub, Nat.reduceAdd, Bool.false_eq_true, List.map, PL.eq_int, PL.ne_int, PL.eq_bl,  if_true, if_false, ite_true, ite_false, h1, h2]
  unfold m_need_bank b_need_bank
  simp only [PL.runF, PL.runO, PL.start0, PL.sSeq, PL.sNext, PL.sSet, PL.sSetO, PL.sDrop, PL.sRet, PL.sRetO, PL.sRetV, PL.sRetN, PL.sIf, PL.sBrk, PL.sCont, PL.sFrz, PL.sFor, PL.sAsg, PL.sRaise, PL.sTry, PL.tryO, PL.unset, PL.xRet, PL.fldX, PL.ofR_ok, PL.ofR_exc, PL.eC, PL.eVar, PL.bin, PL.una, PL.aNil, PL.aCons, PL.app, PL.appO, PL.own, PL.tru, PL.ifE, PL.andB, PL.orB, PL.notB, PL.gd, PL.bOf, PL.truD, PL.tst, PL.andV, PL.orV, PL.notV, PL.callE, PL.callO, PL.rvD, PL.rvO, PL.bind_ok, PL.bind_exc, PL.bind_stuck, PL.addD, PL.subD, PL.mulD, PL.modD, PL.fdivD, PL.powD, PL.ltD, PL.leD, PL.gtD, PL.geD, PL.isD, PL.isNotD, PL.isNonD, PL.ixD, PL.sliceD, PL.sliceE, PL.pN, PL.pS, PL.lenL, PL.absL, PL.intL, PL.max2L, PL.min2L, PL.listL, PL.tupleL, PL.isiD, PL.isiB, PL.tyD, PL.itE, PL.seqOf, PL.gN, PL.gT, PL.setAll, PL.lp_next, PL.lp_ret, PL.lp_exc, PL.for_nil, PL.for_cons, PL.atI_0, PL.atI_1, PL.atI_2, PL.atI_3, PL.tupD, PL.lstD, PL.owL, PL.setL, PL.sApp, PL.sPop, PL.sPopAt, PL.popAt, PL.sPut, PL.putAt, PL.ixO, PL.borE, PL.borT, PL.borO, PL.binO, PL.catO, PL.repO, PL.cutO, PL.sliceO, PL.lcE, PL.yesB, PL.mkBV, PL.mkTM, PL.mkBT, PL.negD, List.map_cons, List.map_nil, List.length_cons, List.length_nil, List.getElem?_cons_zero, List.getElem?_cons_succ, List.set_cons_zero, List.set_cons_succ, List.cons_append, List.nil_append, List.replicate_succ, List.replicate_zero, List.append_nil, Nat.reduceSub, Nat.reduceAdd, Bool.false_eq_true, List.map, PL.eq_int, PL.ne_int, PL.eq_bl,  if_true, if_false, ite_true, ite_false, h3]
theorem bank_many (xs : List D) (h : 30 < xs.length) : m_need_bank [.lst xs] = .exc (.tooMany (.int 30)) := by
  have h1 := need_list_many xs 30 (.str "bank") (by omega)
  have h3 : m_need_sizes [.lst xs, .int 30, .str "bank"] = .exc (.tooMany (.int 30)) := by
    unfold m_need_sizes b_need_sizes
    simp only [PL.runF, PL.runO, PL.start0, PL.sSeq, PL.sNext, PL.sSet, PL.sSetO, PL.sDrop, PL.sRet, PL.sRetO, PL.sRetV, PL.sRetN, PL.sIf, PL.sBrk, PL.sCont, PL.sFrz, PL.sFor, PL.sAsg, PL.sRaise, PL.sTry, PL.tryO, PL.unset, PL.xRet, PL.fldX, PL.ofR_ok, PL.ofR_exc, PL.eC, PL.eVar, PL.bin, PL.una, PL.aNil, PL.aCons, PL.app, PL.appO, PL.own, PL.tru, PL.ifE, PL.andB, PL.orB, PL.notB, PL.gd, PL.bOf, PL.truD, PL.tst, PL.andV, PL.orV, PL.notV, PL.callE, PL.callO, PL.rvD, PL.rvO, PL.bind_ok, PL.bind_exc, PL.bind_stuck, PL.addD, PL.subD, PL.mulD, PL.modD, PL.fdivD, PL.powD, PL.ltD, PL.leD, PL.gtD, PL.geD, PL.isD, PL.isNotD, PL.isNonD, PL.ixD, PL.sliceD, PL.sliceE, PL.pN, PL.pS, PL.lenL, PL.absL, PL.intL, PL.max2L, PL.min2L, PL.listL, PL.tupleL, PL.isiD, PL.isiB, PL.tyD, PL.itE, PL.seqOf, PL.gN, PL.gT, PL.setAll, PL.lp_next, PL.lp_ret, PL.lp_exc, PL.for_nil, PL.for_cons, PL.atI_0, PL.atI_1, PL.atI_2, PL.atI_3, PL.tupD, PL.lstD, PL.owL, PL.setL, PL.sApp, PL.sPop, PL.sPopAt, PL.popAt, PL.sPut, PL.putAt, PL.ixO, PL.borE, PL.borT, PL.borO, PL.binO, PL.catO, PL.repO, PL.cutO, PL.sliceO, PL.lcE, PL.yesB, PL.mkBV, PL.mkTM, PL.mkBT, PL.negD, List.map_cons, List.map_nil, List.length_cons, List.length_nil, List.getElem?_cons_zero, List.getElem?_cons_succ, List.set_cons_zero, List.set_cons_succ, List.cons_append, List.nil_append, List.replicate_succ, List.replicate_zero, List.append_nil, Nat.reduceSub, Nat.reduceAdd, Bool.false_eq_true, List.map, PL.eq_int, PL.ne_int, PL.eq_bl,  if_true, if_false, ite_true, ite_false, h1]
  unfold m_need_bank b_need_bank
  simp only [PL.runF, PL.runO, PL.start0, PL.sSeq, PL.sNext, PL.sSet, PL.sSetO, PL.sDrop, PL.sRet, PL.sRetO, PL.sRetV, PL.sRetN, PL.sIf, PL.sBrk, PL.sCont, PL.sFrz, PL.sFor, PL.sAsg, PL.sRaise, PL.sTry, PL.tryO, PL.unset, PL.xRet, PL.fldX, PL.ofR_ok, PL.ofR_exc, PL.eC, PL.eVar, PL.bin, PL.una, PL.aNil, PL.aCons, PL.app, PL.appO, PL.own, PL.tru, PL.ifE, PL.andB, PL.orB, PL.notB, PL.gd, PL.bOf, PL.truD, PL.tst, PL.andV, PL.orV, PL.notV, PL.callE, PL.callO, PL.rvD, PL.rvO, PL.bind_ok, PL.bind_exc, PL.bind_stuck, PL.addD, PL.subD, PL.mulD, PL.modD, PL.fdivD, PL.powD, PL.ltD, PL.leD, PL.gtD, PL.geD, PL.isD, PL.isNotD, PL.isNonD, PL.ixD, PL.sliceD, PL.sliceE, PL.pN, PL.pS, PL.lenL, PL.absL, PL.intL, PL.max2L, PL.min2L, PL.listL, PL.tupleL, PL.isiD, PL.isiB, PL.tyD, PL.itE, PL.seqOf, PL.gN, PL.gT, PL.setAll, PL.lp_next, PL.lp_ret, PL.lp_exc, PL.for_nil, PL.for_cons, PL.atI_0, PL.atI_1, PL.atI_2, PL.atI_3, PL.tupD, PL.lstD, PL.owL, PL.setL, PL.sApp, PL.sPop, PL.sPopAt, PL.popAt, PL.sPut, PL.putAt, PL.ixO, PL.borE, PL.borT, PL.borO, PL.binO, PL.catO, PL.repO, PL.cutO, PL.sliceO, PL.lcE, PL.yesB, PL.mkBV, PL.mkTM, PL.mkBT, PL.negD, List.map_cons, List.map_nil, List.length_cons, List.length_nil, List.getElem?_cons_zero, List.getElem?_cons_succ, List.set_cons_zero, List.set_cons_succ, List.cons_append, List.nil_append, List.replicate_succ, List.replicate_zero, List.append_nil, Nat.reduceSub, Nat.reduceAdd, Bool.false_eq_true, List.map, PL.eq_int, PL.ne_int, PL.eq_bl,  if_true, if_false, ite_true, ite_false, h3]
theorem bank_bad (rs : List Size) (x : D) (ys : List D) (h : ∀ r ∈ rs, r.ok) (hx : m_is_size [x] = no) (hl : rs.length + ys.length < 30) : m_need_bank [.lst (rs.map Size.d ++ x :: ys)] = .exc (.badValue (.str "bank")) := by
  have h1 := need_list_ok (rs.map Size.d ++ x :: ys) 30 (.str "bank") (by simp; omega)
  obtain ⟨ρ, h2⟩ := sizes_bad (v := .lst (rs.map Size.d ++ x :: ys)) (n := .int 30) (z := .str "bank") hx rs ys .no h
  have h3 : m_need_sizes [.lst (rs.map Size.d ++ x :: ys), .int 30, .str "bank"] = .exc (.badValue (.str "bank")) := by
    unfold m_need_sizes b_need_sizes
    simp only [PL.runF, PL.runO, PL.start0, PL.sSeq, PL.sNext, PL.sSet, PL.sSetO, PL.sDrop, PL.sRet, PL.sRetO, PL.sRetV, PL.sRetN, PL.sIf, PL.sBrk, PL.sCont, PL.sFrz, PL.sFor, PL.sAsg, PL.sRaise, PL.sTry, PL.tryO, PL.unset, PL.xRet, PL.fldX, PL.ofR_ok, PL.ofR_exc, PL.eC, PL.eVar, PL.bin, PL.una, PL.aNil, PL.aCons, PL.app, PL.appO, PL.own, PL.tru, PL.ifE, PL.andB, PL.orB, PL.notB, PL.gd, PL.bOf, PL.truD, PL.tst, PL.andV, PL.orV, PL.notV, PL.callE, PL.callO, PL.rvD, PL.rvO, PL.bind_ok, PL.bind_exc, PL.bind_stuck, PL.addD, PL.subD, PL.mulD, PL.modD, PL.fdivD, PL.powD, PL.ltD, PL.leD, PL.gtD, PL.geD, PL.isD, PL.isNotD, PL.isNonD, PL.ixD, PL.sliceD, PL.sliceE, PL.pN, PL.pS, PL.lenL, PL.absL, PL.intL, PL.max2L, PL.min2L, PL.listL, PL.tupleL, PL.isiD, PL.isiB, PL.tyD, PL.itE, PL.seqOf, PL.gN, PL.gT, PL.setAll, PL.lp_next, PL.lp_ret, PL.lp_exc, PL.for_nil, PL.for_cons, PL.atI_0, PL.atI_1, PL.atI_2, PL.atI_3, PL.tupD, PL.lstD, PL.owL, PL.setL, PL.sApp, PL.sPop, PL.sPopAt, PL.popAt, PL.sPut, PL.putAt, PL.ixO, PL.borE, PL.borT, PL.borO, PL.binO, PL.catO, PL.repO, PL.cutO, PL.sliceO, PL.lcE, PL.yesB, PL.mkBV, PL.mkTM, PL.mkBT, PL.negD, List.map_cons, List.map_nil, List.length_cons, List.length_nil, List.getElem?_cons_zero, List.getElem?_cons_succ, List.set_cons_zero, List.set_cons_succ, List.cons_append, List.nil_append, List.replicate_succ, List.replicate_zero, List.append_nil, Nat.reduceSub, Nat.reduceAdd, Bool.false_eq_true, List.map, PL.eq_int, PL.ne_int, PL.eq_bl,  if_true, if_false, ite_true, ite_false, h1, h2]
  unfold m_need_bank b_need_bank
  simp only [PL.runF, PL.runO, PL.start0, PL.sSeq, PL.sNext, PL.sSet, PL.sSetO, PL.sDrop, PL.sRet, PL.sRetO, PL.sRetV, PL.sRetN, PL.sIf, PL.sBrk, PL.sCont, PL.sFrz, PL.sFor, PL.sAsg, PL.sRaise, PL.sTry, PL.tryO, PL.unset, PL.xRet, PL.fldX, PL.ofR_ok, PL.ofR_exc, PL.eC, PL.eVar, PL.bin, PL.una, PL.aNil, PL.aCons, PL.app, PL.appO, PL.own, PL.tru, PL.ifE, PL.andB, PL.orB, PL.notB, PL.gd, PL.bOf, PL.truD, PL.tst, PL.andV, PL.orV, PL.notV, PL.callE, PL.callO, PL.rvD, PL.rvO, PL.bind_ok, PL.bind_exc, PL.bind_stuck, PL.addD, PL.subD, PL.mulD, PL.modD, PL.fdivD, PL.powD, PL.ltD, PL.leD, PL.gtD, PL.geD, PL.isD, PL.isNotD, PL.isNonD, PL.ixD, PL.sliceD, PL.sliceE, PL.pN, PL.pS, PL.lenL, PL.absL, PL.intL, PL.max2L, PL.min2L, PL.listL, PL.tupleL, PL.isiD, PL.isiB, PL.tyD, PL.itE, PL.seqOf, PL.gN, PL.gT, PL.setAll, PL.lp_next, PL.lp_ret, PL.lp_exc, PL.for_nil, PL.for_cons, PL.atI_0, PL.atI_1, PL.atI_2, PL.atI_3, PL.tupD, PL.lstD, PL.owL, PL.setL, PL.sApp, PL.sPop, PL.sPopAt, PL.popAt, PL.sPut, PL.putAt, PL.ixO, PL.borE, PL.borT, PL.borO, PL.binO, PL.catO, PL.repO, PL.cutO, PL.sliceO, PL.lcE, PL.yesB, PL.mkBV, PL.mkTM, PL.mkBT, PL.negD, List.map_cons, List.map_nil, List.length_cons, List.length_nil, List.getElem?_cons_zero, List.getElem?_cons_succ, List.set_cons_zero, List.set_cons_succ, List.cons_append, List.nil_append, List.replicate_succ, List.replicate_zero, List.append_nil, Nat.reduceSub, Nat.reduceAdd, Bool.false_eq_true, List.map, PL.eq_int, PL.ne_int, PL.eq_bl,  if_true, if_false, ite_true, ite_false, h3]
end K46

set_option maxRecDepth 100000
set_option maxHeartbeats 1000000
namespace K46
open PySem PL
/-! ## _law_same of a thing and itself -/
mutual
def pl : D → Bool
  | .str s => PyData.strOk s
  | .tup xs => plA xs && decide (xs.length ≤ 1000)
  | .lst xs => plA xs && decide (xs.length ≤ 1000)
  | .scr _ => false
  | _ => true
def plA : List D → Bool
  | [] => true
  | x :: xs => pl x && plA xs
end
mutual
def dep : D → Nat
  | .tup xs => depA xs + 1
  | .lst xs => depA xs + 1
  | _ => 0
def depA : List D → Nat
  | [] => 0
  | x :: xs => max (dep x) (depA xs)
end
theorem plA_mem : ∀ {xs : List D} {x : D}, plA xs = true → x ∈ xs → pl x = true
  | y :: ys, x, h, m => by
    unfold plA at h
    rw [Bool.and_eq_true] at h
    rcases List.mem_cons.mp m with e | e
    · subst e; exact h.1
    · exact plA_mem h.2 e
theorem depA_mem : ∀ {xs : List D} {x : D}, x ∈ xs → dep x ≤ depA xs
  | y :: ys, x, m => by
    unfold depA
    rcases List.mem_cons.mp m with e | e
    · subst e; omega
    · have := depA_mem e; omega
theorem same_loop {n : Nat} {d : D} {xs : List D} (hix : ∀ k, (hk : k < xs.length) → ixD d (.int (k : Nat)) = .ok xs[k]) (h : ∀ x ∈ xs, m__law_same n [x, x] = yes) : ∀ (ks : List Nat) (o : Sl), (∀ k ∈ ks, k < xs.length) →
    ∃ o', forL (gN 2) (B1__law_same (m__law_same n)) (ks.map fun k => .int ((k : Nat) : Int)) [.sh d, .sh d, o] = .next [.sh d, .sh d, o']
  | [], o, _ => ⟨o, rfl⟩
  | k :: ks, o, hk => by
    obtain ⟨o', ih⟩ := same_loop hix h ks (.sh (.int (k : Nat))) fun x hx => hk x (List.mem_cons_of_mem _ hx)
    refine ⟨o', ?_⟩
    have hl := hk k List.mem_cons_self
    have hb : B1__law_same (m__law_same n) [.sh d, .sh d, .sh (.int (k : Nat))] = .next [.sh d, .sh d, .sh (.int (k : Nat))] := by
      unfold B1__law_same
      have e : PL.bin ixD (eVar 0) (eVar 2) [.sh d, .sh d, .sh (.int (k : Nat))] = .ok xs[k] := hix k hl
      have e2 : PL.bin ixD (eVar 1) (eVar 2) [.sh d, .sh d, .sh (.int (k : Nat))] = .ok xs[k] := hix k hl
      have e3 := h xs[k] (List.getElem_mem hl)
      unfold sIf notB tst callE aCons
      rw [e]
      simp only [bind_ok]
      unfold aNil
      rw [e2]
      simp only [bind_ok, e3]
      rfl
    show lpO _ (B1__law_same (m__law_same n) [.sh d, .sh d, .sh (.int (k : Nat))]) = _
    rw [hb]
    exact ih
theorem ix_tup (xs : List D) (k : Nat) (h : k < xs.length) : ixD (.tup xs) (.int (k : Nat)) = .ok xs[k] := by
  show (match L2.atI xs (k : Nat) with | some d => Res.ok d | none => .stuck) = _
  rw [atI_nat, List.getElem?_eq_getElem h]
theorem ix_lst (xs : List D) (k : Nat) (h : k < xs.length) : ixD (.lst xs) (.int (k : Nat)) = .ok xs[k] := by
  show (match L2.atI xs (k : Nat) with | some d => Res.ok d | none => .stuck) = _
  rw [atI_nat, List.getElem?_eq_getElem h]
theorem same_seq {n : Nat} {d : D} {xs : List D} (hd : d = .tup xs ∨ d = .lst xs) (hl : xs.length ≤ 1000) (h : ∀ x ∈ xs, m__law_same n [x, x] = yes) : m__law_same (n + 1) [d, d] = yes := by
  have hix : ∀ k, (hk : k < xs.length) → ixD d (.int (k : Nat)) = .ok xs[k] := by
    rcases hd with e | e <;> subst e
    · exact ix_tup xs
    · exact ix_lst xs
  obtain ⟨o', hf⟩ := same_loop hix h (List.range xs.length) .no fun k hk => List.mem_range.mp hk
  have g1 := rng1_nat xs.length (by omega)
  show runO (b__law_same (m__law_same n) [.sh d, .sh d, .no]) = _
  have step : ∀ (f g : En → Out), f [.sh d, .sh d, .no] = .next [.sh d, .sh d, .no] → sSeq f g [.sh d, .sh d, .no] = g [.sh d, .sh d, .no] := fun f g e => seq_next e
  have hlen : lenL [d] = .ok (.int (xs.length : Nat)) := by rcases hd with e | e <;> subst e <;> rfl
  unfold b__law_same
  rw [step, step, step, step, step, step, step]
  · unfold sSeq sFor PL.appO PL.app PL.aCons PL.aNil PL.eVar
    simp only [List.getElem?_cons_zero, List.getElem?_cons_succ, bind_ok, hlen, g1, ofR_ok, hf]
    rfl
  · unfold sIf PL.tst PL.bin PL.app PL.aCons PL.aNil PL.eVar
    simp only [List.getElem?_cons_zero, List.getElem?_cons_succ, bind_ok, hlen, ne_int, decide_true, Bool.not_true]
    rfl
  all_goals (rcases hd with e | e <;> subst e <;> rfl)
theorem same_refl : ∀ (n : Nat) (d : D), pl d = true → dep d < n → m__law_same n [d, d] = yes
  | 0, d, _, h => absurd h (Nat.not_lt_zero _)
  | n + 1, d, h, hn => by
    cases d with
    | non => rfl
    | bl b => cases b <;> rfl
    | int i =>
      show runF 3 (b__law_same (m__law_same n)) [.int i, .int i] = _
      unfold b__law_same
      simp only [PL.runF, PL.runO, PL.start0, PL.sSeq, PL.sNext, PL.sSet, PL.sSetO, PL.sDrop, PL.sRet, PL.sRetO, PL.sRetV, PL.sRetN, PL.sIf, PL.sBrk, PL.sCont, PL.sFrz, PL.sFor, PL.sAsg, PL.sRaise, PL.sTry, PL.tryO, PL.unset, PL.xRet, PL.fldX, PL.ofR_ok, PL.ofR_exc, PL.eC, PL.eVar, PL.bin, PL.una, PL.aNil, PL.aCons, PL.app, PL.appO, PL.own, PL.tru, PL.ifE, PL.andB, PL.orB, PL.notB, PL.gd, PL.bOf, PL.truD, PL.tst, PL.andV, PL.orV, PL.notV, PL.callE, PL.callO, PL.rvD, PL.rvO, PL.bind_ok, PL.bind_exc, PL.bind_stuck, PL.addD, PL.subD, PL.mulD, PL.modD, PL.fdivD, PL.powD, PL.ltD, PL.leD, PL.gtD, PL.geD, PL.isD, PL.isNotD, PL.isNonD, PL.ixD, PL.sliceD, PL.sliceE, PL.pN, PL.pS, PL.lenL, PL.absL, PL.intL, PL.max2L, PL.min2L, PL.listL, PL.tupleL, PL.isiD, PL.isiB, PL.tyD, PL.itE, PL.seqOf, PL.gN, PL.gT, PL.setAll, PL.lp_next, PL.lp_ret, PL.lp_exc, PL.for_nil, PL.for_cons, PL.atI_0, PL.atI_1, PL.atI_2, PL.atI_3, PL.tupD, PL.lstD, PL.owL, PL.setL, PL.sApp, PL.sPop, PL.sPopAt, PL.popAt, PL.sPut, PL.putAt, PL.ixO, PL.borE, PL.borT, PL.borO, PL.binO, PL.catO, PL.repO, PL.cutO, PL.sliceO, PL.lcE, PL.yesB, PL.mkBV, PL.mkTM, PL.mkBT, PL.negD, List.map_cons, List.map_nil, List.length_cons, List.length_nil, List.getElem?_cons_zero, List.getElem?_cons_succ, List.set_cons_zero, List.set_cons_succ, List.cons_append, List.nil_append, List.replicate_succ, List.replicate_zero, List.append_nil, Nat.reduceSub, Nat.reduceAdd, Bool.false_eq_true, List.map, PL.eq_int, PL.ne_int, PL.eq_bl,  if_true, if_false, ite_true, ite_false, String.reduceBEq, decide_true, decide_false, Bool.not_true, Bool.not_false, Bool.true_and, Bool.false_and, Bool.and_true, Bool.and_false, Bool.true_or, Bool.false_or, Bool.or_true, Bool.or_false, decide_not, Bool.not_eq_true, Bool.not_not, reduceCtorEq, ne_eq, not_true_eq_false, not_false_eq_true, eq_self, beq_self_eq_true, bne_self_eq_false, and_true, true_and, and_self]
    | str s =>
      show runF 3 (b__law_same (m__law_same n)) [.str s, .str s] = _
      unfold b__law_same
      simp only [PL.runF, PL.runO, PL.start0, PL.sSeq, PL.sNext, PL.sSet, PL.sSetO, PL.sDrop, PL.sRet, PL.sRetO, PL.sRetV, PL.sRetN, PL.sIf, PL.sBrk, PL.sCont, PL.sFrz, PL.sFor, PL.sAsg, PL.sRaise, PL.sTry, PL.tryO, PL.unset, PL.xRet, PL.fldX, PL.ofR_ok, PL.ofR_exc, PL.eC, PL.eVar, PL.bin, PL.una, PL.aNil, PL.aCons, PL.app, PL.appO, PL.own, PL.tru, PL.ifE, PL.andB, PL.orB, PL.notB, PL.gd, PL.bOf, PL.truD, PL.tst, PL.andV, PL.orV, PL.notV, PL.callE, PL.callO, PL.rvD, PL.rvO, PL.bind_ok, PL.bind_exc, PL.bind_stuck, PL.addD, PL.subD, PL.mulD, PL.modD, PL.fdivD, PL.powD, PL.ltD, PL.leD, PL.gtD, PL.geD, PL.isD, PL.isNotD, PL.isNonD, PL.ixD, PL.sliceD, PL.sliceE, PL.pN, PL.pS, PL.lenL, PL.absL, PL.intL, PL.max2L, PL.min2L, PL.listL, PL.tupleL, PL.isiD, PL.isiB, PL.tyD, PL.itE, PL.seqOf, PL.gN, PL.gT, PL.setAll, PL.lp_next, PL.lp_ret, PL.lp_exc, PL.for_nil, PL.for_cons, PL.atI_0, PL.atI_1, PL.atI_2, PL.atI_3, PL.tupD, PL.lstD, PL.owL, PL.setL, PL.sApp, PL.sPop, PL.sPopAt, PL.popAt, PL.sPut, PL.putAt, PL.ixO, PL.borE, PL.borT, PL.borO, PL.binO, PL.catO, PL.repO, PL.cutO, PL.sliceO, PL.lcE, PL.yesB, PL.mkBV, PL.mkTM, PL.mkBT, PL.negD, List.map_cons, List.map_nil, List.length_cons, List.length_nil, List.getElem?_cons_zero, List.getElem?_cons_succ, List.set_cons_zero, List.set_cons_succ, List.cons_append, List.nil_append, List.replicate_succ, List.replicate_zero, List.append_nil, Nat.reduceSub, Nat.reduceAdd, Bool.false_eq_true, List.map, PL.eq_int, PL.ne_int, PL.eq_bl,  if_true, if_false, ite_true, ite_false, String.reduceBEq, decide_true, decide_false, Bool.not_true, Bool.not_false, Bool.true_and, Bool.false_and, Bool.and_true, Bool.and_false, Bool.true_or, Bool.false_or, Bool.or_true, Bool.or_false, decide_not, Bool.not_eq_true, Bool.not_not, reduceCtorEq, ne_eq, not_true_eq_false, not_false_eq_true, eq_self, beq_self_eq_true, bne_self_eq_false, and_true, true_and, and_self, eq_str h h]
    | tup xs =>
      unfold pl at h
      unfold dep at hn
      rw [Bool.and_eq_true, decide_eq_true_eq] at h
      exact same_seq (.inl rfl) h.2 fun x hx => same_refl n x (plA_mem h.1 hx) (by have := depA_mem hx; omega)
    | lst xs =>
      unfold pl at h
      unfold dep at hn
      rw [Bool.and_eq_true, decide_eq_true_eq] at h
      exact same_seq (.inr rfl) h.2 fun x hx => same_refl n x (plA_mem h.1 hx) (by have := depA_mem hx; omega)
    | scr ns => cases h
end K46

set_option maxRecDepth 100000
set_option maxHeartbeats 1000000
namespace K46
open PySem PL
/-! ## the near openings -/
theorem nm_length (p : List Nat) : (nm p).length = p.length := by show p.toArray.size = _; simp
theorem nm_app (p q : List Nat) : nm p ++ nm q = nm (p ++ q) := by
  show (⟨p.toArray ++ q.toArray⟩ : Str) = ⟨(p ++ q).toArray⟩
  rw [List.append_toArray]
theorem cut_nm (p : List Nat) (k : Nat) : L2.cutS (nm p) none (some (k : Int)) = nm (p.take k) := by
  unfold L2.cutS
  rw [nm_length, HT.sIx_none, HT.sIx_nat]
  show (⟨_⟩ : Str) = ⟨_⟩
  congr 2
  have e : (nm p).cps.toList = p := by simp [nm]
  rw [e, List.drop_zero, Nat.sub_zero, List.take_eq_take_iff]
  omega
theorem lit7 : ("7" : Str) = nm [55] := by decide +kernel
theorem litA : ("A" : Str) = nm [65] := by decide +kernel
theorem lit_ : (" " : Str) = nm [32] := by decide +kernel
theorem lit0 : ("" : Str) = nm [] := by decide +kernel
theorem litm : ("abcdefghijklm" : Str) = nm [97, 98, 99, 100, 101, 102, 103, 104, 105, 106, 107, 108, 109] := by decide +kernel
theorem way_len (w : Bool) : (way w).length ≤ 3 := by cases w <;> decide
/-- what stands near an opening -/
def near (r : Row) : List D :=
  let t := D.int r.t; let b := D.int r.b; let p := D.str (nm r.p); let w := D.str (way r.w)
  [.lst [t, b, p, w], .tup [t, b, p], .tup [t, b, p, w, w], .tup [], .non, .str "5 0 carl in", t,
   .tup [.int (-1), b, p, w], .tup [.int 1000001, b, p, w], .tup [.bl true, b, p, w],
   .tup [.str (toString r.t), b, p, w], .tup [t, .int (-1), p, w], .tup [t, .int 30, p, w],
   .tup [t, .bl false, p, w], .tup [t, .non, p, w], .tup [t, b, .str "", w],
   .tup [t, b, .str (nm (55 :: r.p.take 5)), w], .tup [t, b, .str (nm (r.p.take 3 ++ [65])), w],
   .tup [t, b, .str "abcdefghijklm", w], .tup [t, b, .str (nm (r.p.take 4 ++ [32])), w],
   .tup [t, b, p, .str "IN"], .tup [t, b, p, .str "into"], .tup [t, b, p, .non]]
theorem near_eq {r : Row} (h : r.ok) : m__law_nearly [r.d] = .ok (.sh (.lst (near r))) := by
  obtain ⟨h1, h2, h3, h4, h5⟩ := h
  have hl := nm_len h5
  have hlog : r.t.natAbs.log2 < 1920 := by
    have : r.t.natAbs < 2 ^ 20 := by omega
    exact Nat.lt_trans (PySem.Flt.log2_lt_of (by decide) this) (by decide)
  have c5 := cut_nm r.p 5
  have c3 := cut_nm r.p 3
  have c4 := cut_nm r.p 4
  have z : ∀ n : Nat, n ≤ 100 → n ≤ sizeLine := fun n hn => sz n (by omega)
  have zn : (nm r.p).length ≤ sizeLine := z _ (by rw [nm_length]; omega)
  have z5 : ("7" : Str).length + (nm (r.p.take 5)).length ≤ sizeLine := z _ (by rw [lit7, nm_length, nm_length, List.length_take]; simp only [List.length_cons, List.length_nil]; omega)
  have z3 : (nm (r.p.take 3)).length + ("A" : Str).length ≤ sizeLine := z _ (by rw [litA, nm_length, nm_length, List.length_take]; simp only [List.length_cons, List.length_nil]; omega)
  have z4 : (nm (r.p.take 4)).length + (" " : Str).length ≤ sizeLine := z _ (by rw [lit_, nm_length, nm_length, List.length_take]; simp only [List.length_cons, List.length_nil]; omega)
  have e7 : ("7" : Str) ++ nm (r.p.take 5) = nm (55 :: r.p.take 5) := by rw [lit7, nm_app]; rfl
  have eA : nm (r.p.take 3) ++ ("A" : Str) = nm (r.p.take 3 ++ [65]) := by rw [litA, nm_app]
  have e_ : nm (r.p.take 4) ++ (" " : Str) = nm (r.p.take 4 ++ [32]) := by rw [lit_, nm_app]
  have s3 : sliceD r.d none (some 3) = .ok (.tup [.int r.t, .int r.b, .str (nm r.p)]) := rfl
  have p5 : sliceD (.str (nm r.p)) none (some 5) = .ok (.str (nm (r.p.take 5))) := by
    show gd _ (Res.ok (D.str (L2.cutS (nm r.p) none (some ((5 : Nat) : Int))))) = _
    rw [gd_pos zn, c5]
  have p3 : sliceD (.str (nm r.p)) none (some 3) = .ok (.str (nm (r.p.take 3))) := by
    show gd _ (Res.ok (D.str (L2.cutS (nm r.p) none (some ((3 : Nat) : Int))))) = _
    rw [gd_pos zn, c3]
  have p4 : sliceD (.str (nm r.p)) none (some 4) = .ok (.str (nm (r.p.take 4))) := by
    show gd _ (Res.ok (D.str (L2.cutS (nm r.p) none (some ((4 : Nat) : Int))))) = _
    rw [gd_pos zn, c4]
  have a7 : addD (.str "7") (.str (nm (r.p.take 5))) = .ok (.str (nm (55 :: r.p.take 5))) := by
    show gd _ (Res.ok (D.str (("7" : Str) ++ nm (r.p.take 5)))) = _
    rw [gd_pos z5, e7]
  have aA : addD (.str (nm (r.p.take 3))) (.str "A") = .ok (.str (nm (r.p.take 3 ++ [65]))) := by
    show gd _ (Res.ok (D.str (nm (r.p.take 3) ++ ("A" : Str)))) = _
    rw [gd_pos z3, eA]
  have a_ : addD (.str (nm (r.p.take 4))) (.str " ") = .ok (.str (nm (r.p.take 4 ++ [32]))) := by
    show gd _ (Res.ok (D.str (nm (r.p.take 4) ++ (" " : Str)))) = _
    rw [gd_pos z4, e_]
  have al : ∀ xs ys : List D, xs.length + ys.length ≤ 100 → addD (.lst xs) (.lst ys) = .ok (.lst (xs ++ ys)) := fun xs ys hh => by
    show gd _ (Res.ok (D.lst (xs ++ ys))) = _
    rw [gd_pos (z _ hh)]
  have at_ : addD r.d (.tup [.str (way r.w)]) = .ok (.tup [.int r.t, .int r.b, .str (nm r.p), .str (way r.w), .str (way r.w)]) := by
    show gd _ _ = _
    rw [gd_pos (z _ (by simp))] <;> rfl
  have ts : strL [.int r.t] = .ok (.str (toString r.t)) := by
    show gd _ _ = _
    rw [gd_pos hlog]
  have tp : ∀ xs : List D, xs.length ≤ 100 → tupD xs = .ok (.tup xs) := fun xs hh => gd_pos (z _ hh)
  have ls : ∀ xs : List D, xs.length ≤ 100 → lstD xs = .ok xs := fun xs hh => gd_pos (z _ hh)
  have i0 : ixD r.d (.int 0) = .ok (.int r.t) := rfl
  have i1 : ixD r.d (.int 1) = .ok (.int r.b) := rfl
  have i2 : ixD r.d (.int 2) = .ok (.str (nm r.p)) := rfl
  have i3 : ixD r.d (.int 3) = .ok (.str (way r.w)) := rfl
  have l4 : listL [r.d] = .ok [.int r.t, .int r.b, .str (nm r.p), .str (way r.w)] := rfl
  unfold m__law_nearly b__law_nearly
  simp only [PL.runF, PL.runO, PL.start0, PL.sSeq, PL.sNext, PL.sSet, PL.sSetO, PL.sDrop, PL.sRet, PL.sRetO, PL.sRetV, PL.sRetN, PL.sIf, PL.sBrk, PL.sCont, PL.sFrz, PL.sFor, PL.sAsg, PL.sRaise, PL.sTry, PL.tryO, PL.unset, PL.xRet, PL.fldX, PL.ofR_ok, PL.ofR_exc, PL.eC, PL.eVar, PL.bin, PL.una, PL.aNil, PL.aCons, PL.app, PL.appO, PL.own, PL.tru, PL.ifE, PL.andB, PL.orB, PL.notB, PL.bOf, PL.truD, PL.tst, PL.andV, PL.orV, PL.notV, PL.callE, PL.callO, PL.rvD, PL.rvO, PL.bind_ok, PL.bind_exc, PL.bind_stuck, PL.powD, PL.ltD, PL.leD, PL.gtD, PL.geD, PL.isD, PL.isNotD, PL.isNonD, PL.sliceE, PL.pN, PL.pS, PL.absL, PL.intL, PL.max2L, PL.min2L, PL.tupleL, PL.isiD, PL.isiB, PL.tyD, PL.itE, PL.seqOf, PL.gN, PL.gT, PL.setAll, PL.lp_next, PL.lp_ret, PL.lp_exc, PL.for_nil, PL.for_cons, PL.atI_0, PL.atI_1, PL.atI_2, PL.atI_3, PL.owL, PL.setL, PL.sApp, PL.sPop, PL.sPopAt, PL.popAt, PL.sPut, PL.putAt, PL.ixO, PL.borE, PL.borT, PL.borO, PL.binO, PL.sliceO, PL.lcE, PL.yesB, PL.mkBV, PL.mkTM, PL.mkBT, PL.negD, List.map_cons, List.map_nil, List.length_cons, List.length_nil, List.getElem?_cons_zero, List.getElem?_cons_succ, List.set_cons_zero, List.set_cons_succ, List.cons_append, List.nil_append, List.replicate_succ, List.replicate_zero, List.append_nil, Nat.reduceSub, Nat.reduceAdd, Bool.false_eq_true, List.map, PL.eq_int, PL.ne_int, PL.eq_bl,  if_true, if_false, ite_true, ite_false, String.reduceBEq, decide_true, decide_false, Bool.not_true, Bool.not_false, Bool.true_and, Bool.false_and, Bool.and_true, Bool.and_false, Bool.true_or, Bool.false_or, Bool.or_true, Bool.or_false, decide_not, Bool.not_eq_true, Bool.not_not, reduceCtorEq, ne_eq, not_true_eq_false, not_false_eq_true, eq_self, beq_self_eq_true, bne_self_eq_false, and_true, true_and, and_self, i0, i1, i2, i3, l4, s3, p5, p3, p4, a7, aA, a_, at_, ts, ls, tp, al, List.length_append, Nat.reduceLeDiff, Nat.reduceLT]
  rfl
theorem near_bad {r : Row} (h : r.ok) : ∀ x ∈ near r, m_is_opening [x] = no := by
  have ht := row_time h
  have hb := row_box h
  have hn := row_name h
  have hw := way_in r.w
  have hp := nm_len h.2.2.2.2
  have name : ∀ cs : List Nat, cs.length ≤ 20 → nmOk cs = false → m_is_name [.str (nm cs)] = bv false := fun cs hc e => by rw [is_name_str cs hc, e]
  intro x hx
  unfold near at hx
  simp only [List.mem_cons, List.not_mem_nil, or_false] at hx
  rcases hx with e | e | e | e | e | e | e | e | e | e | e | e | e | e | e | e | e | e | e | e | e | e | e <;> subst e
  · exact op_not rfl
  · exact op_tup (by simp)
  · exact op_tup (by simp)
  · exact op_tup (by simp)
  · exact op_not rfl
  · exact op_not rfl
  · exact op_not rfl
  · exact op_gen (a1 := false) (by rw [time_int]; rfl) hb hn hw
  · exact op_gen (a1 := false) (by rw [time_int]; rfl) hb hn hw
  · exact op_gen (a1 := false) (time_not _ rfl) hb hn hw
  · exact op_gen (a1 := false) (time_not _ rfl) hb hn hw
  · exact op_gen (a2 := false) ht (by rw [in_range_int]; rfl) hn hw
  · exact op_gen (a2 := false) ht (by rw [in_range_int]; rfl) hn hw
  · exact op_gen (a2 := false) ht (in_range_not _ _ _ rfl) hn hw
  · exact op_gen (a2 := false) ht (in_range_not _ _ _ rfl) hn hw
  · exact op_gen (a3 := false) ht hb (by rw [lit0]; exact name _ (by decide) rfl) hw
  · exact op_gen (a3 := false) ht hb (name _ (by simp only [List.length_cons, List.length_take]; omega) rfl) hw
  · exact op_gen (a3 := false) ht hb (name _ (by simp only [List.length_append, List.length_cons, List.length_nil, List.length_take]; omega) (by
      cases hq : r.p with
      | nil => rfl
      | cons c cs => simp [nmOk, List.take_succ_cons, lett, dgt])) hw
  · exact op_gen (a3 := false) ht hb (by rw [litm]; exact name _ (by decide) (by decide)) hw
  · exact op_gen (a3 := false) ht hb (name _ (by simp only [List.length_append, List.length_cons, List.length_nil, List.length_take]; omega) (by
      cases hq : r.p with
      | nil => rfl
      | cons c cs => simp [nmOk, List.take_succ_cons, lett, dgt])) hw
  · exact op_gen (a4 := false) ht hb hn rfl
  · exact op_gen (a4 := false) ht hb hn rfl
  · exact op_gen (a4 := false) ht hb hn rfl
end K46

set_option maxRecDepth 100000
set_option maxHeartbeats 1000000
namespace K46
open PySem PL
/-! ## faults -/
def lastIn (pre : List Row) (b : Int) : Bool := match (pre.filter fun q => decide (q.b = b)).getLast? with | some q => q.w | none => false
def early (pre : List Row) (r : Row) : Bool := match pre.getLast? with | some q => decide (r.t < q.t) | none => false
def faultAt (n : Nat) (pre : List Row) (r : Row) : Option Str :=
  if (n : Int) ≤ r.b then some "box" else if early pre r = true then some "time" else if (r.w && lastIn pre r.b) = true then some "in" else if (!r.w && !lastIn pre r.b) = true then some "out" else none
def faultFrom (n : Nat) : List Row → List Row → Option (Nat × Str)
  | _, [] => none
  | pre, r :: rs => match faultAt n pre r with | some s => some (pre.length, s) | none => faultFrom n (pre ++ [r]) rs
def faultD : Option (Nat × Str) → D | none => .non | some (k, s) => .tup [.int (k : Nat), .str s]
theorem lastIn_snoc (pre : List Row) (r : Row) (b : Int) : lastIn (pre ++ [r]) b = if b = r.b then r.w else lastIn pre b := by
  unfold lastIn
  rw [List.filter_append]
  by_cases h : b = r.b
  · subst h
    simp
  · have h2 : ¬ r.b = b := fun z => h z.symm
    simp [h, h2]
def occ (n : Nat) (pre : List Row) : List D := (List.range n).map fun b => .bl (lastIn pre (b : Nat))
theorem occ_len (n : Nat) (pre : List Row) : (occ n pre).length = n := by simp [occ]
theorem occ_get {n : Nat} {pre : List Row} {b : Int} (h0 : 0 ≤ b) (h : b < n) : L2.atI (occ n pre) b = some (.bl (lastIn pre b)) := by
  obtain ⟨j, rfl⟩ := Int.eq_ofNat_of_zero_le h0
  rw [atI_nat]
  unfold occ
  rw [List.getElem?_map, List.getElem?_range (by omega)]
  rfl
theorem occ_set {n : Nat} {pre : List Row} {r : Row} (h0 : 0 ≤ r.b) (h : r.b < n) : putAt (occ n pre) (.bl r.w) (.int r.b) = .ok (occ n (pre ++ [r])) := by
  obtain ⟨j, hj⟩ := Int.eq_ofNat_of_zero_le h0
  have e : L2.ixN (occ n pre).length r.b = some j := by
    unfold L2.ixN
    rw [occ_len, if_pos h0, if_pos h, hj]; rfl
  show (match L2.ixN (occ n pre).length r.b with | some j => Res.ok ((occ n pre).set j (.bl r.w)) | none => .stuck) = _
  rw [e]
  show Res.ok _ = Res.ok _
  congr 1
  unfold occ
  apply List.ext_getElem
  · simp
  · intro i h1 h2
    simp only [List.length_map, List.length_range] at h2
    rw [List.getElem_set]
    simp only [List.getElem_map, List.getElem_range, lastIn_snoc, hj]
    by_cases hi : j = i
    · subst hi; simp
    · have : ¬ ((i : Int) = (j : Int)) := by omega
      rw [if_neg hi, if_neg this]
theorem ix_at (pre : List Row) (r : Row) (rs : List Row) : ixD (.lst ((pre ++ r :: rs).map Row.d)) (.int (pre.length : Nat)) = .ok r.d := by
  rw [ix_lst _ _ (by simp)]
  simp
theorem eq_way_in (w : Bool) : eqD (.str (way w)) (.str "in") = .ok (.bl w) := by
  rw [eq_str (by cases w <;> decide +kernel) (by decide +kernel)]
  have : ∀ b c : Bool, b = c → (Res.ok (D.bl b)) = .ok (.bl c) := fun b c e => by rw [e]
  apply this
  cases w <;> decide +kernel
theorem eq_way_out (w : Bool) : eqD (.str (way w)) (.str "out") = .ok (.bl (!w)) := by
  rw [eq_str (by cases w <;> decide +kernel) (by decide +kernel)]
  have : ∀ b c : Bool, b = c → (Res.ok (D.bl b)) = .ok (.bl c) := fun b c e => by rw [e]
  apply this
  cases w <;> decide +kernel
theorem tup2 (a b : D) : tupD [a, b] = .ok (.tup [a, b]) := gd_pos (sz _ (by simp))
def lastT (pre : List Row) : Int := match pre.getLast? with | some q => q.t | none => 0
theorem early_eq {pre : List Row} {r : Row} (h : r.ok) : decide (r.t < lastT pre) = early pre r := by
  unfold lastT early
  cases pre.getLast? with
  | none => show decide (r.t < 0) = false; exact decide_eq_false (by have := h.1; omega)
  | some q => rfl
theorem lastT_snoc (pre : List Row) (r : Row) : lastT (pre ++ [r]) = r.t := by unfold lastT; rw [List.getLast?_concat]
theorem fault_body {n : Nat} {bd : List D} {hist pre rs : List Row} {r : Row} {o5 o6 o7 o8 : Sl} (hbd : bd.length = n) (e : hist = pre ++ r :: rs) (h : r.ok) :
    B1_fault_of [.sh (.lst bd), .sh (.lst (hist.map Row.d)), .ow (.lst (occ n pre)), .sh (.int (lastT pre)), .sh (.int (pre.length : Nat)), o5, o6, o7, o8] = match faultAt n pre r with
      | some s => .ret (.sh (.tup [.int (pre.length : Nat), .str s]))
      | none => .next [.sh (.lst bd), .sh (.lst (hist.map Row.d)), .ow (.lst (occ n (pre ++ [r]))), .sh (.int r.t), .sh (.int (pre.length : Nat)), .sh (.int r.t), .sh (.int r.b), .sh (.str (nm r.p)), .sh (.str (way r.w))] := by
  subst e
  subst hbd
  have hi := ix_at pre r rs
  unfold B1_fault_of
  have hg : (gT [5, 6, 7, 8]) r.d [.sh (.lst bd), .sh (.lst ((pre ++ r :: rs).map Row.d)), .ow (.lst (occ bd.length pre)), .sh (.int (lastT pre)), .sh (.int (pre.length : Nat)), o5, o6, o7, o8] = .ok [.sh (.lst bd), .sh (.lst ((pre ++ r :: rs).map Row.d)), .ow (.lst (occ bd.length pre)), .sh (.int (lastT pre)), .sh (.int (pre.length : Nat)), .sh (.int r.t), .sh (.int r.b), .sh (.str (nm r.p)), .sh (.str (way r.w))] := rfl
  rw [seq_next (ρ' := [.sh (.lst bd), .sh (.lst ((pre ++ r :: rs).map Row.d)), .ow (.lst (occ bd.length pre)), .sh (.int (lastT pre)), .sh (.int (pre.length : Nat)), .sh (.int r.t), .sh (.int r.b), .sh (.str (nm r.p)), .sh (.str (way r.w))])
    (by unfold sAsg PL.bin PL.eVar; simp only [List.getElem?_cons_zero, List.getElem?_cons_succ, bind_ok, hi, ofR_ok, hg])]
  have hll : lenL [.lst bd] = .ok (.int (bd.length : Nat)) := rfl
  unfold faultAt
  by_cases h1 : (bd.length : Int) ≤ r.b
  · rw [if_pos h1]
    simp only [PL.runF, PL.runO, PL.start0, PL.sSeq, PL.sNext, PL.sSet, PL.sSetO, PL.sDrop, PL.sRet, PL.sRetO, PL.sRetV, PL.sRetN, PL.sIf, PL.sBrk, PL.sCont, PL.sFrz, PL.sFor, PL.sAsg, PL.sRaise, PL.sTry, PL.tryO, PL.unset, PL.xRet, PL.fldX, PL.ofR_ok, PL.ofR_exc, PL.eC, PL.eVar, PL.bin, PL.una, PL.aNil, PL.aCons, PL.app, PL.appO, PL.own, PL.tru, PL.ifE, PL.andB, PL.orB, PL.notB, PL.bOf, PL.truD, PL.tst, PL.andV, PL.orV, PL.notV, PL.callE, PL.callO, PL.rvD, PL.rvO, PL.bind_ok, PL.bind_exc, PL.bind_stuck, PL.powD, PL.ltD, PL.leD, PL.gtD, PL.geD, PL.isD, PL.isNotD, PL.isNonD, PL.sliceE, PL.pN, PL.pS, PL.absL, PL.intL, PL.max2L, PL.min2L, PL.tupleL, PL.isiD, PL.isiB, PL.tyD, PL.itE, PL.seqOf, PL.gN, PL.gT, PL.setAll, PL.lp_next, PL.lp_ret, PL.lp_exc, PL.for_nil, PL.for_cons, PL.atI_0, PL.atI_1, PL.atI_2, PL.atI_3, PL.owL, PL.setL, PL.sApp, PL.sPop, PL.sPopAt, PL.popAt, PL.sPut, PL.putAt, PL.ixO, PL.borE, PL.borT, PL.borO, PL.binO, PL.sliceO, PL.lcE, PL.yesB, PL.mkBV, PL.mkTM, PL.mkBT, PL.negD, List.map_cons, List.map_nil, List.length_cons, List.length_nil, List.getElem?_cons_zero, List.getElem?_cons_succ, List.set_cons_zero, List.set_cons_succ, List.cons_append, List.nil_append, List.replicate_succ, List.replicate_zero, List.append_nil, Nat.reduceSub, Nat.reduceAdd, Bool.false_eq_true, List.map, PL.eq_int, PL.ne_int, PL.eq_bl,  if_true, if_false, ite_true, ite_false, String.reduceBEq, decide_true, decide_false, Bool.not_true, Bool.not_false, Bool.true_and, Bool.false_and, Bool.and_true, Bool.and_false, Bool.true_or, Bool.false_or, Bool.or_true, Bool.or_false, decide_not, Bool.not_eq_true, Bool.not_not, reduceCtorEq, ne_eq, not_true_eq_false, not_false_eq_true, eq_self, beq_self_eq_true, bne_self_eq_false, and_true, true_and, and_self, hll, h1, tup2]
  · rw [if_neg h1]
    have hb0 := h.2.2.1
    have hb : r.b < bd.length := by omega
    have og := occ_get (pre := pre) hb0 hb
    have os := occ_set (pre := pre) hb0 hb
    have ee := early_eq (pre := pre) h
    by_cases h2 : early pre r = true
    · rw [if_pos h2]
      have h2' : r.t < lastT pre := by rw [h2] at ee; exact of_decide_eq_true ee
      simp only [PL.runF, PL.runO, PL.start0, PL.sSeq, PL.sNext, PL.sSet, PL.sSetO, PL.sDrop, PL.sRet, PL.sRetO, PL.sRetV, PL.sRetN, PL.sIf, PL.sBrk, PL.sCont, PL.sFrz, PL.sFor, PL.sAsg, PL.sRaise, PL.sTry, PL.tryO, PL.unset, PL.xRet, PL.fldX, PL.ofR_ok, PL.ofR_exc, PL.eC, PL.eVar, PL.bin, PL.una, PL.aNil, PL.aCons, PL.app, PL.appO, PL.own, PL.tru, PL.ifE, PL.andB, PL.orB, PL.notB, PL.bOf, PL.truD, PL.tst, PL.andV, PL.orV, PL.notV, PL.callE, PL.callO, PL.rvD, PL.rvO, PL.bind_ok, PL.bind_exc, PL.bind_stuck, PL.powD, PL.ltD, PL.leD, PL.gtD, PL.geD, PL.isD, PL.isNotD, PL.isNonD, PL.sliceE, PL.pN, PL.pS, PL.absL, PL.intL, PL.max2L, PL.min2L, PL.tupleL, PL.isiD, PL.isiB, PL.tyD, PL.itE, PL.seqOf, PL.gN, PL.gT, PL.setAll, PL.lp_next, PL.lp_ret, PL.lp_exc, PL.for_nil, PL.for_cons, PL.atI_0, PL.atI_1, PL.atI_2, PL.atI_3, PL.owL, PL.setL, PL.sApp, PL.sPop, PL.sPopAt, PL.popAt, PL.sPut, PL.putAt, PL.ixO, PL.borE, PL.borT, PL.borO, PL.binO, PL.sliceO, PL.lcE, PL.yesB, PL.mkBV, PL.mkTM, PL.mkBT, PL.negD, List.map_cons, List.map_nil, List.length_cons, List.length_nil, List.getElem?_cons_zero, List.getElem?_cons_succ, List.set_cons_zero, List.set_cons_succ, List.cons_append, List.nil_append, List.replicate_succ, List.replicate_zero, List.append_nil, Nat.reduceSub, Nat.reduceAdd, Bool.false_eq_true, List.map, PL.eq_int, PL.ne_int, PL.eq_bl,  if_true, if_false, ite_true, ite_false, String.reduceBEq, decide_true, decide_false, Bool.not_true, Bool.not_false, Bool.true_and, Bool.false_and, Bool.and_true, Bool.and_false, Bool.true_or, Bool.false_or, Bool.or_true, Bool.or_false, decide_not, Bool.not_eq_true, Bool.not_not, reduceCtorEq, ne_eq, not_true_eq_false, not_false_eq_true, eq_self, beq_self_eq_true, bne_self_eq_false, and_true, true_and, and_self, hll, h1, h2', tup2]
    · rw [if_neg h2]
      have h2' : ¬ r.t < lastT pre := by
        have : early pre r = false := by simpa using h2
        rw [this] at ee; exact of_decide_eq_false ee
      have oset : sPut 2 (eVar 6) (PL.bin eqD (eVar 8) (eC (.str "in"))) [.sh (.lst bd), .sh (.lst ((pre ++ r :: rs).map Row.d)), .ow (.lst (occ bd.length pre)), .sh (.int (lastT pre)), .sh (.int (pre.length : Nat)), .sh (.int r.t), .sh (.int r.b), .sh (.str (nm r.p)), .sh (.str (way r.w))] = .next [.sh (.lst bd), .sh (.lst ((pre ++ r :: rs).map Row.d)), .ow (.lst (occ bd.length (pre ++ [r]))), .sh (.int (lastT pre)), .sh (.int (pre.length : Nat)), .sh (.int r.t), .sh (.int r.b), .sh (.str (nm r.p)), .sh (.str (way r.w))] := by
        unfold sPut PL.bin PL.eVar PL.eC owL
        simp only [List.getElem?_cons_zero, List.getElem?_cons_succ, bind_ok, ofR_ok, eq_way_in, os]
        rfl
      cases hw : r.w <;> cases hl : lastIn pre r.b <;> simp only [hw] at oset <;> simp only [hl] at og <;> simp only [String.reduceBEq, decide_true, decide_false, Bool.not_true, Bool.not_false, Bool.true_and, Bool.false_and, Bool.and_true, Bool.and_false, Bool.true_or, Bool.false_or, Bool.or_true, Bool.or_false, decide_not, Bool.not_eq_true, Bool.not_not, reduceCtorEq, ne_eq, not_true_eq_false, not_false_eq_true, eq_self, beq_self_eq_true, bne_self_eq_false, and_true, true_and, and_self, if_true, if_false, Bool.false_eq_true] <;> unfold PL.sSeq PL.sIf <;>
        simp only [PL.tst, PL.bin, PL.bind_ok, PL.app, PL.aCons, PL.aNil, PL.eVar, PL.eC, PL.geD, PL.ltD, PL.bOf, PL.truD, PL.andB, PL.notB, PL.ixO, PL.owL, PL.ofR_ok, PL.sNext, PL.sRet, hll, h1, h2', eq_way_in, eq_way_out, og, tup2, List.getElem?_cons_zero, List.getElem?_cons_succ, String.reduceBEq, decide_true, decide_false, Bool.not_true, Bool.not_false, Bool.true_and, Bool.false_and, Bool.and_true, Bool.and_false, Bool.true_or, Bool.false_or, Bool.or_true, Bool.or_false, decide_not, Bool.not_eq_true, Bool.not_not, reduceCtorEq, ne_eq, not_true_eq_false, not_false_eq_true, eq_self, beq_self_eq_true, bne_self_eq_false, and_true, true_and, and_self, if_true, if_false, Bool.false_eq_true, oset, PL.sSet, List.set_cons_zero, List.set_cons_succ]
theorem fault_loop {n : Nat} {bd : List D} {hist : List Row} (hbd : bd.length = n) : ∀ (rs pre : List Row) (o4 o5 o6 o7 o8 : Sl), hist = pre ++ rs → (∀ r ∈ rs, r.ok) → ∃ ρ', forL (gN 4) B1_fault_of ((List.range' pre.length rs.length).map fun k => .int ((k : Nat) : Int)) [.sh (.lst bd), .sh (.lst (hist.map Row.d)), .ow (.lst (occ n pre)), .sh (.int (lastT pre)), o4, o5, o6, o7, o8] =
    match faultFrom n pre rs with | some f => .ret (.sh (faultD (some f))) | none => .next ρ'
  | [], pre, o4, o5, o6, o7, o8, _, _ => ⟨_, rfl⟩
  | r :: rs, pre, o4, o5, o6, o7, o8, e, h => by
    have hb := fault_body (o5 := o5) (o6 := o6) (o7 := o7) (o8 := o8) hbd e (h r List.mem_cons_self)
    rw [List.length_cons, List.range'_succ, List.map_cons]
    rw [for_cons]
    show ∃ ρ', lpO _ (B1_fault_of [.sh (.lst bd), .sh (.lst (hist.map Row.d)), .ow (.lst (occ n pre)), .sh (.int (lastT pre)), .sh (.int (pre.length : Nat)), o5, o6, o7, o8]) = _
    rw [hb]
    unfold faultFrom
    cases hf : faultAt n pre r with
    | some s => exact ⟨[], rfl⟩
    | none =>
      obtain ⟨ρ', ih⟩ := fault_loop (hist := hist) hbd rs (pre ++ [r]) (.sh (.int (pre.length : Nat))) (.sh (.int r.t)) (.sh (.int r.b)) (.sh (.str (nm r.p))) (.sh (.str (way r.w))) (by rw [e]; simp) fun x hx => h x (List.mem_cons_of_mem _ hx)
      refine ⟨ρ', ?_⟩
      rw [lastT_snoc] at ih
      simp only [List.length_append, List.length_cons, List.length_nil] at ih
      exact ih
theorem occ_nil (n : Nat) : List.replicate n (D.bl false) = occ n [] := by
  unfold occ
  apply List.ext_getElem
  · simp
  · intro i h1 h2
    simp [lastIn]
theorem fault_of_eq (bank : List Size) (hist : List Row) (hb : bank.length ≤ 30) (hl : hist.length ≤ 60) (h : ∀ r ∈ hist, r.ok) : m_fault_of [.lst (bank.map Size.d), .lst (hist.map Row.d)] = .ok (.sh (faultD (faultFrom bank.length [] hist))) := by
  obtain ⟨ρ', hf⟩ := fault_loop (n := bank.length) (bd := bank.map Size.d) (hist := hist) (by simp) hist [] .no .no .no .no .no rfl h
  have r1 := rng1_nat hist.length (by omega)
  have hr : repO (.lst [.bl false]) (.int (bank.length : Nat)) = .ok (occ bank.length []) := by
    rw [rep_nat _ _ (by omega) (by simp; omega), rep_one, occ_nil]
  have l1 : lenL [.lst (bank.map Size.d)] = .ok (.int (bank.length : Nat)) := by show Res.ok (D.int (((bank.map Size.d).length : Nat) : Int)) = _; rw [List.length_map]
  have l2 : lenL [.lst (hist.map Row.d)] = .ok (.int (hist.length : Nat)) := by show Res.ok (D.int (((hist.map Row.d).length : Nat) : Int)) = _; rw [List.length_map]
  have ls : lstD [.bl false] = .ok [.bl false] := lst_ok _ (by simp)
  rw [List.range_eq_range'] at r1
  have s1 : sSetO 2 (binO repO (own (appO lstD (aCons (eC (.bl false)) aNil))) (app lenL (aCons (eVar 0) aNil))) [.sh (.lst (bank.map Size.d)), .sh (.lst (hist.map Row.d)), .no, .no, .no, .no, .no, .no, .no] = .next [.sh (.lst (bank.map Size.d)), .sh (.lst (hist.map Row.d)), .ow (.lst (occ bank.length [])), .no, .no, .no, .no, .no, .no] :=
    setO_eq (binO_eq (own_eq (appO_eq (cons_eq rfl rfl) ls)) (app_eq (cons_eq rfl rfl) l1) hr)
  have s3 := for_eq (t := gN 4) (b := B1_fault_of) (it := appO rng1 (aCons (app lenL (aCons (eVar 1) aNil)) aNil)) (ρ := [.sh (.lst (bank.map Size.d)), .sh (.lst (hist.map Row.d)), .ow (.lst (occ bank.length [])), .sh (.int 0), .no, .no, .no, .no, .no]) (appO_eq (cons_eq (app_eq (cons_eq rfl rfl) l2) rfl) r1) hf
  refine run_of (b := b_fault_of) (env := [.sh (.lst (bank.map Size.d)), .sh (.lst (hist.map Row.d)), .no, .no, .no, .no, .no, .no, .no]) (o := .ret (.sh (faultD (faultFrom bank.length [] hist)))) rfl ?_ rfl
  unfold b_fault_of
  rw [seq_next s1, seq_next (set_eq rfl)]
  cases hq : faultFrom bank.length [] hist with
  | none => rw [hq] at s3; exact (seq_next s3).trans (ret_eq rfl)
  | some f => rw [hq] at s3; exact seq_ret s3
end K46

set_option maxRecDepth 100000
set_option maxHeartbeats 1000000
namespace K46
open PySem PL
theorem row_ix0 (r : Row) : ixD r.d (.int 0) = .ok (.int r.t) := rfl
theorem row_ix1 (r : Row) : ixD r.d (.int 1) = .ok (.int r.b) := rfl
theorem row_ix2 (r : Row) : ixD r.d (.int 2) = .ok (.str (nm r.p)) := rfl
theorem row_ix3 (r : Row) : ixD r.d (.int 3) = .ok (.str (way r.w)) := rfl
theorem lc_rows {r : Row} {a0 a1 a2 a4 : Sl} : ∀ (qs : List Row) (a5 : Sl), lcL 5 T1__law_fault E1__law_fault (qs.map Row.d) [a0, a1, a2, .sh r.d, a4, a5] = .ok ((qs.filter fun q => decide (q.b = r.b)).map fun q => .str (way q.w))
  | [], _ => rfl
  | q :: qs, a5 => by
    have ih := lc_rows (r := r) (a0 := a0) (a1 := a1) (a2 := a2) (a4 := a4) qs a5
    have ht : T1__law_fault [a0, a1, a2, .sh r.d, a4, .sh q.d] = .ok (decide (q.b = r.b)) :=
      tst_eq (bin_eq (bin_eq rfl rfl (row_ix1 q)) (bin_eq rfl rfl (row_ix1 r)) (eq_int q.b r.b)) rfl
    have he : E1__law_fault [a0, a1, a2, .sh r.d, a4, .sh q.d] = .ok (.str (way q.w)) := bin_eq rfl rfl (row_ix3 q)
    rw [List.map_cons]
    by_cases h : q.b = r.b
    · rw [decide_eq_true h] at ht
      rw [List.filter_cons_of_pos (by simp [h])]
      exact lc_yes ht he ih
    · rw [decide_eq_false h] at ht
      rw [List.filter_cons_of_neg (by simp [h])]
      exact lc_no ht ih
theorem cut_last (xs : List D) : cutG xs (some (-1)) none = xs.drop (xs.length - 1) := by
  unfold cutG
  have e1 : HT.sIx xs.length 0 (some (-1)) = xs.length - 1 := by
    show (if (-1 : Int) < 0 then ((-1 : Int) + (xs.length : Int)).toNat else min (-1 : Int).toNat xs.length) = xs.length - 1
    rw [if_pos (by decide)]
    omega
  rw [e1, HT.sIx_none, List.take_of_length_le (by rw [List.length_drop]; omega)]
theorem eq_lst_shp {xs ys : List D} (h : shp (.lst xs) = true) (h2 : shp (.lst ys) = true) : eqD (.lst xs) (.lst ys) = .ok (.bl (eqv (.lst xs) (.lst ys))) := gd_pos ⟨h, h2⟩
theorem eq_last (qs : List Row) : eqD (.lst ((qs.map fun q => D.str (way q.w)).drop ((qs.map fun q => D.str (way q.w)).length - 1))) (.lst [.str "in"]) = .ok (.bl (match qs.getLast? with | some q => q.w | none => false)) := by
  rcases List.eq_nil_or_concat qs with e | ⟨ps, q, e⟩
  · subst e
    rw [eq_lst_shp (by decide +kernel) (by decide +kernel)]
    rfl
  · subst e
    rw [List.concat_eq_append, List.getLast?_concat, List.map_append, List.length_append, List.map_cons, List.map_nil, List.length_cons, List.length_nil, Nat.zero_add, Nat.add_sub_cancel, List.drop_left]
    rw [eq_lst_shp (by cases q.w <;> decide +kernel) (by decide +kernel)]
    have : eqv (.lst [.str (way q.w)]) (.lst [.str "in"]) = q.w := by cases q.w <;> decide +kernel
    rw [this]
theorem ne_of_eqD {a b : D} {v : Bool} (h : eqD a b = .ok (.bl v)) : neD a b = .ok (.bl (!v)) := by
  unfold eqD at h
  unfold neD
  obtain ⟨hc, h⟩ := gd_ok h
  rw [gd_pos hc]
  cases h
  rfl
theorem cut_pre (pre : List Row) (rs : List Row) : cutG ((pre ++ rs).map Row.d) none (some (pre.length : Nat)) = pre.map Row.d := by
  unfold cutG
  rw [HT.sIx_none, HT.sIx_nat, List.drop_zero, Nat.sub_zero, List.map_append]
  have : min pre.length (pre.map Row.d ++ rs.map Row.d).length = (pre.map Row.d).length := by simp
  rw [this, List.take_left]
theorem lfault_body {n : Nat} {hist pre rs : List Row} {r : Row} {o3 o4 o5 : Sl} (e : hist = pre ++ r :: rs) (h : r.ok) (hl : hist.length ≤ 60) : ∃ o4',
    B1__law_fault [.sh (.int (n : Nat)), .sh (.lst (hist.map Row.d)), .sh (.int (pre.length : Nat)), o3, o4, o5] = match faultAt n pre r with
      | some s => .ret (.sh (.tup [.int (pre.length : Nat), .str s]))
      | none => .next [.sh (.int (n : Nat)), .sh (.lst (hist.map Row.d)), .sh (.int (pre.length : Nat)), .sh r.d, o4', o5] := by
  subst e
  have hi := ix_at pre r rs
  have hpl : pre.length ≤ 60 := by simp at hl; omega
  let H := D.lst ((pre ++ r :: rs).map Row.d)
  let K := D.int (pre.length : Nat)
  refine ⟨.sh (.lst ((pre.filter fun q => decide (q.b = r.b)).map fun q => .str (way q.w))), ?_⟩
  unfold B1__law_fault
  rw [seq_next (set_eq (bin_eq rfl rfl hi))]
  show sSeq _ _ [.sh (.int (n : Nat)), .sh H, .sh K, .sh r.d, o4, o5] = _
  unfold faultAt
  by_cases h1 : (n : Int) ≤ r.b
  · rw [if_pos h1]
    refine seq_ret (if_eq (b := true) (tst_eq (bin_eq (bin_eq rfl rfl (row_ix1 r)) rfl (show geD (.int r.b) (.int (n : Nat)) = .ok (.bl true) by show Res.ok (D.bl (decide ((n : Int) ≤ r.b))) = _; rw [decide_eq_true h1])) rfl) ?_)
    exact ret_eq (app_eq (cons_eq rfl (cons_eq rfl rfl)) (tup2 _ _))
  · rw [if_neg h1]
    refine seq_n (if_eq (b := false) (tst_eq (bin_eq (bin_eq rfl rfl (row_ix1 r)) rfl (show geD (.int r.b) (.int (n : Nat)) = .ok (.bl false) by show Res.ok (D.bl (decide ((n : Int) ≤ r.b))) = _; rw [decide_eq_false h1])) rfl) rfl) ?_
    show sSeq _ _ [.sh (.int (n : Nat)), .sh H, .sh K, .sh r.d, o4, o5] = _
    have hprev : ∀ ps q, pre = ps ++ [q] → PL.bin ixD (PL.bin ixD (eVar 1) (PL.bin subD (eVar 2) (eC (.int 1)))) (eC (.int 0)) [.sh (.int (n : Nat)), .sh H, .sh K, .sh r.d, o4, o5] = .ok (.int q.t) := fun ps q e => by
      have e2 : (pre ++ r :: rs) = ps ++ q :: r :: rs := by rw [e]; simp
      have e3 : (pre.length : Int) - 1 = (ps.length : Nat) := by rw [e]; simp
      refine bin_eq (bin_eq (x := H) rfl (bin_eq (y := .int 1) rfl rfl (show subD K (.int 1) = .ok (.int (ps.length : Nat)) by show Res.ok (D.int ((pre.length : Int) - 1)) = _; rw [e3])) ?_) rfl (row_ix0 q)
      show ixD (.lst ((pre ++ r :: rs).map Row.d)) _ = _
      rw [e2]
      exact ix_at ps q (r :: rs)
    have htest : andB (tst bOf (PL.bin gtD (eVar 2) (eC (.int 0)))) (tst bOf (PL.bin ltD (PL.bin ixD (eVar 3) (eC (.int 0))) (PL.bin ixD (PL.bin ixD (eVar 1) (PL.bin subD (eVar 2) (eC (.int 1)))) (eC (.int 0))))) [.sh (.int (n : Nat)), .sh H, .sh K, .sh r.d, o4, o5] = .ok (early pre r) := by
      have g : tst bOf (PL.bin gtD (eVar 2) (eC (.int 0))) [.sh (.int (n : Nat)), .sh H, .sh K, .sh r.d, o4, o5] = .ok (decide ((0 : Int) < (pre.length : Nat))) := tst_eq (bin_eq rfl rfl rfl) rfl
      unfold PL.andB
      rw [g, bind_ok]
      rcases List.eq_nil_or_concat pre with e | ⟨ps, q, e⟩
      · have : decide ((0 : Int) < (pre.length : Nat)) = false := by rw [e]; rfl
        rw [this, e]
        rfl
      · rw [List.concat_eq_append] at e
        have : decide ((0 : Int) < (pre.length : Nat)) = true := by rw [e]; simp
        rw [this, if_pos rfl]
        have ee : early pre r = decide (r.t < q.t) := by unfold early; rw [e, List.getLast?_concat]
        rw [ee]
        exact tst_eq (bin_eq (bin_eq rfl rfl (row_ix0 r)) (hprev ps q e) rfl) rfl
    by_cases h2 : early pre r = true
    · rw [if_pos h2]
      rw [h2] at htest
      exact seq_ret (if_eq htest (ret_eq (app_eq (cons_eq rfl (cons_eq rfl rfl)) (tup2 _ _))))
    · rw [if_neg h2]
      have h2' : early pre r = false := by simpa using h2
      rw [h2'] at htest
      refine seq_n (if_eq htest rfl) ?_
      show sSeq _ _ [.sh (.int (n : Nat)), .sh H, .sh K, .sh r.d, o4, o5] = _
      let ER := D.lst ((pre.filter fun q => decide (q.b = r.b)).map fun q => D.str (way q.w))
      have hs : PL.own (lcE (itE (sliceE (eVar 1) pN (pS (eVar 2)))) 5 T1__law_fault E1__law_fault) [.sh (.int (n : Nat)), .sh H, .sh K, .sh r.d, o4, o5] = .ok ER := by
        refine own_eq ?_
        have it : itE (sliceE (eVar 1) pN (pS (eVar 2))) [.sh (.int (n : Nat)), .sh H, .sh K, .sh r.d, o4, o5] = .ok (pre.map Row.d) := by
          show Res.ok (cutG ((pre ++ r :: rs).map Row.d) none (some (pre.length : Nat))) = _
          rw [cut_pre]
        unfold lcE
        rw [it, bind_ok, gd_pos (sz _ (by rw [List.length_map]; omega)), lc_rows]
      refine seq_n (set_eq hs) ?_
      show sSeq _ _ [.sh (.int (n : Nat)), .sh H, .sh K, .sh r.d, .sh ER, o5] = _
      have hlast : eqD (.lst (cutG ((pre.filter fun q => decide (q.b = r.b)).map fun q => D.str (way q.w)) (some (-1)) none)) (.lst [.str "in"]) = .ok (.bl (lastIn pre r.b)) := by
        rw [cut_last, eq_last]; rfl
      have li : lstD [.str "in"] = .ok [.str "in"] := lst_ok _ (by simp)
      have hsl : sliceE (eVar 4) (pS (una negD (eC (.int 1)))) pN [.sh (.int (n : Nat)), .sh H, .sh K, .sh r.d, .sh ER, o5] = .ok (.lst (cutG ((pre.filter fun q => decide (q.b = r.b)).map fun q => D.str (way q.w)) (some (-1)) none)) := rfl
      have hin : PL.own (appO lstD (aCons (eC (.str "in")) aNil)) [.sh (.int (n : Nat)), .sh H, .sh K, .sh r.d, .sh ER, o5] = .ok (.lst [.str "in"]) := own_eq (appO_eq (cons_eq rfl rfl) li)
      have t1 : andB (tst bOf (PL.bin eqD (PL.bin ixD (eVar 3) (eC (.int 3))) (eC (.str "in")))) (tst bOf (PL.bin eqD (sliceE (eVar 4) (pS (una negD (eC (.int 1)))) pN) (PL.own (appO lstD (aCons (eC (.str "in")) aNil))))) [.sh (.int (n : Nat)), .sh H, .sh K, .sh r.d, .sh ER, o5] = .ok (r.w && lastIn pre r.b) := by
        have a : tst bOf (PL.bin eqD (PL.bin ixD (eVar 3) (eC (.int 3))) (eC (.str "in"))) [.sh (.int (n : Nat)), .sh H, .sh K, .sh r.d, .sh ER, o5] = .ok r.w := tst_eq (bin_eq (bin_eq rfl rfl (row_ix3 r)) rfl (eq_way_in r.w)) rfl
        have b : tst bOf (PL.bin eqD (sliceE (eVar 4) (pS (una negD (eC (.int 1)))) pN) (PL.own (appO lstD (aCons (eC (.str "in")) aNil)))) [.sh (.int (n : Nat)), .sh H, .sh K, .sh r.d, .sh ER, o5] = .ok (lastIn pre r.b) := tst_eq (bin_eq hsl hin hlast) rfl
        unfold PL.andB
        rw [a, bind_ok]
        cases r.w
        · rfl
        · rw [if_pos rfl, b, Bool.true_and]
      have t2 : andB (tst bOf (PL.bin eqD (PL.bin ixD (eVar 3) (eC (.int 3))) (eC (.str "out")))) (tst bOf (PL.bin neD (sliceE (eVar 4) (pS (una negD (eC (.int 1)))) pN) (PL.own (appO lstD (aCons (eC (.str "in")) aNil))))) [.sh (.int (n : Nat)), .sh H, .sh K, .sh r.d, .sh ER, o5] = .ok (!r.w && !lastIn pre r.b) := by
        have a : tst bOf (PL.bin eqD (PL.bin ixD (eVar 3) (eC (.int 3))) (eC (.str "out"))) [.sh (.int (n : Nat)), .sh H, .sh K, .sh r.d, .sh ER, o5] = .ok (!r.w) := tst_eq (bin_eq (bin_eq rfl rfl (row_ix3 r)) rfl (eq_way_out r.w)) rfl
        have b : tst bOf (PL.bin neD (sliceE (eVar 4) (pS (una negD (eC (.int 1)))) pN) (PL.own (appO lstD (aCons (eC (.str "in")) aNil)))) [.sh (.int (n : Nat)), .sh H, .sh K, .sh r.d, .sh ER, o5] = .ok (!lastIn pre r.b) := tst_eq (bin_eq hsl hin (ne_of_eqD hlast)) rfl
        unfold PL.andB
        rw [a, bind_ok]
        cases r.w
        · rw [Bool.not_false, if_pos rfl, b, Bool.true_and]
        · rfl
      by_cases h3 : (r.w && lastIn pre r.b) = true
      · rw [if_pos h3]
        rw [h3] at t1
        exact seq_ret (if_eq t1 (ret_eq (app_eq (cons_eq rfl (cons_eq rfl rfl)) (tup2 _ _))))
      · rw [if_neg h3]
        have h3' : (r.w && lastIn pre r.b) = false := by simpa using h3
        rw [h3'] at t1
        refine seq_n (if_eq t1 rfl) ?_
        show sIf _ _ _ [.sh (.int (n : Nat)), .sh H, .sh K, .sh r.d, .sh ER, o5] = _
        by_cases h4 : (!r.w && !lastIn pre r.b) = true
        · rw [if_pos h4]
          rw [h4] at t2
          exact if_eq t2 (ret_eq (app_eq (cons_eq rfl (cons_eq rfl rfl)) (tup2 _ _)))
        · rw [if_neg h4]
          have h4' : (!r.w && !lastIn pre r.b) = false := by simpa using h4
          rw [h4'] at t2
          exact if_eq t2 rfl
theorem lfault_loop {n : Nat} {hist : List Row} (hl : hist.length ≤ 60) : ∀ (rs pre : List Row) (o2 o3 o4 o5 : Sl), hist = pre ++ rs → (∀ r ∈ rs, r.ok) → ∃ ρ', forL (gN 2) B1__law_fault ((List.range' pre.length rs.length).map fun k => .int ((k : Nat) : Int)) [.sh (.int (n : Nat)), .sh (.lst (hist.map Row.d)), o2, o3, o4, o5] =
    match faultFrom n pre rs with | some f => .ret (.sh (faultD (some f))) | none => .next ρ'
  | [], pre, o2, o3, o4, o5, _, _ => ⟨_, rfl⟩
  | r :: rs, pre, o2, o3, o4, o5, e, h => by
    obtain ⟨o4', hb⟩ := lfault_body (n := n) (o3 := o3) (o4 := o4) (o5 := o5) e (h r List.mem_cons_self) hl
    rw [List.length_cons, List.range'_succ, List.map_cons]
    rw [for_cons]
    show ∃ ρ', lpO _ (B1__law_fault [.sh (.int (n : Nat)), .sh (.lst (hist.map Row.d)), .sh (.int (pre.length : Nat)), o3, o4, o5]) = _
    rw [hb]
    unfold faultFrom
    cases hf : faultAt n pre r with
    | some s => exact ⟨[], rfl⟩
    | none =>
      obtain ⟨ρ', ih⟩ := lfault_loop (n := n) (hist := hist) hl rs (pre ++ [r]) (.sh (.int (pre.length : Nat))) (.sh r.d) o4' o5 (by rw [e]; simp) fun x hx => h x (List.mem_cons_of_mem _ hx)
      refine ⟨ρ', ?_⟩
      simp only [List.length_append, List.length_cons, List.length_nil] at ih
      exact ih
theorem lfault_eq (n : Nat) (hist : List Row) (hl : hist.length ≤ 60) (h : ∀ r ∈ hist, r.ok) : m__law_fault [.int (n : Nat), .lst (hist.map Row.d)] = .ok (.sh (faultD (faultFrom n [] hist))) := by
  obtain ⟨ρ', hf⟩ := lfault_loop (n := n) hl hist [] .no .no .no .no rfl h
  have r1 := rng1_nat hist.length (by omega)
  rw [List.range_eq_range'] at r1
  have l2 : lenL [.lst (hist.map Row.d)] = .ok (.int (hist.length : Nat)) := by show Res.ok (D.int (((hist.map Row.d).length : Nat) : Int)) = _; rw [List.length_map]
  have s3 := for_eq (t := gN 2) (b := B1__law_fault) (it := appO rng1 (aCons (app lenL (aCons (eVar 1) aNil)) aNil)) (ρ := [.sh (.int (n : Nat)), .sh (.lst (hist.map Row.d)), .no, .no, .no, .no]) (appO_eq (cons_eq (app_eq (cons_eq rfl rfl) l2) rfl) r1) hf
  refine run_of (b := b__law_fault) (env := [.sh (.int (n : Nat)), .sh (.lst (hist.map Row.d)), .no, .no, .no, .no]) (o := .ret (.sh (faultD (faultFrom n [] hist)))) rfl ?_ rfl
  unfold b__law_fault
  cases hq : faultFrom n [] hist with
  | none => rw [hq] at s3; exact (seq_next s3).trans (ret_eq rfl)
  | some f => rw [hq] at s3; exact seq_ret s3
end K46

set_option maxRecDepth 100000
set_option maxHeartbeats 1000000
namespace K46
open PySem PL
/-! ## stays -/
def endT : Option Row → D | some q => .int q.t | none => .non
def endP : Option Row → D | some q => .str (nm q.p) | none => .non
def mk (r : Row) (o : Option Row) : D := .tup [.int r.b, .int r.t, .str (nm r.p), endT o, endP o]
def nxt (rs : List Row) (b : Int) : Option Row := rs.find? fun q => decide (q.b = b)
def LS : List Row → List D
  | [] => []
  | r :: rs => if r.w = true then mk r (nxt rs r.b) :: LS rs else LS rs
/-! ### the law's -/
theorem lc_later {r : Row} {H : D} {K : D} {a1 a3 a4 a5 : Sl} (hr : ixD H K = .ok r.d) : ∀ (qs : List Row) (a6 : Sl), lcL 6 T1__law_stays E1__law_stays (qs.map Row.d) [.sh H, a1, .sh K, a3, a4, a5, a6] = .ok ((qs.filter fun q => decide (q.b = r.b)).map Row.d)
  | [], _ => rfl
  | q :: qs, a6 => by
    have ih := lc_later (a1 := a1) (a3 := a3) (a4 := a4) (a5 := a5) hr qs a6
    have ht : T1__law_stays [.sh H, a1, .sh K, a3, a4, a5, .sh q.d] = .ok (decide (q.b = r.b)) :=
      tst_eq (bin_eq (bin_eq rfl rfl (row_ix1 q)) (bin_eq (bin_eq rfl rfl hr) rfl (row_ix1 r)) (eq_int q.b r.b)) rfl
    have he : E1__law_stays [.sh H, a1, .sh K, a3, a4, a5, .sh q.d] = .ok q.d := rfl
    rw [List.map_cons]
    by_cases h : q.b = r.b
    · rw [decide_eq_true h] at ht
      rw [List.filter_cons_of_pos (by simp [h])]
      exact lc_yes ht he ih
    · rw [decide_eq_false h] at ht
      rw [List.filter_cons_of_neg (by simp [h])]
      exact lc_no ht ih
theorem cut_post (pre : List Row) (r : Row) (rs : List Row) : cutG ((pre ++ r :: rs).map Row.d) (some ((pre.length : Nat) + 1 : Int)) none = rs.map Row.d := by
  unfold cutG
  have e : ((pre.length : Nat) + 1 : Int) = ((pre.length + 1 : Nat) : Int) := by omega
  rw [e, HT.sIx_none, HT.sIx_nat]
  have e2 : (pre ++ r :: rs) = (pre ++ [r]) ++ rs := by simp
  have e3 : min (pre.length + 1) ((pre ++ r :: rs).map Row.d).length = ((pre ++ [r]).map Row.d).length := by simp
  rw [e3, e2, List.map_append, List.drop_left, List.take_of_length_le (by simp; omega)]
theorem app_ok {i : Nat} {f : En → Res D} {ρ : En} {xs : List D} {d : D} (h : owL ρ i = .ok xs) (hf : f ρ = .ok d) (hz : xs.length < 16777216) : sApp i f ρ = .next (setL ρ i (xs ++ [d])) := by
  unfold sApp
  rw [h, ofR_ok, hf, ofR_ok, gd_pos (sz' _ hz), ofR_ok]
theorem lstays_body {hist pre rs : List Row} {r : Row} {acc : List D} {o3 o4 o5 o6 : Sl} (e : hist = pre ++ r :: rs) (hl : hist.length ≤ 60) (ha : acc.length ≤ 60) : ∃ p3 p4 p5,
    B1__law_stays [.sh (.lst (hist.map Row.d)), .ow (.lst acc), .sh (.int (pre.length : Nat)), o3, o4, o5, o6] = .next [.sh (.lst (hist.map Row.d)), .ow (.lst (if r.w = true then acc ++ [mk r (nxt rs r.b)] else acc)), .sh (.int (pre.length : Nat)), p3, p4, p5, o6] := by
  subst e
  have hi := ix_at pre r rs
  let H := D.lst ((pre ++ r :: rs).map Row.d)
  let K := D.int (pre.length : Nat)
  have hk : ∀ (a1 a3 a4 a5 : Sl), PL.bin ixD (eVar 0) (eVar 2) [.sh H, a1, .sh K, a3, a4, a5, o6] = .ok r.d := fun a1 a3 a4 a5 => bin_eq rfl rfl hi
  unfold B1__law_stays
  have ht : tst bOf (PL.bin eqD (PL.bin ixD (PL.bin ixD (eVar 0) (eVar 2)) (eC (.int 3))) (eC (.str "in"))) [.sh H, .ow (.lst acc), .sh K, o3, o4, o5, o6] = .ok r.w := tst_eq (bin_eq (bin_eq (hk _ _ _ _) rfl (row_ix3 r)) rfl (eq_way_in r.w)) rfl
  cases hw : r.w
  · rw [hw] at ht
    exact ⟨o3, o4, o5, if_eq ht rfl⟩
  · rw [hw] at ht
    let L := (rs.filter fun q => decide (q.b = r.b)).map Row.d
    have s1 : PL.own (lcE (itE (sliceE (eVar 0) (pS (PL.bin addD (eVar 2) (eC (.int 1)))) pN)) 6 T1__law_stays E1__law_stays) [.sh H, .ow (.lst acc), .sh K, o3, o4, o5, o6] = .ok (.lst L) := by
      refine own_eq (lce_eq (ds := rs.map Row.d) ?_ (by simp at hl ⊢; omega) (lc_later hi rs o6))
      show Res.ok (cutG ((pre ++ r :: rs).map Row.d) (some ((pre.length : Nat) + 1 : Int)) none) = _
      rw [cut_post]
    have fin : ∀ o4 o5 : D, ∃ z, sApp 1 (app tupD (aCons (PL.bin ixD (PL.bin ixD (eVar 0) (eVar 2)) (eC (.int 1))) (aCons (PL.bin ixD (PL.bin ixD (eVar 0) (eVar 2)) (eC (.int 0))) (aCons (PL.bin ixD (PL.bin ixD (eVar 0) (eVar 2)) (eC (.int 2))) (aCons (eVar 4) (aCons (eVar 5) aNil)))))) [.sh H, .ow (.lst acc), .sh K, .sh (.lst L), .sh o4, .sh o5, o6] = .next [.sh H, .ow (.lst (acc ++ [.tup [.int r.b, .int r.t, .str (nm r.p), o4, o5]])), .sh K, .sh (.lst L), .sh o4, .sh o5, o6] ∧ z = () := fun x4 x5 =>
      ⟨(), app_ok rfl (app_eq (cons_eq (bin_eq (hk _ _ _ _) rfl (row_ix1 r)) (cons_eq (bin_eq (hk _ _ _ _) rfl (row_ix0 r)) (cons_eq (bin_eq (hk _ _ _ _) rfl (row_ix2 r)) (cons_eq rfl (cons_eq rfl rfl))))) (tup_ok _ (by simp))) (by omega), rfl⟩
    have hh : (rs.filter fun q => decide (q.b = r.b)).head? = nxt rs r.b := List.head?_filter ..
    refine ⟨.sh (.lst L), .sh (endT (nxt rs r.b)), .sh (endP (nxt rs r.b)), if_eq ht ?_⟩
    rw [if_pos rfl, if_pos rfl]
    refine seq_n (set_eq s1) (seq_n (set_eq rfl) (seq_n (set_eq rfl) ?_))
    show sSeq _ _ [.sh H, .ow (.lst acc), .sh K, .sh (.lst L), .sh .non, .sh .non, o6] = _
    have tl : tst bOf (PL.bin gtD (app lenL (aCons (eVar 3) aNil)) (eC (.int 0))) [.sh H, .ow (.lst acc), .sh K, .sh (.lst L), .sh .non, .sh .non, o6] = .ok (decide ((0 : Int) < (L.length : Nat))) := tst_eq (bin_eq (app_eq (cons_eq rfl rfl) (len_lst L)) rfl rfl) rfl
    cases hf : (rs.filter fun q => decide (q.b = r.b)) with
    | nil =>
      rw [hf] at hh
      have eL : L = [] := by show List.map Row.d _ = _; rw [hf]; rfl
      rw [eL] at tl
      rw [← hh]
      have z := (fin .non .non).choose_spec.1
      refine seq_n (ρ' := [.sh H, .ow (.lst acc), .sh K, .sh (.lst L), .sh .non, .sh .non, o6]) ?_ z
      refine if_eq (b := false) ?_ rfl
      rw [eL]; exact tl
    | cons q qs =>
      rw [hf] at hh
      have eL : L = q.d :: qs.map Row.d := by show List.map Row.d _ = _; rw [hf]; rfl
      have tl2 : tst bOf (PL.bin gtD (app lenL (aCons (eVar 3) aNil)) (eC (.int 0))) [.sh H, .ow (.lst acc), .sh K, .sh (.lst L), .sh .non, .sh .non, o6] = .ok true := by
        rw [tl, eL, List.length_cons]
        rw [decide_eq_true (by omega)]
      rw [← hh]
      have i0 : ixD (.lst L) (.int 0) = .ok q.d := by rw [eL]; exact ix_lst (q.d :: qs.map Row.d) 0 (by simp)
      have z := (fin (.int q.t) (.str (nm q.p))).choose_spec.1
      refine seq_n (ρ' := [.sh H, .ow (.lst acc), .sh K, .sh (.lst L), .sh (.int q.t), .sh (.str (nm q.p)), o6]) ?_ z
      refine if_eq tl2 ?_
      rw [if_pos rfl]
      exact seq_n (set_eq (bin_eq (bin_eq rfl rfl i0) rfl (row_ix0 q))) (set_eq (bin_eq (bin_eq rfl rfl i0) rfl (row_ix2 q)))
theorem LS_len : ∀ rs : List Row, (LS rs).length ≤ rs.length
  | [] => Nat.le_refl _
  | r :: rs => by
    have := LS_len rs
    unfold LS
    split <;> simp only [List.length_cons] <;> omega
theorem lstays_loop {hist : List Row} (hl : hist.length ≤ 60) : ∀ (rs pre : List Row) (acc : List D) (o2 o3 o4 o5 o6 : Sl), hist = pre ++ rs → acc.length ≤ pre.length → ∃ p2 p3 p4 p5, forL (gN 2) B1__law_stays ((List.range' pre.length rs.length).map fun k => .int ((k : Nat) : Int)) [.sh (.lst (hist.map Row.d)), .ow (.lst acc), o2, o3, o4, o5, o6] =
    .next [.sh (.lst (hist.map Row.d)),   .ow (.lst (acc ++ LS rs)), p2, p3, p4, p5, o6]
  | [], pre, acc, o2, o3, o4, o5, o6, _, _ => ⟨o2, o3, o4, o5, by unfold LS; rw [List.append_nil]; rfl⟩
  | r :: rs, pre, acc, o2, o3, o4, o5, o6, e, ha => by
    have hpl : pre.length < 60 := by rw [e] at hl; simp at hl; omega
    obtain ⟨p3, p4, p5, hb⟩ := lstays_body (acc := acc) (o3 := o3) (o4 := o4) (o5 := o5) (o6 := o6) e hl (by omega)
    obtain ⟨q2, q3, q4, q5, ih⟩ := lstays_loop (hist := hist) hl rs (pre ++ [r]) (if r.w = true then acc ++ [mk r (nxt rs r.b)] else acc) (.sh (.int (pre.length : Nat))) p3 p4 p5 o6 (by rw [e]; simp) (by split <;> simp <;> omega)
    simp only [List.length_append, List.length_cons, List.length_nil] at ih
    refine ⟨q2, q3, q4, q5, ?_⟩
    rw [List.length_cons, List.range'_succ, List.map_cons, for_cons]
    show lpO _ (B1__law_stays [.sh (.lst (hist.map Row.d)), .ow (.lst acc), .sh (.int (pre.length : Nat)), o3, o4, o5, o6]) = _
    rw [hb, lp_next]
    refine ih.trans ?_
    rw [show LS (r :: rs) = if r.w = true then mk r (nxt rs r.b) :: LS rs else LS rs from rfl]
    cases r.w <;> simp
theorem lstays_eq (hist : List Row) (hl : hist.length ≤ 60) : m__law_stays [.lst (hist.map Row.d)] = .ok (.ow (LS hist)) := by
  obtain ⟨o2, o3, o4, o5, hf⟩ := lstays_loop hl hist [] [] .no .no .no .no .no rfl (Nat.le_refl _)
  have r1 := rng1_nat hist.length (by omega)
  rw [List.range_eq_range'] at r1
  have l2 : lenL [.lst (hist.map Row.d)] = .ok (.int (hist.length : Nat)) := by rw [len_lst, List.length_map]
  refine run_of (b := b__law_stays) (env := [.sh (.lst (hist.map Row.d)), .no, .no, .no, .no, .no, .no]) (o := .ret (.ow (LS hist))) rfl ?_ rfl
  exact seq_n (setO_eq (appO_eq rfl (lst_ok [] (by simp)))) (seq_n (for_eq (appO_eq (cons_eq (app_eq (cons_eq rfl rfl) l2) rfl) r1) hf) rfl)
end K46

set_option maxRecDepth 100000
set_option maxHeartbeats 1000000
namespace K46
open PySem PL
/-! ### the program's -/
abbrev Ent := Row × Option Row
def entD (e : Ent) : D := mk e.1 e.2
def fin (rs : List Row) (e : Ent) : D := match e.2 with | some q => mk e.1 (some q) | none => mk e.1 (nxt rs e.1.b)
structure StInv (pre : List Row) (ents : List Ent) (kvs : List (L2.Key × D)) (op : Int → Option Nat) : Prop where
  at_ : ∀ b i, op b = some i → ∃ r, ents[i]? = some (r, none) ∧ r.b = b
  of_ : ∀ i r, ents[i]? = some (r, none) → op r.b = some i
  kv : ∀ b i, op b = some i → valD kvs (.inl b) = some (.int (i : Nat))
  occ : ∀ b, (op b).isSome = lastIn pre b
  l1 : ents.length ≤ pre.length
  l2 : kvs.length ≤ pre.length
theorem valD_put (kvs : List (L2.Key × D)) (k k2 : L2.Key) (d : D) : valD (putD kvs k d) k2 = if k = k2 then some d else valD kvs k2 := by
  unfold putD
  by_cases ha : (kvs.any fun kv => decide (kv.1 = k)) = true
  · rw [if_pos ha]
    induction kvs with
    | nil => cases ha
    | cons kv r ih =>
      obtain ⟨k0, d0⟩ := kv
      rw [List.map_cons]
      by_cases h0 : k0 = k
      · subst h0
        by_cases h2 : k0 = k2
        · subst h2
          simp [valD]
        · simp only [if_true, if_neg h2]
          have e1 : valD ((k0, d) :: r.map fun kv => if kv.1 = k0 then (kv.1, d) else kv) k2 = valD (r.map fun kv => if kv.1 = k0 then (kv.1, d) else kv) k2 := by simp [valD, List.find?_cons, h2]
          have e2 : valD ((k0, d0) :: r) k2 = valD r k2 := by simp [valD, List.find?_cons, h2]
          rw [e1, e2]
          by_cases hr : (r.any fun kv => decide (kv.1 = k0)) = true
          · rw [ih hr, if_neg h2]
          · have e3 : (r.map fun kv => if kv.1 = k0 then (kv.1, d) else kv) = r := by
              have : ∀ x ∈ r, (if x.1 = k0 then (x.1, d) else x) = x := fun x hx => by
                have : ¬ x.1 = k0 := fun z => hr (List.any_eq_true.mpr ⟨x, hx, by simp [z]⟩)
                rw [if_neg this]
              rw [List.map_congr_left this, List.map_id']
            rw [e3]
      · have hr : (r.any fun kv => decide (kv.1 = k)) = true := by simpa [h0] using ha
        simp only [if_neg h0]
        by_cases h2 : k0 = k2
        · subst h2
          have : ¬ k = k0 := fun z => h0 z.symm
          simp [valD, this]
        · have e1 : ∀ l, valD ((k0, d0) :: l) k2 = valD l k2 := fun l => by simp [valD, List.find?_cons, h2]
          rw [e1, e1, ih hr]
  · rw [if_neg ha]
    have hn : ∀ x ∈ kvs, ¬ x.1 = k := fun x hx z => ha (List.any_eq_true.mpr ⟨x, hx, by simp [z]⟩)
    by_cases h2 : k = k2
    · subst h2
      rw [if_pos rfl]
      have : kvs.find? (fun kv => decide (kv.1 = k)) = none := List.find?_eq_none.mpr fun x hx => by simp [hn x hx]
      simp [valD, List.find?_append, this]
    · rw [if_neg h2]
      unfold valD
      rw [List.find?_append]
      cases kvs.find? (fun kv => decide (kv.1 = k2)) with
      | some x => rfl
      | none => simp [h2]
theorem put_len (kvs : List (L2.Key × D)) (k : L2.Key) (d : D) : (putD kvs k d).length ≤ kvs.length + 1 := by
  unfold putD
  split <;> simp
theorem fin_ne {rs : List Row} {r0 : Row} {e : Ent} (h : e.2 = none → ¬ r0.b = e.1.b) : fin (r0 :: rs) e = fin rs e := by
  unfold fin
  cases h2 : e.2 with
  | some q => rfl
  | none =>
    have := h h2
    show mk e.1 (nxt (r0 :: rs) e.1.b) = mk e.1 (nxt rs e.1.b)
    unfold nxt
    rw [List.find?_cons_of_neg (by simp [this])]
theorem putK_ok {i : Nat} {f g : En → Res D} {ρ : En} {kvs : List (L2.Key × D)} {d n : D} {k : L2.Key} (h : owK ρ i = .ok kvs) (hg : g ρ = .ok d) (hf : f ρ = .ok n) (hk : keyOf n = .ok k) (hz : kvs.length < 16777216) : sPutK i f g ρ = .next (ρ.set i (.ow (.dk (putD kvs k d)))) := by
  unfold sPutK
  rw [h, ofR_ok, hg, ofR_ok, hf, ofR_ok, hk, ofR_ok, gd_pos (sz' _ hz), ofR_ok]
theorem getK_ok {i : Nat} {f : En → Res D} {ρ : En} {kvs : List (L2.Key × D)} {d n : D} {k : L2.Key} (h : owK ρ i = .ok kvs) (hf : f ρ = .ok n) (hk : keyOf n = .ok k) (hv : valD kvs k = some d) : getK i f ρ = .ok d := by
  unfold getK
  rw [h, bind_ok, hf, bind_ok, hk, bind_ok, hv]
theorem put_ok {i : Nat} {f g : En → Res D} {ρ : En} {xs : List D} {d n : D} {j : Nat} (h : owL ρ i = .ok xs) (hg : g ρ = .ok d) (hf : f ρ = .ok n) (hn : n = .int (j : Nat)) (hj : j < xs.length) : sPut i f g ρ = .next (setL ρ i (xs.set j d)) := by
  subst hn
  have e : putAt xs d (.int (j : Nat)) = .ok (xs.set j d) := by
    have e : L2.ixN xs.length (j : Nat) = some j := by
      unfold L2.ixN
      rw [if_pos (by omega), if_pos (by omega), Int.toNat_natCast]
    show (match L2.ixN xs.length (j : Nat) with | some j => Res.ok (xs.set j d) | none => .stuck) = _
    rw [e]
  unfold sPut
  rw [h, ofR_ok, hg, ofR_ok, hf, ofR_ok, e, ofR_ok]
theorem ixO_ok {i : Nat} {f : En → Res D} {ρ : En} {xs : List D} {j : Nat} (h : owL ρ i = .ok xs) (hf : f ρ = .ok (.int (j : Nat))) (hj : j < xs.length) : ixO i f ρ = .ok xs[j] := by
  unfold ixO
  rw [h, bind_ok, hf, bind_ok]
  show (match L2.atI xs (j : Nat) with | some d => Res.ok d | none => .stuck) = _
  rw [atI_nat, List.getElem?_eq_getElem hj]
theorem bor_len {ρ : En} {i : Nat} {xs : List D} (h : owL ρ i = .ok xs) (hv : (ρ.set i (.sh (.lst xs)))[i]? = some (.sh (.lst xs))) : borE i (app lenL (aCons (eVar i) aNil)) ρ = .ok (.int (xs.length : Nat)) := by
  unfold borE
  rw [h]
  have e : app lenL (aCons (eVar i) aNil) (ρ.set i (.sh (.lst xs))) = .ok (.int (xs.length : Nat)) := app_eq (cons_eq (show eVar i _ = .ok (.lst xs) by unfold eVar; rw [hv]) rfl) (len_lst xs)
  simp only [e]
  exact gd_pos rfl
theorem mk_cut (r : Row) (o : Option Row) : sliceD (mk r o) none (some 3) = .ok (.tup [.int r.b, .int r.t, .str (nm r.p)]) := rfl
theorem stays_loop {H : D} {n : Nat} : ∀ (rs pre : List Row) (ents : List Ent) (kvs : List (L2.Key × D)) (op : Int → Option Nat) (o3 o4 o5 o6 o7 : Sl), StInv pre ents kvs op → pre.length + rs.length ≤ 60 → faultFrom n pre rs = none →
    ∃ k p3 p4 p5 p6 p7, forL (gT [3, 4, 5, 6]) B1_stays_from (rs.map Row.d) [.sh H, .ow (.lst (ents.map entD)), .ow (.dk kvs), o3, o4, o5, o6, o7] = .next [.sh H, .ow (.lst (ents.map (fin rs) ++ LS rs)), k, p3, p4, p5, p6, p7]
  | [], pre, ents, kvs, op, o3, o4, o5, o6, o7, I, _, _ => by
    refine ⟨.ow (.dk kvs), o3, o4, o5, o6, o7, ?_⟩
    have : ents.map (fin []) = ents.map entD := List.map_congr_left fun e _ => by
      unfold fin entD
      cases e.2 <;> rfl
    rw [this]
    show Out.next _ = _
    rw [show LS [] = [] from rfl, List.append_nil]
  | r :: rs, pre, ents, kvs, op, o3, o4, o5, o6, o7, I, hl, hq => by
    have hl' : pre.length < 60 := by simp only [List.length_cons] at hl; omega
    have hfa : faultAt n pre r = none := by
      unfold faultFrom at hq
      cases h : faultAt n pre r with
      | none => rfl
      | some s => rw [h] at hq; cases hq
    have hq2 : faultFrom n (pre ++ [r]) rs = none := by
      unfold faultFrom at hq
      rw [hfa] at hq
      exact hq
    have hw : r.w = !lastIn pre r.b := by
      unfold faultAt at hfa
      split at hfa
      · cases hfa
      · split at hfa
        · cases hfa
        · cases h1 : r.w <;> cases h2 : lastIn pre r.b <;> simp [h1, h2] at hfa <;> rfl
    have hll : (pre ++ [r]).length + rs.length ≤ 60 := by simp only [List.length_append, List.length_cons, List.length_nil] at hl ⊢; omega
    have hstep : ∀ (F : En → Out), (∃ k p3 p4 p5 p6 p7, lpO (forL (gT [3, 4, 5, 6]) F (rs.map Row.d)) (F [.sh H, .ow (.lst (ents.map entD)), .ow (.dk kvs), .sh (.int r.t), .sh (.int r.b), .sh (.str (nm r.p)), .sh (.str (way r.w)), o7]) = .next [.sh H, .ow (.lst (ents.map (fin (r :: rs)) ++ LS (r :: rs))), k, p3, p4, p5, p6, p7]) →
      ∃ k p3 p4 p5 p6 p7, forL (gT [3, 4, 5, 6]) F ((r :: rs).map Row.d) [.sh H, .ow (.lst (ents.map entD)), .ow (.dk kvs), o3, o4, o5, o6, o7] = .next [.sh H, .ow (.lst (ents.map (fin (r :: rs)) ++ LS (r :: rs))), k, p3, p4, p5, p6, p7] := fun F h => h
    refine hstep _ ?_
    have ht : tst bOf (PL.bin eqD (eVar 6) (eC (.str "in"))) [.sh H, .ow (.lst (ents.map entD)), .ow (.dk kvs), .sh (.int r.t), .sh (.int r.b), .sh (.str (nm r.p)), .sh (.str (way r.w)), o7] = .ok r.w := tst_eq (bin_eq rfl rfl (eq_way_in r.w)) rfl
    have hI1 := I.l1
    have hI2 := I.l2
    cases hwb : r.w with
    | true =>
      rw [hwb] at ht hw
      have hno : lastIn pre r.b = false := by simpa using hw.symm
      have hop : op r.b = none := by
        have := I.occ r.b
        rw [hno] at this
        cases h : op r.b with
        | none => rfl
        | some i => rw [h] at this; cases this
      have I2 : StInv (pre ++ [r]) (ents ++ [(r, none)]) (putD kvs (.inl r.b) (.int (ents.length : Nat))) (fun b => if b = r.b then some ents.length else op b) := by
        refine ⟨fun b i h => ?_, fun i r' h => ?_, fun b i h => ?_, fun b => ?_, ?_, ?_⟩
        · by_cases hb : b = r.b
          · rw [if_pos hb] at h
            cases h
            exact ⟨r, by simp, hb.symm⟩
          · rw [if_neg hb] at h
            obtain ⟨r', h1, h2⟩ := I.at_ b i h
            have : i < ents.length := by
              rcases Nat.lt_or_ge i ents.length with z | z
              · exact z
              · rw [List.getElem?_eq_none z] at h1; cases h1
            exact ⟨r', by rw [List.getElem?_append_left this]; exact h1, h2⟩
        · rcases Nat.lt_or_ge i ents.length with z | z
          · rw [List.getElem?_append_left z] at h
            have h1 := I.of_ i r' h
            by_cases hb : r'.b = r.b
            · rw [hb, hop] at h1; cases h1
            · show (if r'.b = r.b then some ents.length else op r'.b) = some i
              rw [if_neg hb]; exact h1
          · rw [List.getElem?_append_right z] at h
            have hz : i - ents.length = 0 := by
              rcases Nat.eq_zero_or_pos (i - ents.length) with y | y
              · exact y
              · rw [List.getElem?_eq_none (by simp; omega)] at h; cases h
            rw [hz] at h
            cases h
            show (if r.b = r.b then some ents.length else op r.b) = some i
            rw [if_pos rfl]
            congr 1
            omega
        · rw [valD_put]
          by_cases hb : b = r.b
          · rw [if_pos hb] at h
            cases h
            rw [if_pos (by rw [hb])]
          · rw [if_neg hb] at h
            rw [if_neg (fun z => hb (by cases z; rfl))]
            exact I.kv b i h
        · rw [lastIn_snoc]
          by_cases hb : b = r.b
          · rw [if_pos hb, if_pos hb, hwb]; rfl
          · rw [if_neg hb, if_neg hb]; exact I.occ b
        · simp only [List.length_append, List.length_cons, List.length_nil]; omega
        · have := put_len kvs (.inl r.b) (.int (ents.length : Nat))
          simp only [List.length_append, List.length_cons, List.length_nil]; omega
      have hb : B1_stays_from [.sh H, .ow (.lst (ents.map entD)), .ow (.dk kvs), .sh (.int r.t), .sh (.int r.b), .sh (.str (nm r.p)), .sh (.str (way true)), o7] = .next [.sh H, .ow (.lst ((ents ++ [(r, none)]).map entD)), .ow (.dk (putD kvs (.inl r.b) (.int (ents.length : Nat)))), .sh (.int r.t), .sh (.int r.b), .sh (.str (nm r.p)), .sh (.str (way true)), o7] := by
        unfold B1_stays_from
        refine if_eq ht ?_
        rw [if_pos rfl]
        have bl := bor_len (ρ := [.sh H, .ow (.lst (ents.map entD)), .ow (.dk kvs), .sh (.int r.t), .sh (.int r.b), .sh (.str (nm r.p)), .sh (.str (way true)), o7]) (i := 1) (xs := ents.map entD) rfl rfl
        rw [List.length_map] at bl
        refine seq_n (putK_ok (kvs := kvs) (n := .int r.b) rfl bl rfl rfl (by omega)) ?_
        rw [List.map_append]
        exact app_ok (xs := ents.map entD) rfl (app_eq (cons_eq rfl (cons_eq rfl (cons_eq rfl (cons_eq rfl (cons_eq rfl rfl))))) (tup_ok _ (by simp))) (by rw [List.length_map]; omega)
      obtain ⟨k, p3, p4, p5, p6, p7, ih⟩ := stays_loop (H := H) (n := n) rs (pre ++ [r]) _ _ _ (.sh (.int r.t)) (.sh (.int r.b)) (.sh (.str (nm r.p))) (.sh (.str (way true))) o7 I2 hll hq2
      refine ⟨k, p3, p4, p5, p6, p7, ?_⟩
      rw [hb, lp_next]
      refine ih.trans ?_
      have e1 : ents.map (fin (r :: rs)) = ents.map (fin rs) := List.map_congr_left fun e he => fin_ne fun h2 z => by
        obtain ⟨i, hi⟩ := List.getElem?_of_mem he
        obtain ⟨e1, e2⟩ := e
        simp only at h2
        subst h2
        have := I.of_ i e1 hi
        simp only at z
        rw [← z, hop] at this
        cases this
      rw [e1, List.map_append, show LS (r :: rs) = if r.w = true then mk r (nxt rs r.b) :: LS rs else LS rs from rfl, hwb, if_pos rfl, List.append_assoc]
      rfl
    | false =>
      rw [hwb] at ht hw
      have hyes : lastIn pre r.b = true := by simpa using hw.symm
      obtain ⟨i, hop⟩ : ∃ i, op r.b = some i := by
        have := I.occ r.b
        rw [hyes] at this
        cases h : op r.b with
        | some i => exact ⟨i, rfl⟩
        | none => rw [h] at this; cases this
      obtain ⟨r1, hr1, hb1⟩ := I.at_ _ _ hop
      have hi : i < ents.length := by
        rcases Nat.lt_or_ge i ents.length with z | z
        · exact z
        · rw [List.getElem?_eq_none z] at hr1; cases hr1
      have hei : ents[i] = (r1, none) := by rw [List.getElem?_eq_getElem hi] at hr1; exact Option.some.inj hr1
      have I2 : StInv (pre ++ [r]) (ents.set i (r1, some r)) kvs (fun b => if b = r.b then none else op b) := by
        refine ⟨fun b j h => ?_, fun j r' h => ?_, fun b j h => ?_, fun b => ?_, ?_, ?_⟩
        · by_cases hb : b = r.b
          · rw [if_pos hb] at h; cases h
          · rw [if_neg hb] at h
            obtain ⟨r', h1, h2⟩ := I.at_ b j h
            have : ¬ i = j := fun z => by
              subst z
              rw [hr1] at h1
              cases h1
              exact hb (h2.symm.trans hb1)
            exact ⟨r', by rw [List.getElem?_set_ne this]; exact h1, h2⟩
        · by_cases hij : i = j
          · subst hij
            rw [List.getElem?_set_self hi] at h
            cases h
          · rw [List.getElem?_set_ne hij] at h
            have h1 := I.of_ j r' h
            show (if r'.b = r.b then none else op r'.b) = some j
            by_cases hb : r'.b = r.b
            · rw [hb, hop] at h1
              exact absurd (Option.some.inj h1) hij
            · rw [if_neg hb]; exact h1
        · by_cases hb : b = r.b
          · rw [if_pos hb] at h; cases h
          · rw [if_neg hb] at h; exact I.kv b j h
        · rw [lastIn_snoc]
          by_cases hb : b = r.b
          · rw [if_pos hb, if_pos hb, hwb]; rfl
          · rw [if_neg hb, if_neg hb]; exact I.occ b
        · simp only [List.length_append, List.length_cons, List.length_nil, List.length_set]; omega
        · simp only [List.length_append, List.length_cons, List.length_nil]; omega
      have hb : B1_stays_from [.sh H, .ow (.lst (ents.map entD)), .ow (.dk kvs), .sh (.int r.t), .sh (.int r.b), .sh (.str (nm r.p)), .sh (.str (way false)), o7] = .next [.sh H, .ow (.lst ((ents.set i (r1, some r)).map entD)), .ow (.dk kvs), .sh (.int r.t), .sh (.int r.b), .sh (.str (nm r.p)), .sh (.str (way false)), .sh (.int (i : Nat))] := by
        unfold B1_stays_from
        refine if_eq ht ?_
        rw [if_neg (by decide)]
        refine seq_n (set_eq (getK_ok (kvs := kvs) (n := .int r.b) rfl rfl rfl (I.kv _ _ hop))) ?_
        have hs : (ents.set i (r1, some r)).map entD = (ents.map entD).set i (mk r1 (some r)) := by rw [List.map_set]; rfl
        rw [hs]
        have hx : (ents.map entD)[i]'(by rw [List.length_map]; exact hi) = mk r1 none := by rw [List.getElem_map, hei]; rfl
        refine put_ok (xs := ents.map entD) (j := i) rfl ?_ rfl rfl (by rw [List.length_map]; exact hi)
        have g1 : ixO 1 (eVar 7) [.sh H, .ow (.lst (ents.map entD)), .ow (.dk kvs), .sh (.int r.t), .sh (.int r.b), .sh (.str (nm r.p)), .sh (.str (way false)), .sh (.int (i : Nat))] = .ok (mk r1 none) := by
          rw [ixO_ok (xs := ents.map entD) (j := i) rfl rfl (by rw [List.length_map]; exact hi), hx]
        refine bin_eq (x := .tup [.int r1.b, .int r1.t, .str (nm r1.p)]) ?_ (app_eq (cons_eq rfl (cons_eq rfl rfl)) (tup2 _ _)) ((add_tup _ _ (by simp)).trans rfl)
        unfold sliceE
        show (ixO 1 (eVar 7) [.sh H, .ow (.lst (ents.map entD)), .ow (.dk kvs), .sh (.int r.t), .sh (.int r.b), .sh (.str (nm r.p)), .sh (.str (way false)), .sh (.int (i : Nat))]).bind _ = _
        rw [g1, bind_ok]
        rfl
      obtain ⟨k, p3, p4, p5, p6, p7, ih⟩ := stays_loop (H := H) (n := n) rs (pre ++ [r]) _ _ _ (.sh (.int r.t)) (.sh (.int r.b)) (.sh (.str (nm r.p))) (.sh (.str (way false))) (.sh (.int (i : Nat))) I2 hll hq2
      refine ⟨k, p3, p4, p5, p6, p7, ?_⟩
      rw [hb, lp_next]
      refine ih.trans ?_
      have e1 : (ents.set i (r1, some r)).map (fin rs) = ents.map (fin (r :: rs)) := by
        apply List.ext_getElem
        · simp
        · intro j h1 h2
          simp only [List.length_map, List.length_set] at h1
          rw [List.getElem_map, List.getElem_map, List.getElem_set]
          by_cases hij : i = j
          · subst hij
            rw [if_pos rfl, hei]
            show mk r1 (some r) = mk r1 (nxt (r :: rs) r1.b)
            unfold nxt
            rw [List.find?_cons_of_pos (by simp [hb1])]
          · rw [if_neg hij]
            refine (fin_ne fun h3 z => ?_).symm
            have hg : ents[j]? = some (ents[j].1, none) := by rw [List.getElem?_eq_getElem h1, ← h3]
            have h4 := I.of_ j _ hg
            rw [← z, hop] at h4
            exact hij (Option.some.inj h4)
      rw [e1, show LS (r :: rs) = if r.w = true then mk r (nxt rs r.b) :: LS rs else LS rs from rfl, hwb, if_neg (by decide)]
theorem stays_eq {n : Nat} (hist : List Row) (hl : hist.length ≤ 60) (hq : faultFrom n [] hist = none) : m_stays_from [.lst (hist.map Row.d)] = .ok (.ow (LS hist)) := by
  have I0 : StInv [] [] [] (fun _ => none) := ⟨fun b i h => (by cases h), fun i r h => (by simp at h), fun b i h => (by cases h), fun b => rfl, Nat.le_refl _, Nat.le_refl _⟩
  obtain ⟨k, p3, p4, p5, p6, p7, hf⟩ := stays_loop (H := .lst (hist.map Row.d)) (n := n) hist [] [] [] _ .no .no .no .no .no I0 (by simpa using hl) hq
  refine run_of (b := b_stays_from) (env := [.sh (.lst (hist.map Row.d)), .no, .no, .no, .no, .no, .no, .no]) (o := .ret (.ow (LS hist))) rfl ?_ rfl
  exact seq_n (setO_eq (appO_eq rfl (lst_ok [] (by simp)))) (seq_n (ρ' := [.sh (.lst (hist.map Row.d)), .ow (.lst []), .ow (.dk []), .no, .no, .no, .no, .no]) rfl (seq_n (for_eq (ds := hist.map Row.d) rfl hf) rfl))
end K46

set_option maxRecDepth 100000
set_option maxHeartbeats 1000000
namespace K46
open PySem PL
/-! ## the four doors -/
abbrev BK (b : List Size) : D := .lst (b.map Size.d)
abbrev HS (h : List Row) : D := .lst (h.map Row.d)
theorem call_sh {m : List D → Res RV} {f : En → Res (List D)} {ρ : En} {ds : List D} {d : D} (h : f ρ = .ok ds) (hm : m ds = .ok (.sh d)) : callE m f ρ = .ok d := call_eq h (by rw [hm]; rfl)
theorem call_ow {m : List D → Res RV} {f : En → Res (List D)} {ρ : En} {ds : List D} {d : List D} (h : f ρ = .ok ds) (hm : m ds = .ok (.ow d)) : callE m f ρ = .ok (.lst d) := call_eq h (by rw [hm]; rfl)
theorem call_exc {m : List D → Res RV} {f : En → Res (List D)} {ρ : En} {ds : List D} {e : Exc} (h : f ρ = .ok ds) (hm : m ds = .exc e) : callE m f ρ = .exc e := call_eq h (by rw [hm]; rfl)
theorem callO_ow {m : List D → Res RV} {f : En → Res (List D)} {ρ : En} {ds : List D} {d : List D} (h : f ρ = .ok ds) (hm : m ds = .ok (.ow d)) : callO m f ρ = .ok d := by unfold callO; rw [h, bind_ok, hm]; rfl
theorem callO_exc {m : List D → Res RV} {f : En → Res (List D)} {ρ : En} {ds : List D} {e : Exc} (h : f ρ = .ok ds) (hm : m ds = .exc e) : callO m f ρ = .exc e := by unfold callO; rw [h, bind_ok, hm]; rfl
theorem fault_val {b h : D} {z : D} (h1 : m_need_bank [b] = .ok (.sh .non)) (h2 : m_need_history [h] = .ok (.sh .non)) (h3 : m_fault_of [b, h] = .ok (.sh z)) : m_fault [b, h] = .ok (.sh z) := by
  unfold m_fault b_fault
  simp only [PL.runF, PL.runO, PL.start0, PL.sSeq, PL.sNext, PL.sSet, PL.sSetO, PL.sDrop, PL.sRet, PL.sRetO, PL.sRetV, PL.sRetN, PL.sIf, PL.sBrk, PL.sCont, PL.sFrz, PL.sFor, PL.sAsg, PL.sRaise, PL.sTry, PL.tryO, PL.unset, PL.xRet, PL.fldX, PL.ofR_ok, PL.ofR_exc, PL.eC, PL.eVar, PL.bin, PL.una, PL.aNil, PL.aCons, PL.app, PL.appO, PL.own, PL.tru, PL.ifE, PL.andB, PL.orB, PL.notB, PL.gd, PL.bOf, PL.truD, PL.tst, PL.andV, PL.orV, PL.notV, PL.callE, PL.callO, PL.rvD, PL.rvO, PL.bind_ok, PL.bind_exc, PL.bind_stuck, PL.addD, PL.subD, PL.mulD, PL.modD, PL.fdivD, PL.powD, PL.ltD, PL.leD, PL.gtD, PL.geD, PL.isD, PL.isNotD, PL.isNonD, PL.ixD, PL.sliceD, PL.sliceE, PL.pN, PL.pS, PL.lenL, PL.absL, PL.intL, PL.max2L, PL.min2L, PL.listL, PL.tupleL, PL.isiD, PL.isiB, PL.tyD, PL.itE, PL.seqOf, PL.gN, PL.gT, PL.setAll, PL.lp_next, PL.lp_ret, PL.lp_exc, PL.for_nil, PL.for_cons, PL.atI_0, PL.atI_1, PL.atI_2, PL.atI_3, PL.tupD, PL.lstD, PL.owL, PL.setL, PL.sApp, PL.sPop, PL.sPopAt, PL.popAt, PL.sPut, PL.putAt, PL.ixO, PL.borE, PL.borT, PL.borO, PL.binO, PL.catO, PL.repO, PL.cutO, PL.sliceO, PL.lcE, PL.yesB, PL.mkBV, PL.mkTM, PL.mkBT, PL.negD, List.map_cons, List.map_nil, List.length_cons, List.length_nil, List.getElem?_cons_zero, List.getElem?_cons_succ, List.set_cons_zero, List.set_cons_succ, List.cons_append, List.nil_append, List.replicate_succ, List.replicate_zero, List.append_nil, Nat.reduceSub, Nat.reduceAdd, Bool.false_eq_true, List.map, PL.eq_int, PL.ne_int, PL.eq_bl,  if_true, if_false, ite_true, ite_false, h1, h2, h3]
theorem regular_ok {b h : D} (h2 : m_need_history [h] = .ok (.sh .non)) (h3 : m_fault_of [b, h] = .ok (.sh .non)) : m_need_regular [b, h] = .ok (.sh .non) := by
  unfold m_need_regular b_need_regular
  simp only [PL.runF, PL.runO, PL.start0, PL.sSeq, PL.sNext, PL.sSet, PL.sSetO, PL.sDrop, PL.sRet, PL.sRetO, PL.sRetV, PL.sRetN, PL.sIf, PL.sBrk, PL.sCont, PL.sFrz, PL.sFor, PL.sAsg, PL.sRaise, PL.sTry, PL.tryO, PL.unset, PL.xRet, PL.fldX, PL.ofR_ok, PL.ofR_exc, PL.eC, PL.eVar, PL.bin, PL.una, PL.aNil, PL.aCons, PL.app, PL.appO, PL.own, PL.tru, PL.ifE, PL.andB, PL.orB, PL.notB, PL.gd, PL.bOf, PL.truD, PL.tst, PL.andV, PL.orV, PL.notV, PL.callE, PL.callO, PL.rvD, PL.rvO, PL.bind_ok, PL.bind_exc, PL.bind_stuck, PL.addD, PL.subD, PL.mulD, PL.modD, PL.fdivD, PL.powD, PL.ltD, PL.leD, PL.gtD, PL.geD, PL.isD, PL.isNotD, PL.isNonD, PL.ixD, PL.sliceD, PL.sliceE, PL.pN, PL.pS, PL.lenL, PL.absL, PL.intL, PL.max2L, PL.min2L, PL.listL, PL.tupleL, PL.isiD, PL.isiB, PL.tyD, PL.itE, PL.seqOf, PL.gN, PL.gT, PL.setAll, PL.lp_next, PL.lp_ret, PL.lp_exc, PL.for_nil, PL.for_cons, PL.atI_0, PL.atI_1, PL.atI_2, PL.atI_3, PL.tupD, PL.lstD, PL.owL, PL.setL, PL.sApp, PL.sPop, PL.sPopAt, PL.popAt, PL.sPut, PL.putAt, PL.ixO, PL.borE, PL.borT, PL.borO, PL.binO, PL.catO, PL.repO, PL.cutO, PL.sliceO, PL.lcE, PL.yesB, PL.mkBV, PL.mkTM, PL.mkBT, PL.negD, List.map_cons, List.map_nil, List.length_cons, List.length_nil, List.getElem?_cons_zero, List.getElem?_cons_succ, List.set_cons_zero, List.set_cons_succ, List.cons_append, List.nil_append, List.replicate_succ, List.replicate_zero, List.append_nil, Nat.reduceSub, Nat.reduceAdd, Bool.false_eq_true, List.map, PL.eq_int, PL.ne_int, PL.eq_bl,  if_true, if_false, ite_true, ite_false, String.reduceBEq, decide_true, decide_false, Bool.not_true, Bool.not_false, Bool.true_and, Bool.false_and, Bool.and_true, Bool.and_false, Bool.true_or, Bool.false_or, Bool.or_true, Bool.or_false, decide_not, Bool.not_eq_true, Bool.not_not, reduceCtorEq, ne_eq, not_true_eq_false, not_false_eq_true, eq_self, beq_self_eq_true, bne_self_eq_false, and_true, true_and, and_self, h2, h3]
theorem regular_no {b h z w : D} (h2 : m_need_history [h] = .ok (.sh .non)) (h3 : m_fault_of [b, h] = .ok (.sh (.tup [z, w]))) : m_need_regular [b, h] = .exc (.badValue (.str "history")) := by
  unfold m_need_regular b_need_regular
  simp only [PL.runF, PL.runO, PL.start0, PL.sSeq, PL.sNext, PL.sSet, PL.sSetO, PL.sDrop, PL.sRet, PL.sRetO, PL.sRetV, PL.sRetN, PL.sIf, PL.sBrk, PL.sCont, PL.sFrz, PL.sFor, PL.sAsg, PL.sRaise, PL.sTry, PL.tryO, PL.unset, PL.xRet, PL.fldX, PL.ofR_ok, PL.ofR_exc, PL.eC, PL.eVar, PL.bin, PL.una, PL.aNil, PL.aCons, PL.app, PL.appO, PL.own, PL.tru, PL.ifE, PL.andB, PL.orB, PL.notB, PL.gd, PL.bOf, PL.truD, PL.tst, PL.andV, PL.orV, PL.notV, PL.callE, PL.callO, PL.rvD, PL.rvO, PL.bind_ok, PL.bind_exc, PL.bind_stuck, PL.addD, PL.subD, PL.mulD, PL.modD, PL.fdivD, PL.powD, PL.ltD, PL.leD, PL.gtD, PL.geD, PL.isD, PL.isNotD, PL.isNonD, PL.ixD, PL.sliceD, PL.sliceE, PL.pN, PL.pS, PL.lenL, PL.absL, PL.intL, PL.max2L, PL.min2L, PL.listL, PL.tupleL, PL.isiD, PL.isiB, PL.tyD, PL.itE, PL.seqOf, PL.gN, PL.gT, PL.setAll, PL.lp_next, PL.lp_ret, PL.lp_exc, PL.for_nil, PL.for_cons, PL.atI_0, PL.atI_1, PL.atI_2, PL.atI_3, PL.tupD, PL.lstD, PL.owL, PL.setL, PL.sApp, PL.sPop, PL.sPopAt, PL.popAt, PL.sPut, PL.putAt, PL.ixO, PL.borE, PL.borT, PL.borO, PL.binO, PL.catO, PL.repO, PL.cutO, PL.sliceO, PL.lcE, PL.yesB, PL.mkBV, PL.mkTM, PL.mkBT, PL.negD, List.map_cons, List.map_nil, List.length_cons, List.length_nil, List.getElem?_cons_zero, List.getElem?_cons_succ, List.set_cons_zero, List.set_cons_succ, List.cons_append, List.nil_append, List.replicate_succ, List.replicate_zero, List.append_nil, Nat.reduceSub, Nat.reduceAdd, Bool.false_eq_true, List.map, PL.eq_int, PL.ne_int, PL.eq_bl,  if_true, if_false, ite_true, ite_false, String.reduceBEq, decide_true, decide_false, Bool.not_true, Bool.not_false, Bool.true_and, Bool.false_and, Bool.and_true, Bool.and_false, Bool.true_or, Bool.false_or, Bool.or_true, Bool.or_false, decide_not, Bool.not_eq_true, Bool.not_not, reduceCtorEq, ne_eq, not_true_eq_false, not_false_eq_true, eq_self, beq_self_eq_true, bne_self_eq_false, and_true, true_and, and_self, h2, h3]
theorem box_ok {b h : D} {xs : List D} (h1 : m_need_bank [b] = .ok (.sh .non)) (h2 : m_need_regular [b, h] = .ok (.sh .non)) (h3 : m_stays_from [h] = .ok (.ow xs)) : m_box_stays [b, h] = .ok (.ow xs) := by
  unfold m_box_stays b_box_stays
  simp only [PL.runF, PL.runO, PL.start0, PL.sSeq, PL.sNext, PL.sSet, PL.sSetO, PL.sDrop, PL.sRet, PL.sRetO, PL.sRetV, PL.sRetN, PL.sIf, PL.sBrk, PL.sCont, PL.sFrz, PL.sFor, PL.sAsg, PL.sRaise, PL.sTry, PL.tryO, PL.unset, PL.xRet, PL.fldX, PL.ofR_ok, PL.ofR_exc, PL.eC, PL.eVar, PL.bin, PL.una, PL.aNil, PL.aCons, PL.app, PL.appO, PL.own, PL.tru, PL.ifE, PL.andB, PL.orB, PL.notB, PL.gd, PL.bOf, PL.truD, PL.tst, PL.andV, PL.orV, PL.notV, PL.callE, PL.callO, PL.rvD, PL.rvO, PL.bind_ok, PL.bind_exc, PL.bind_stuck, PL.addD, PL.subD, PL.mulD, PL.modD, PL.fdivD, PL.powD, PL.ltD, PL.leD, PL.gtD, PL.geD, PL.isD, PL.isNotD, PL.isNonD, PL.ixD, PL.sliceD, PL.sliceE, PL.pN, PL.pS, PL.lenL, PL.absL, PL.intL, PL.max2L, PL.min2L, PL.listL, PL.tupleL, PL.isiD, PL.isiB, PL.tyD, PL.itE, PL.seqOf, PL.gN, PL.gT, PL.setAll, PL.lp_next, PL.lp_ret, PL.lp_exc, PL.for_nil, PL.for_cons, PL.atI_0, PL.atI_1, PL.atI_2, PL.atI_3, PL.tupD, PL.lstD, PL.owL, PL.setL, PL.sApp, PL.sPop, PL.sPopAt, PL.popAt, PL.sPut, PL.putAt, PL.ixO, PL.borE, PL.borT, PL.borO, PL.binO, PL.catO, PL.repO, PL.cutO, PL.sliceO, PL.lcE, PL.yesB, PL.mkBV, PL.mkTM, PL.mkBT, PL.negD, List.map_cons, List.map_nil, List.length_cons, List.length_nil, List.getElem?_cons_zero, List.getElem?_cons_succ, List.set_cons_zero, List.set_cons_succ, List.cons_append, List.nil_append, List.replicate_succ, List.replicate_zero, List.append_nil, Nat.reduceSub, Nat.reduceAdd, Bool.false_eq_true, List.map, PL.eq_int, PL.ne_int, PL.eq_bl,  if_true, if_false, ite_true, ite_false, String.reduceBEq, decide_true, decide_false, Bool.not_true, Bool.not_false, Bool.true_and, Bool.false_and, Bool.and_true, Bool.and_false, Bool.true_or, Bool.false_or, Bool.or_true, Bool.or_false, decide_not, Bool.not_eq_true, Bool.not_not, reduceCtorEq, ne_eq, not_true_eq_false, not_false_eq_true, eq_self, beq_self_eq_true, bne_self_eq_false, and_true, true_and, and_self, h1, h2, h3]
theorem box_exc {b h : D} {e : Exc} (h1 : m_need_bank [b] = .ok (.sh .non)) (h2 : m_need_regular [b, h] = .exc e) : m_box_stays [b, h] = .exc e := by
  unfold m_box_stays b_box_stays
  simp only [PL.runF, PL.runO, PL.start0, PL.sSeq, PL.sNext, PL.sSet, PL.sSetO, PL.sDrop, PL.sRet, PL.sRetO, PL.sRetV, PL.sRetN, PL.sIf, PL.sBrk, PL.sCont, PL.sFrz, PL.sFor, PL.sAsg, PL.sRaise, PL.sTry, PL.tryO, PL.unset, PL.xRet, PL.fldX, PL.ofR_ok, PL.ofR_exc, PL.eC, PL.eVar, PL.bin, PL.una, PL.aNil, PL.aCons, PL.app, PL.appO, PL.own, PL.tru, PL.ifE, PL.andB, PL.orB, PL.notB, PL.gd, PL.bOf, PL.truD, PL.tst, PL.andV, PL.orV, PL.notV, PL.callE, PL.callO, PL.rvD, PL.rvO, PL.bind_ok, PL.bind_exc, PL.bind_stuck, PL.addD, PL.subD, PL.mulD, PL.modD, PL.fdivD, PL.powD, PL.ltD, PL.leD, PL.gtD, PL.geD, PL.isD, PL.isNotD, PL.isNonD, PL.ixD, PL.sliceD, PL.sliceE, PL.pN, PL.pS, PL.lenL, PL.absL, PL.intL, PL.max2L, PL.min2L, PL.listL, PL.tupleL, PL.isiD, PL.isiB, PL.tyD, PL.itE, PL.seqOf, PL.gN, PL.gT, PL.setAll, PL.lp_next, PL.lp_ret, PL.lp_exc, PL.for_nil, PL.for_cons, PL.atI_0, PL.atI_1, PL.atI_2, PL.atI_3, PL.tupD, PL.lstD, PL.owL, PL.setL, PL.sApp, PL.sPop, PL.sPopAt, PL.popAt, PL.sPut, PL.putAt, PL.ixO, PL.borE, PL.borT, PL.borO, PL.binO, PL.catO, PL.repO, PL.cutO, PL.sliceO, PL.lcE, PL.yesB, PL.mkBV, PL.mkTM, PL.mkBT, PL.negD, List.map_cons, List.map_nil, List.length_cons, List.length_nil, List.getElem?_cons_zero, List.getElem?_cons_succ, List.set_cons_zero, List.set_cons_succ, List.cons_append, List.nil_append, List.replicate_succ, List.replicate_zero, List.append_nil, Nat.reduceSub, Nat.reduceAdd, Bool.false_eq_true, List.map, PL.eq_int, PL.ne_int, PL.eq_bl,  if_true, if_false, ite_true, ite_false, String.reduceBEq, decide_true, decide_false, Bool.not_true, Bool.not_false, Bool.true_and, Bool.false_and, Bool.and_true, Bool.and_false, Bool.true_or, Bool.false_or, Bool.or_true, Bool.or_false, decide_not, Bool.not_eq_true, Bool.not_not, reduceCtorEq, ne_eq, not_true_eq_false, not_false_eq_true, eq_self, beq_self_eq_true, bne_self_eq_false, and_true, true_and, and_self, h1, h2]
theorem hist_exc {b h : D} {e : Exc} (h1 : m_need_bank [b] = .ok (.sh .non)) (h2 : m_need_history [h] = .exc e) : m_fault [b, h] = .exc e ∧ m_box_stays [b, h] = .exc e ∧ m_format_history [h] = .exc e ∧ m_day_of [h] = .exc e := by
  refine ⟨?_, box_exc h1 ?_, ?_, ?_⟩
  · unfold m_fault b_fault
    simp only [PL.runF, PL.runO, PL.start0, PL.sSeq, PL.sNext, PL.sSet, PL.sSetO, PL.sDrop, PL.sRet, PL.sRetO, PL.sRetV, PL.sRetN, PL.sIf, PL.sBrk, PL.sCont, PL.sFrz, PL.sFor, PL.sAsg, PL.sRaise, PL.sTry, PL.tryO, PL.unset, PL.xRet, PL.fldX, PL.ofR_ok, PL.ofR_exc, PL.eC, PL.eVar, PL.bin, PL.una, PL.aNil, PL.aCons, PL.app, PL.appO, PL.own, PL.tru, PL.ifE, PL.andB, PL.orB, PL.notB, PL.gd, PL.bOf, PL.truD, PL.tst, PL.andV, PL.orV, PL.notV, PL.callE, PL.callO, PL.rvD, PL.rvO, PL.bind_ok, PL.bind_exc, PL.bind_stuck, PL.addD, PL.subD, PL.mulD, PL.modD, PL.fdivD, PL.powD, PL.ltD, PL.leD, PL.gtD, PL.geD, PL.isD, PL.isNotD, PL.isNonD, PL.ixD, PL.sliceD, PL.sliceE, PL.pN, PL.pS, PL.lenL, PL.absL, PL.intL, PL.max2L, PL.min2L, PL.listL, PL.tupleL, PL.isiD, PL.isiB, PL.tyD, PL.itE, PL.seqOf, PL.gN, PL.gT, PL.setAll, PL.lp_next, PL.lp_ret, PL.lp_exc, PL.for_nil, PL.for_cons, PL.atI_0, PL.atI_1, PL.atI_2, PL.atI_3, PL.tupD, PL.lstD, PL.owL, PL.setL, PL.sApp, PL.sPop, PL.sPopAt, PL.popAt, PL.sPut, PL.putAt, PL.ixO, PL.borE, PL.borT, PL.borO, PL.binO, PL.catO, PL.repO, PL.cutO, PL.sliceO, PL.lcE, PL.yesB, PL.mkBV, PL.mkTM, PL.mkBT, PL.negD, List.map_cons, List.map_nil, List.length_cons, List.length_nil, List.getElem?_cons_zero, List.getElem?_cons_succ, List.set_cons_zero, List.set_cons_succ, List.cons_append, List.nil_append, List.replicate_succ, List.replicate_zero, List.append_nil, Nat.reduceSub, Nat.reduceAdd, Bool.false_eq_true, List.map, PL.eq_int, PL.ne_int, PL.eq_bl,  if_true, if_false, ite_true, ite_false, h1, h2]
  · unfold m_need_regular b_need_regular
    simp only [PL.runF, PL.runO, PL.start0, PL.sSeq, PL.sNext, PL.sSet, PL.sSetO, PL.sDrop, PL.sRet, PL.sRetO, PL.sRetV, PL.sRetN, PL.sIf, PL.sBrk, PL.sCont, PL.sFrz, PL.sFor, PL.sAsg, PL.sRaise, PL.sTry, PL.tryO, PL.unset, PL.xRet, PL.fldX, PL.ofR_ok, PL.ofR_exc, PL.eC, PL.eVar, PL.bin, PL.una, PL.aNil, PL.aCons, PL.app, PL.appO, PL.own, PL.tru, PL.ifE, PL.andB, PL.orB, PL.notB, PL.gd, PL.bOf, PL.truD, PL.tst, PL.andV, PL.orV, PL.notV, PL.callE, PL.callO, PL.rvD, PL.rvO, PL.bind_ok, PL.bind_exc, PL.bind_stuck, PL.addD, PL.subD, PL.mulD, PL.modD, PL.fdivD, PL.powD, PL.ltD, PL.leD, PL.gtD, PL.geD, PL.isD, PL.isNotD, PL.isNonD, PL.ixD, PL.sliceD, PL.sliceE, PL.pN, PL.pS, PL.lenL, PL.absL, PL.intL, PL.max2L, PL.min2L, PL.listL, PL.tupleL, PL.isiD, PL.isiB, PL.tyD, PL.itE, PL.seqOf, PL.gN, PL.gT, PL.setAll, PL.lp_next, PL.lp_ret, PL.lp_exc, PL.for_nil, PL.for_cons, PL.atI_0, PL.atI_1, PL.atI_2, PL.atI_3, PL.tupD, PL.lstD, PL.owL, PL.setL, PL.sApp, PL.sPop, PL.sPopAt, PL.popAt, PL.sPut, PL.putAt, PL.ixO, PL.borE, PL.borT, PL.borO, PL.binO, PL.catO, PL.repO, PL.cutO, PL.sliceO, PL.lcE, PL.yesB, PL.mkBV, PL.mkTM, PL.mkBT, PL.negD, List.map_cons, List.map_nil, List.length_cons, List.length_nil, List.getElem?_cons_zero, List.getElem?_cons_succ, List.set_cons_zero, List.set_cons_succ, List.cons_append, List.nil_append, List.replicate_succ, List.replicate_zero, List.append_nil, Nat.reduceSub, Nat.reduceAdd, Bool.false_eq_true, List.map, PL.eq_int, PL.ne_int, PL.eq_bl,  if_true, if_false, ite_true, ite_false, h2]
  · unfold m_format_history b_format_history
    simp only [PL.runF, PL.runO, PL.start0, PL.sSeq, PL.sNext, PL.sSet, PL.sSetO, PL.sDrop, PL.sRet, PL.sRetO, PL.sRetV, PL.sRetN, PL.sIf, PL.sBrk, PL.sCont, PL.sFrz, PL.sFor, PL.sAsg, PL.sRaise, PL.sTry, PL.tryO, PL.unset, PL.xRet, PL.fldX, PL.ofR_ok, PL.ofR_exc, PL.eC, PL.eVar, PL.bin, PL.una, PL.aNil, PL.aCons, PL.app, PL.appO, PL.own, PL.tru, PL.ifE, PL.andB, PL.orB, PL.notB, PL.gd, PL.bOf, PL.truD, PL.tst, PL.andV, PL.orV, PL.notV, PL.callE, PL.callO, PL.rvD, PL.rvO, PL.bind_ok, PL.bind_exc, PL.bind_stuck, PL.addD, PL.subD, PL.mulD, PL.modD, PL.fdivD, PL.powD, PL.ltD, PL.leD, PL.gtD, PL.geD, PL.isD, PL.isNotD, PL.isNonD, PL.ixD, PL.sliceD, PL.sliceE, PL.pN, PL.pS, PL.lenL, PL.absL, PL.intL, PL.max2L, PL.min2L, PL.listL, PL.tupleL, PL.isiD, PL.isiB, PL.tyD, PL.itE, PL.seqOf, PL.gN, PL.gT, PL.setAll, PL.lp_next, PL.lp_ret, PL.lp_exc, PL.for_nil, PL.for_cons, PL.atI_0, PL.atI_1, PL.atI_2, PL.atI_3, PL.tupD, PL.lstD, PL.owL, PL.setL, PL.sApp, PL.sPop, PL.sPopAt, PL.popAt, PL.sPut, PL.putAt, PL.ixO, PL.borE, PL.borT, PL.borO, PL.binO, PL.catO, PL.repO, PL.cutO, PL.sliceO, PL.lcE, PL.yesB, PL.mkBV, PL.mkTM, PL.mkBT, PL.negD, List.map_cons, List.map_nil, List.length_cons, List.length_nil, List.getElem?_cons_zero, List.getElem?_cons_succ, List.set_cons_zero, List.set_cons_succ, List.cons_append, List.nil_append, List.replicate_succ, List.replicate_zero, List.append_nil, Nat.reduceSub, Nat.reduceAdd, Bool.false_eq_true, List.map, PL.eq_int, PL.ne_int, PL.eq_bl,  if_true, if_false, ite_true, ite_false, h2]
  · unfold m_day_of b_day_of
    simp only [PL.runF, PL.runO, PL.start0, PL.sSeq, PL.sNext, PL.sSet, PL.sSetO, PL.sDrop, PL.sRet, PL.sRetO, PL.sRetV, PL.sRetN, PL.sIf, PL.sBrk, PL.sCont, PL.sFrz, PL.sFor, PL.sAsg, PL.sRaise, PL.sTry, PL.tryO, PL.unset, PL.xRet, PL.fldX, PL.ofR_ok, PL.ofR_exc, PL.eC, PL.eVar, PL.bin, PL.una, PL.aNil, PL.aCons, PL.app, PL.appO, PL.own, PL.tru, PL.ifE, PL.andB, PL.orB, PL.notB, PL.gd, PL.bOf, PL.truD, PL.tst, PL.andV, PL.orV, PL.notV, PL.callE, PL.callO, PL.rvD, PL.rvO, PL.bind_ok, PL.bind_exc, PL.bind_stuck, PL.addD, PL.subD, PL.mulD, PL.modD, PL.fdivD, PL.powD, PL.ltD, PL.leD, PL.gtD, PL.geD, PL.isD, PL.isNotD, PL.isNonD, PL.ixD, PL.sliceD, PL.sliceE, PL.pN, PL.pS, PL.lenL, PL.absL, PL.intL, PL.max2L, PL.min2L, PL.listL, PL.tupleL, PL.isiD, PL.isiB, PL.tyD, PL.itE, PL.seqOf, PL.gN, PL.gT, PL.setAll, PL.lp_next, PL.lp_ret, PL.lp_exc, PL.for_nil, PL.for_cons, PL.atI_0, PL.atI_1, PL.atI_2, PL.atI_3, PL.tupD, PL.lstD, PL.owL, PL.setL, PL.sApp, PL.sPop, PL.sPopAt, PL.popAt, PL.sPut, PL.putAt, PL.ixO, PL.borE, PL.borT, PL.borO, PL.binO, PL.catO, PL.repO, PL.cutO, PL.sliceO, PL.lcE, PL.yesB, PL.mkBV, PL.mkTM, PL.mkBT, PL.negD, List.map_cons, List.map_nil, List.length_cons, List.length_nil, List.getElem?_cons_zero, List.getElem?_cons_succ, List.set_cons_zero, List.set_cons_succ, List.cons_append, List.nil_append, List.replicate_succ, List.replicate_zero, List.append_nil, Nat.reduceSub, Nat.reduceAdd, Bool.false_eq_true, List.map, PL.eq_int, PL.ne_int, PL.eq_bl,  if_true, if_false, ite_true, ite_false, h2]
theorem bank_exc {b h : D} {e : Exc} (h1 : m_need_bank [b] = .exc e) : m_fault [b, h] = .exc e ∧ m_box_stays [b, h] = .exc e := by
  refine ⟨?_, ?_⟩
  · unfold m_fault b_fault
    simp only [PL.runF, PL.runO, PL.start0, PL.sSeq, PL.sNext, PL.sSet, PL.sSetO, PL.sDrop, PL.sRet, PL.sRetO, PL.sRetV, PL.sRetN, PL.sIf, PL.sBrk, PL.sCont, PL.sFrz, PL.sFor, PL.sAsg, PL.sRaise, PL.sTry, PL.tryO, PL.unset, PL.xRet, PL.fldX, PL.ofR_ok, PL.ofR_exc, PL.eC, PL.eVar, PL.bin, PL.una, PL.aNil, PL.aCons, PL.app, PL.appO, PL.own, PL.tru, PL.ifE, PL.andB, PL.orB, PL.notB, PL.gd, PL.bOf, PL.truD, PL.tst, PL.andV, PL.orV, PL.notV, PL.callE, PL.callO, PL.rvD, PL.rvO, PL.bind_ok, PL.bind_exc, PL.bind_stuck, PL.addD, PL.subD, PL.mulD, PL.modD, PL.fdivD, PL.powD, PL.ltD, PL.leD, PL.gtD, PL.geD, PL.isD, PL.isNotD, PL.isNonD, PL.ixD, PL.sliceD, PL.sliceE, PL.pN, PL.pS, PL.lenL, PL.absL, PL.intL, PL.max2L, PL.min2L, PL.listL, PL.tupleL, PL.isiD, PL.isiB, PL.tyD, PL.itE, PL.seqOf, PL.gN, PL.gT, PL.setAll, PL.lp_next, PL.lp_ret, PL.lp_exc, PL.for_nil, PL.for_cons, PL.atI_0, PL.atI_1, PL.atI_2, PL.atI_3, PL.tupD, PL.lstD, PL.owL, PL.setL, PL.sApp, PL.sPop, PL.sPopAt, PL.popAt, PL.sPut, PL.putAt, PL.ixO, PL.borE, PL.borT, PL.borO, PL.binO, PL.catO, PL.repO, PL.cutO, PL.sliceO, PL.lcE, PL.yesB, PL.mkBV, PL.mkTM, PL.mkBT, PL.negD, List.map_cons, List.map_nil, List.length_cons, List.length_nil, List.getElem?_cons_zero, List.getElem?_cons_succ, List.set_cons_zero, List.set_cons_succ, List.cons_append, List.nil_append, List.replicate_succ, List.replicate_zero, List.append_nil, Nat.reduceSub, Nat.reduceAdd, Bool.false_eq_true, List.map, PL.eq_int, PL.ne_int, PL.eq_bl,  if_true, if_false, ite_true, ite_false, h1]
  · unfold m_box_stays b_box_stays
    simp only [PL.runF, PL.runO, PL.start0, PL.sSeq, PL.sNext, PL.sSet, PL.sSetO, PL.sDrop, PL.sRet, PL.sRetO, PL.sRetV, PL.sRetN, PL.sIf, PL.sBrk, PL.sCont, PL.sFrz, PL.sFor, PL.sAsg, PL.sRaise, PL.sTry, PL.tryO, PL.unset, PL.xRet, PL.fldX, PL.ofR_ok, PL.ofR_exc, PL.eC, PL.eVar, PL.bin, PL.una, PL.aNil, PL.aCons, PL.app, PL.appO, PL.own, PL.tru, PL.ifE, PL.andB, PL.orB, PL.notB, PL.gd, PL.bOf, PL.truD, PL.tst, PL.andV, PL.orV, PL.notV, PL.callE, PL.callO, PL.rvD, PL.rvO, PL.bind_ok, PL.bind_exc, PL.bind_stuck, PL.addD, PL.subD, PL.mulD, PL.modD, PL.fdivD, PL.powD, PL.ltD, PL.leD, PL.gtD, PL.geD, PL.isD, PL.isNotD, PL.isNonD, PL.ixD, PL.sliceD, PL.sliceE, PL.pN, PL.pS, PL.lenL, PL.absL, PL.intL, PL.max2L, PL.min2L, PL.listL, PL.tupleL, PL.isiD, PL.isiB, PL.tyD, PL.itE, PL.seqOf, PL.gN, PL.gT, PL.setAll, PL.lp_next, PL.lp_ret, PL.lp_exc, PL.for_nil, PL.for_cons, PL.atI_0, PL.atI_1, PL.atI_2, PL.atI_3, PL.tupD, PL.lstD, PL.owL, PL.setL, PL.sApp, PL.sPop, PL.sPopAt, PL.popAt, PL.sPut, PL.putAt, PL.ixO, PL.borE, PL.borT, PL.borO, PL.binO, PL.catO, PL.repO, PL.cutO, PL.sliceO, PL.lcE, PL.yesB, PL.mkBV, PL.mkTM, PL.mkBT, PL.negD, List.map_cons, List.map_nil, List.length_cons, List.length_nil, List.getElem?_cons_zero, List.getElem?_cons_succ, List.set_cons_zero, List.set_cons_succ, List.cons_append, List.nil_append, List.replicate_succ, List.replicate_zero, List.append_nil, Nat.reduceSub, Nat.reduceAdd, Bool.false_eq_true, List.map, PL.eq_int, PL.ne_int, PL.eq_bl,  if_true, if_false, ite_true, ite_false, h1]
/-- an error as the law tells it -/
def tell : Exc → D
  | .tooMany l => .tup [.str "many", l]
  | .badValue w => .tup [.str "value", w]
  | _ => .non
def isMV : Exc → Prop | .tooMany _ => True | .badValue _ => True | _ => False
theorem try_tell {e : Exc} {b : En → Out} {ρ ρ' : En} (he : isMV e) (hb : b ρ = .exc e ρ') :
    sSeq (sTry b [⟨knX, isX_TooMany, 3, (xRet (fun ex => app tupD ((fun ex => aCons ((fun _ => (eC (.str "many"))) ex) ((fun ex => aCons ((fldX "TooMany" "limit") ex) ((fun _ => aNil) ex)) ex)) ex)))⟩, ⟨knX, isX_BadValue, 3, (xRet (fun ex => app tupD ((fun ex => aCons ((fun _ => (eC (.str "value"))) ex) ((fun ex => aCons ((fldX "BadValue" "what") ex) ((fun _ => aNil) ex)) ex)) ex)))⟩]) (sRet (app tupD (aCons (eC (.str "none")) aNil))) ρ = .ret (.sh (tell e)) := by
  refine seq_ret ?_
  unfold sTry
  rw [hb]
  cases e with
  | tooMany l =>
    simp only [tryO, knX, isX_TooMany, isX_BadValue, if_true, if_false, Bool.false_eq_true]
    have : (app tupD (aCons (eC (.str "many")) (aCons (fldX "TooMany" "limit" (.tooMany l)) aNil))) (ρ'.set 3 .no) = .ok (.tup [.str "many", l]) := app_eq (cons_eq rfl (cons_eq (gd_pos rfl) rfl)) (tup2 _ _)
    simp only [xRet, this, ofR_ok, unset]
    rfl
  | badValue l =>
    simp only [tryO, knX, isX_TooMany, isX_BadValue, if_true, if_false, Bool.false_eq_true]
    have : (app tupD (aCons (eC (.str "value")) (aCons (fldX "BadValue" "what" (.badValue l)) aNil))) (ρ'.set 3 .no) = .ok (.tup [.str "value", l]) := app_eq (cons_eq rfl (cons_eq (gd_pos rfl) rfl)) (tup2 _ _)
    simp only [xRet, this, ofR_ok, unset]
    rfl
  | _ => cases he
theorem if_no {x : Int} {i : Int} {f : En → Out} {b h : D} {o : Sl} (hx : ¬ i = x) : sIf (tst bOf (PL.bin eqD (eVar 0) (eC (.int x)))) f sNext [.sh (.int i), .sh b, .sh h, o] = .next [.sh (.int i), .sh b, .sh h, o] :=
  if_eq (b := false) (tst_eq (bin_eq rfl rfl (by rw [eq_int, decide_eq_false hx])) rfl) rfl
theorem if_yes {x : Int} {f : En → Out} {b h : D} {o : Sl} {r : Out} (hf : f [.sh (.int x), .sh b, .sh h, o] = r) : sIf (tst bOf (PL.bin eqD (eVar 0) (eC (.int x)))) f sNext [.sh (.int x), .sh b, .sh h, o] = r :=
  if_eq (b := true) (tst_eq (bin_eq rfl rfl (by rw [eq_int, decide_eq_true rfl])) rfl) hf
theorem door0 {b h : D} {e : Exc} (he : isMV e) (hf : m_fault [b, h] = .exc e) : m__law_door [.int 0, b, h] = .ok (.sh (tell e)) := by
  refine run_of (b := b__law_door) (env := [.sh (.int 0), .sh b, .sh h, .no]) rfl (try_tell (ρ' := [.sh (.int 0), .sh b, .sh h, .no]) he ?_) rfl
  exact seq_exc (if_yes (drop_exc (call_exc (cons_eq rfl (cons_eq rfl rfl)) hf)))
theorem door1 {b h : D} {e : Exc} (he : isMV e) (hf : m_box_stays [b, h] = .exc e) : m__law_door [.int 1, b, h] = .ok (.sh (tell e)) := by
  refine run_of (b := b__law_door) (env := [.sh (.int 1), .sh b, .sh h, .no]) rfl (try_tell (ρ' := [.sh (.int 1), .sh b, .sh h, .no]) he ?_) rfl
  exact seq_n (if_no (by decide)) (seq_exc (if_yes (drop_exc (call_exc (cons_eq rfl (cons_eq rfl rfl)) hf))))
theorem door2 {b h : D} {e : Exc} (he : isMV e) (hf : m_format_history [h] = .exc e) : m__law_door [.int 2, b, h] = .ok (.sh (tell e)) := by
  refine run_of (b := b__law_door) (env := [.sh (.int 2), .sh b, .sh h, .no]) rfl (try_tell (ρ' := [.sh (.int 2), .sh b, .sh h, .no]) he ?_) rfl
  exact seq_n (if_no (by decide)) (seq_n (if_no (by decide)) (seq_exc (if_yes (drop_exc (call_exc (cons_eq rfl rfl) hf)))))
theorem door3 {b h : D} {e : Exc} (he : isMV e) (hf : m_day_of [h] = .exc e) : m__law_door [.int 3, b, h] = .ok (.sh (tell e)) := by
  refine run_of (b := b__law_door) (env := [.sh (.int 3), .sh b, .sh h, .no]) rfl (try_tell (ρ' := [.sh (.int 3), .sh b, .sh h, .no]) he ?_) rfl
  exact seq_n (if_no (by decide)) (seq_n (if_no (by decide)) (seq_n (if_no (by decide)) (if_yes (drop_exc (call_exc (cons_eq rfl rfl) hf)))))
/-- two that are the same -/
theorem same_test {f g : En → Res D} {ρ : En} {d : D} (h : f ρ = .ok d) (h2 : g ρ = .ok d) (hp : pl d = true) (hd : dep d < 6) : callE (m__law_same 6) (aCons f (aCons g aNil)) ρ = .ok (.bl true) :=
  call_sh (cons_eq h (cons_eq h2 rfl)) (same_refl 6 d hp hd)
theorem if_same {f g : En → Res D} {ρ : En} {d : D} {F : En → Out} (h : f ρ = .ok d) (h2 : g ρ = .ok d) (hp : pl d = true) (hd : dep d < 6) : sIf (notB (tst truD (callE (m__law_same 6) (aCons f (aCons g aNil))))) F sNext ρ = .next ρ :=
  if_eq (not_eq (tst_eq (same_test h h2 hp hd) rfl)) rfl
theorem all_doors {b h due : D} (h0 : m__law_door [.int 0, b, h] = .ok (.sh due)) (h1 : m__law_door [.int 1, b, h] = .ok (.sh due)) (h2 : m__law_door [.int 2, b, h] = .ok (.sh due)) (h3 : m__law_door [.int 3, b, h] = .ok (.sh due)) (hp : pl due = true) (hd : dep due < 6) :
    m__law_all_doors [b, h, due] = yes := by
  refine run_of (b := b__law_all_doors) (env := [.sh b, .sh h, .sh due, .no]) (o := .ret (.sh (.bl true))) rfl ?_ rfl
  have bd : ∀ (i : Int), m__law_door [.int i, b, h] = .ok (.sh due) → B1__law_all_doors [.sh b, .sh h, .sh due, .sh (.int i)] = .next [.sh b, .sh h, .sh due, .sh (.int i)] := fun i hi =>
    if_same (call_sh (cons_eq rfl (cons_eq rfl (cons_eq rfl rfl))) hi) rfl hp hd
  refine seq_n (for_eq (ds := [.int 0, .int 1, .int 2, .int 3]) (appO_eq (cons_eq rfl rfl) (rng1_nat 4 (by decide))) (o := .next [.sh b, .sh h, .sh due, .sh (.int 3)]) ?_) rfl
  rw [for_cons]; show lpO _ (B1__law_all_doors [.sh b, .sh h, .sh due, .sh (.int 0)]) = _; rw [bd 0 h0, lp_next]
  rw [for_cons]; show lpO _ (B1__law_all_doors [.sh b, .sh h, .sh due, .sh (.int 1)]) = _; rw [bd 1 h1, lp_next]
  rw [for_cons]; show lpO _ (B1__law_all_doors [.sh b, .sh h, .sh due, .sh (.int 2)]) = _; rw [bd 2 h2, lp_next]
  rw [for_cons]; show lpO _ (B1__law_all_doors [.sh b, .sh h, .sh due, .sh (.int 3)]) = _; rw [bd 3 h3, lp_next]
  rfl
theorem doors_hist {b h : D} {e : Exc} (he : isMV e) (h1 : m_need_bank [b] = .ok (.sh .non)) (h2 : m_need_history [h] = .exc e) (hp : pl (tell e) = true) (hd : dep (tell e) < 6) : m__law_all_doors [b, h, tell e] = yes := by
  obtain ⟨a, b, c, d⟩ := hist_exc h1 h2
  exact all_doors (door0 he a) (door1 he b) (door2 he c) (door3 he d) hp hd
end K46

set_option maxRecDepth 100000
set_option maxHeartbeats 1000000
namespace K46
open PySem PL
/-! ## shapes -/
theorem plA_of : ∀ {xs : List D}, (∀ x ∈ xs, pl x = true) → plA xs = true
  | [], _ => rfl
  | x :: xs, h => by
    unfold plA
    rw [h x List.mem_cons_self, plA_of fun y hy => h y (List.mem_cons_of_mem _ hy)]
    rfl
theorem depA_of {n : Nat} : ∀ {xs : List D}, (∀ x ∈ xs, dep x ≤ n) → depA xs ≤ n
  | [], _ => Nat.zero_le _
  | x :: xs, h => by
    unfold depA
    have h1 := h x List.mem_cons_self
    have h2 := depA_of (n := n) fun y hy => h y (List.mem_cons_of_mem _ hy)
    omega
theorem sclA_of : ∀ {xs : List D}, (∀ x ∈ xs, scl x = true) → sclA xs = true
  | [], _ => rfl
  | x :: xs, h => by
    unfold sclA
    rw [h x List.mem_cons_self, sclA_of fun y hy => h y (List.mem_cons_of_mem _ hy)]
    rfl
theorem nm_ok {p : List Nat} (h : nmOk p = true) : PyData.strOk (nm p) = true := by
  have : ∀ c ∈ p, c < 1114112 := by
    cases p with
    | nil => cases h
    | cons c cs =>
      unfold nmOk at h
      simp only [Bool.and_eq_true, decide_eq_true_eq, List.all_eq_true] at h
      intro x hx
      rcases List.mem_cons.mp hx with e | e
      · subst e
        have := h.1.1
        unfold lett at this
        simp only [Bool.and_eq_true, decide_eq_true_eq] at this
        omega
      · have := h.1.2 x e
        unfold lett dgt at this
        simp only [Bool.or_eq_true, Bool.and_eq_true, decide_eq_true_eq] at this
        omega
  unfold PyData.strOk nm
  simp only [List.all_toArray, List.all_eq_true, decide_eq_true_eq]
  exact this
theorem way_ok (w : Bool) : PyData.strOk (way w) = true := by cases w <;> decide +kernel
theorem pl_row {r : Row} (h : r.ok) : pl r.d = true := by
  show (true && (true && (PyData.strOk (nm r.p) && (PyData.strOk (way r.w) && true))) && decide _) = true
  rw [nm_ok h.2.2.2.2, way_ok]
  rfl
theorem pl_size (s : Size) : pl s.d = true := rfl
theorem pl_mk {r : Row} {o : Option Row} (h : r.ok) (ho : ∀ q, o = some q → q.ok) : pl (mk r o) = true := by
  cases o with
  | none =>
    show (true && (true && (PyData.strOk (nm r.p) && (true && (true && true)))) && decide _) = true
    rw [nm_ok h.2.2.2.2]
    rfl
  | some q =>
    show (true && (true && (PyData.strOk (nm r.p) && (true && (PyData.strOk (nm q.p) && true)))) && decide _) = true
    rw [nm_ok h.2.2.2.2, nm_ok (ho q rfl).2.2.2.2]
    rfl
theorem dep_mk (r : Row) (o : Option Row) : dep (mk r o) ≤ 1 := by cases o <;> exact Nat.le_of_eq rfl
theorem scl_mk (r : Row) (o : Option Row) : scl (mk r o) = true := by cases o <;> rfl
theorem pl_lst {xs : List D} (h : ∀ x ∈ xs, pl x = true) (hl : xs.length ≤ 1000) : pl (.lst xs) = true := by
  unfold pl
  rw [plA_of h, decide_eq_true hl]; rfl
theorem dep_lst {xs : List D} (h : ∀ x ∈ xs, dep x ≤ 1) : dep (.lst xs) < 6 := by
  unfold dep
  have := depA_of h
  omega
theorem LS_all : ∀ (rs : List Row), (∀ r ∈ rs, r.ok) → ∀ x ∈ LS rs, pl x = true ∧ dep x ≤ 1 ∧ scl x = true
  | [], _, x, hx => by cases hx
  | r :: rs, h, x, hx => by
    have ih := LS_all rs fun y hy => h y (List.mem_cons_of_mem _ hy)
    unfold LS at hx
    split at hx
    · rcases List.mem_cons.mp hx with e | e
      · subst e
        exact ⟨pl_mk (h r List.mem_cons_self) fun q hq => h q (List.mem_cons_of_mem _ (List.mem_of_find?_eq_some hq)), dep_mk _ _, scl_mk _ _⟩
      · exact ih x e
    · exact ih x hx
theorem fault_str {n : Nat} : ∀ {rs pre : List Row} {k : Nat} {s : Str}, faultFrom n pre rs = some (k, s) → PyData.strOk s = true
  | [], pre, k, s, h => by cases h
  | r :: rs, pre, k, s, h => by
    unfold faultFrom at h
    cases hf : faultAt n pre r with
    | some z =>
      rw [hf] at h
      cases h
      unfold faultAt at hf
      split at hf
      · cases hf; decide +kernel
      · split at hf
        · cases hf; decide +kernel
        · split at hf
          · cases hf; decide +kernel
          · split at hf
            · cases hf; decide +kernel
            · cases hf
    | none => rw [hf] at h; exact fault_str h
theorem pl_fault {n : Nat} {rs pre : List Row} : pl (faultD (faultFrom n pre rs)) = true := by
  cases h : faultFrom n pre rs with
  | none => rfl
  | some f =>
    obtain ⟨k, s⟩ := f
    show (true && (PyData.strOk s && true) && decide _) = true
    rw [fault_str h]
    rfl
theorem dep_fault (o : Option (Nat × Str)) : dep (faultD o) < 6 := by
  cases o with
  | none => decide
  | some f => show 1 < 6; decide
/-! ## borrowed -/
theorem borT_ok {i : Nat} {t : En → Res Bool} {ρ : En} {xs : List D} {b : Bool} (h : owL ρ i = .ok xs) (ht : t (ρ.set i (.sh (.lst xs))) = .ok b) : borT i t ρ = .ok b := by
  unfold borT; rw [h]; simp only [ht]
theorem borE_ok {i : Nat} {t : En → Res D} {ρ : En} {xs : List D} {d : D} (h : owL ρ i = .ok xs) (ht : t (ρ.set i (.sh (.lst xs))) = .ok d) (hs : scl d = true) : borE i t ρ = .ok d := by
  unfold borE; rw [h]; simp only [ht]; exact gd_pos hs
theorem borO_ok {i : Nat} {t : En → Res (List D)} {ρ : En} {xs ds : List D} (h : owL ρ i = .ok xs) (ht : t (ρ.set i (.sh (.lst xs))) = .ok ds) (hs : sclA ds = true) : borO i t ρ = .ok ds := by
  unfold borO; rw [h]; simp only [ht]; exact gd_pos hs
theorem same_not {f g : En → Res D} {ρ : En} {d : D} (h : f ρ = .ok d) (h2 : g ρ = .ok d) (hp : pl d = true) (hd : dep d < 6) : notB (tst truD (callE (m__law_same 6) (aCons f (aCons g aNil)))) ρ = .ok false :=
  not_eq (b := true) (tst_eq (same_test h h2 hp hd) rfl)
theorem andV_yes {f g : En → Res D} {ρ : En} (h : f ρ = .ok (.bl true)) (h2 : g ρ = .ok (.bl true)) : andV f g ρ = .ok (.bl true) := by unfold andV; rw [h, bind_ok]; exact h2
theorem cut_init (xs : List D) (x : D) : cutG (xs ++ [x]) none (some (-1)) = xs := by
  unfold cutG
  have e1 : HT.sIx (xs ++ [x]).length (xs ++ [x]).length (some (-1)) = xs.length := by
    show (if (-1 : Int) < 0 then ((-1 : Int) + ((xs ++ [x]).length : Int)).toNat else min (-1 : Int).toNat (xs ++ [x]).length) = xs.length
    rw [if_pos (by decide), List.length_append]
    simp only [List.length_cons, List.length_nil]
    omega
  rw [e1, HT.sIx_none, List.drop_zero, Nat.sub_zero, List.take_left]
theorem walked {bank : List Size} {hist : List Row} (hb : ∀ s ∈ bank, s.ok) (hbl : bank.length ≤ 30) (hh : ∀ r ∈ hist, r.ok) (hl : hist.length ≤ 60) : m__law_walked [BK bank, HS hist] = yes := by
  have b1 := bank_ok bank hb hbl
  have n1 := need_history_ok hist hh hl
  have f1 := fault_of_eq bank hist hbl hl hh
  have f2 := fault_val b1 n1 f1
  have lf := lfault_eq bank.length hist hl hh
  have ls := lstays_eq hist hl
  have hp : pl (HS hist) = true := pl_lst (fun x hx => by obtain ⟨r, hr, rfl⟩ := List.mem_map.mp hx; exact pl_row (hh r hr)) (by rw [List.length_map]; omega)
  have hd : dep (HS hist) < 6 := dep_lst fun x hx => by obtain ⟨r, hr, rfl⟩ := List.mem_map.mp hx; exact Nat.le_refl 1
  have bp : pl (BK bank) = true := pl_lst (fun x hx => by obtain ⟨r, hr, rfl⟩ := List.mem_map.mp hx; exact pl_size r) (by rw [List.length_map]; omega)
  have bd : dep (BK bank) < 6 := dep_lst fun x hx => by obtain ⟨r, hr, rfl⟩ := List.mem_map.mp hx; exact Nat.le_refl 1
  have sp : pl (.lst (LS hist)) = true := pl_lst (fun x hx => (LS_all hist hh x hx).1) (by have := LS_len hist; omega)
  have sd : dep (.lst (LS hist)) < 6 := dep_lst fun x hx => (LS_all hist hh x hx).2.1
  have ss : sclA (LS hist) = true := sclA_of fun x hx => (LS_all hist hh x hx).2.2
  let F := faultFrom bank.length [] hist
  have ll : lenL [BK bank] = .ok (.int (bank.length : Nat)) := by rw [len_lst, List.length_map]
  refine run_of (b := b__law_walked) (env := [.sh (BK bank), .sh (HS hist), .no, .no, .no, .no, .no]) (o := .ret (.sh (.bl true))) rfl ?_ rfl
  unfold b__law_walked
  refine seq_n (set_eq (own_eq (appO_eq (cons_eq rfl rfl) rfl))) (seq_n (setO_eq (appO_eq (cons_eq rfl rfl) rfl)) (seq_n (set_eq (call_sh (cons_eq (app_eq (cons_eq rfl rfl) ll) (cons_eq rfl rfl)) lf)) ?_))
  show sSeq _ _ [.sh (BK bank), .sh (HS hist), .sh (BK bank), .ow (.lst (hist.map Row.d)), .sh (faultD F), .no, .no] = _
  refine seq_n (if_eq (borT_ok (xs := hist.map Row.d) rfl (same_not (call_sh (cons_eq rfl (cons_eq rfl rfl)) f2) rfl pl_fault (dep_fault _))) rfl) ?_
  show sSeq _ _ [.sh (BK bank), .sh (HS hist), .sh (BK bank), .ow (.lst (hist.map Row.d)), .sh (faultD F), .no, .no] = _
  cases hF : F with
  | some f =>
    have f1' : m_fault_of [BK bank, HS hist] = .ok (.sh (faultD (some f))) := by rw [← hF]; exact f1
    have reg := regular_no n1 f1'
    have bx := box_exc b1 reg
    have d1 := door1 (e := .badValue (.str "history")) trivial bx
    refine seq_ret (if_eq (b := true) (tst_eq (bin_eq rfl rfl rfl) rfl) ?_)
    rw [if_pos rfl]
    refine seq_n (if_eq (borT_ok (xs := hist.map Row.d) rfl (same_not (d := .tup [.str "value", .str "history"]) (call_sh (cons_eq rfl (cons_eq rfl (cons_eq rfl rfl))) d1) (app_eq (cons_eq rfl (cons_eq rfl rfl)) (tup2 _ _)) (by decide +kernel) (by decide))) rfl) ?_
    exact ret_eq (borE_ok (xs := hist.map Row.d) rfl (andV_yes (same_test (d := HS hist) rfl rfl hp hd) (same_test (d := BK bank) rfl rfl bp bd)) rfl)
  | none =>
    have f1' : m_fault_of [BK bank, HS hist] = .ok (.sh .non) := by
      have : faultD F = .non := by rw [hF]; rfl
      rw [f1]
      show Res.ok (RV.sh (faultD F)) = _
      rw [this]
    have reg := regular_ok n1 f1'
    have st := stays_eq hist hl hF
    have bx := box_ok b1 reg st
    refine seq_n (if_eq (b := false) (tst_eq (bin_eq rfl rfl rfl) rfl) rfl) ?_
    refine seq_n (set_eq (call_ow (cons_eq rfl rfl) ls)) ?_
    refine seq_n (setO_eq (borO_ok (xs := hist.map Row.d) rfl (callO_ow (cons_eq rfl (cons_eq rfl rfl)) bx) ss)) ?_
    refine seq_n (if_eq (borT_ok (xs := LS hist) rfl (same_not (d := .lst (LS hist)) rfl rfl sp sd)) rfl) ?_
    refine seq_n (app_ok (xs := LS hist) rfl (app_eq (cons_eq rfl (cons_eq rfl (cons_eq rfl (cons_eq rfl (cons_eq rfl rfl))))) (tup_ok _ (by simp))) (by have := LS_len hist; omega)) ?_
    refine seq_n (app_ok (xs := hist.map Row.d) rfl (app_eq (cons_eq rfl (cons_eq rfl (cons_eq rfl (cons_eq rfl rfl)))) (tup_ok _ (by simp))) (by rw [List.length_map]; omega)) ?_
    refine seq_n (if_eq (same_not (d := .lst (LS hist)) (call_ow (cons_eq rfl (cons_eq (own_eq (appO_eq (cons_eq rfl rfl) rfl)) rfl)) bx) rfl sp sd) rfl) ?_
    refine ret_eq (borE_ok (xs := hist.map Row.d ++ [.tup [.int 1000000, .int 29, .str "a", .str "out"]]) rfl (andV_yes (same_test (d := HS hist) ?_ rfl hp hd) (same_test (d := BK bank) rfl rfl bp bd)) rfl)
    show Res.ok (D.lst (cutG (hist.map Row.d ++ [.tup [.int 1000000, .int 29, .str "a", .str "out"]]) none (some (-1)))) = _
    rw [cut_init]
end K46

set_option maxRecDepth 100000
set_option maxHeartbeats 1000000
namespace K46
open PySem PL
/-! ## refused -/
theorem near_loop {a0 a1 a2 a3 a4 a6 a7 a8 a9 : Sl} : ∀ (xs : List D) (o : Sl), (∀ x ∈ xs, m_is_opening [x] = no) → ∃ o', forL (gN 5) B1__law_refused xs [a0, a1, a2, a3, a4, o, a6, a7, a8, a9] = .next [a0, a1, a2, a3, a4, o', a6, a7, a8, a9]
  | [], o, _ => ⟨o, rfl⟩
  | x :: xs, o, h => by
    obtain ⟨o', ih⟩ := near_loop (a0 := a0) (a1 := a1) (a2 := a2) (a3 := a3) (a4 := a4) (a6 := a6) (a7 := a7) (a8 := a8) (a9 := a9) xs (.sh x) fun y hy => h y (List.mem_cons_of_mem _ hy)
    refine ⟨o', ?_⟩
    rw [for_cons]
    show lpO _ (B1__law_refused [a0, a1, a2, a3, a4, .sh x, a6, a7, a8, a9]) = _
    have hb : B1__law_refused [a0, a1, a2, a3, a4, .sh x, a6, a7, a8, a9] = .next [a0, a1, a2, a3, a4, .sh x, a6, a7, a8, a9] :=
      if_eq (b := false) (tst_eq (bin_eq (call_sh (cons_eq rfl rfl) (h x List.mem_cons_self)) rfl rfl) rfl) rfl
    rw [hb, lp_next]
    exact ih
theorem good_loop {a0 a1 a2 a3 a4 a5 a7 a8 a9 : Sl} : ∀ (xs : List Row) (o : Sl), (∀ x ∈ xs, x.ok) → ∃ o', forL (gN 6) B2__law_refused (xs.map Row.d) [a0, a1, a2, a3, a4, a5, o, a7, a8, a9] = .next [a0, a1, a2, a3, a4, a5, o', a7, a8, a9]
  | [], o, _ => ⟨o, rfl⟩
  | x :: xs, o, h => by
    obtain ⟨o', ih⟩ := good_loop (a0 := a0) (a1 := a1) (a2 := a2) (a3 := a3) (a4 := a4) (a5 := a5) (a7 := a7) (a8 := a8) (a9 := a9) xs (.sh x.d) fun y hy => h y (List.mem_cons_of_mem _ hy)
    refine ⟨o', ?_⟩
    rw [List.map_cons, for_cons]
    show lpO _ (B2__law_refused [a0, a1, a2, a3, a4, a5, .sh x.d, a7, a8, a9]) = _
    have hb : B2__law_refused [a0, a1, a2, a3, a4, a5, .sh x.d, a7, a8, a9] = .next [a0, a1, a2, a3, a4, a5, .sh x.d, a7, a8, a9] :=
      if_eq (b := false) (tst_eq (bin_eq (call_sh (cons_eq rfl rfl) (op_row (h x List.mem_cons_self))) rfl rfl) rfl) rfl
    rw [hb, lp_next]
    exact ih
theorem cut_to (xs : List D) (k : Nat) : cutG xs none (some (k : Int)) = xs.take k := by
  unfold cutG
  rw [HT.sIx_none, HT.sIx_nat, List.drop_zero, Nat.sub_zero, List.take_eq_take_iff]
  omega
theorem cut_from (xs : List D) (k : Nat) (hk : 0 < k) : cutG xs (some (-(k : Int))) none = xs.drop (xs.length - k) := by
  unfold cutG
  have e1 : HT.sIx xs.length 0 (some (-(k : Int))) = xs.length - k := by
    show (if (-(k : Int)) < 0 then ((-(k : Int)) + (xs.length : Int)).toNat else min (-(k : Int)).toNat xs.length) = xs.length - k
    rw [if_pos (by omega)]
    omega
  rw [e1, HT.sIx_none, List.take_of_length_le (by rw [List.length_drop]; omega)]
theorem flat_len (n : Nat) (xs : List D) : (List.replicate n xs).flatten.length = n * xs.length := by
  induction n with
  | zero => simp
  | succ n ih => rw [List.replicate_succ, List.flatten_cons, List.length_append, ih, Nat.succ_mul]; omega
theorem or_no {f g : En → Res Bool} {ρ : En} (h : f ρ = .ok false) (h2 : g ρ = .ok false) : orB f g ρ = .ok false := by unfold orB; rw [h, bind_ok]; exact h2
theorem all_not {f : En → Res (List D)} {m : List D → Res RV} {ρ : En} {ds : List D} (h : f ρ = .ok ds) (hm : m ds = yes) : notB (tst truD (callE m f)) ρ = .ok false := not_eq (b := true) (tst_eq (call_sh h hm) rfl)
theorem refused_turn {bank : List Size} {wrong : D} {a1 a2 a3 a4 a5 a6 a8 : Sl} {i : Int} (hi : i = 0 ∨ i = 1) (hb : ∀ s ∈ bank, s.ok) (hbl : bank.length ≤ 30) :
    B3__law_refused [.sh (BK bank), a1, a2, a3, a4, a5, a6, .sh wrong, a8, .sh (.int i)] = .next [.sh (BK bank), a1, a2, a3, a4, a5, a6, .sh wrong, a8, .sh (.int i)] := by
  let bad : D := .tup [.int 1, .int 1, .int 0]
  have k1 : m_need_bank [.lst (cutG (bank.map Size.d ++ [bad]) (some (-(30 : Int))) none)] = .exc (.badValue (.str "bank")) := by
    have e : cutG (bank.map Size.d ++ [bad]) (some (-(30 : Int))) none = (bank.drop (bank.length + 1 - 30)).map Size.d ++ bad :: [] := by
      have := cut_from (bank.map Size.d ++ [bad]) 30 (by decide)
      rw [show ((30 : Nat) : Int) = (30 : Int) from rfl] at this
      rw [this, List.length_append, List.length_map]
      simp only [List.length_cons, List.length_nil]
      rw [List.drop_append_of_le_length (by rw [List.length_map]; omega), List.map_drop]
    rw [e]
    exact bank_bad _ bad [] (fun s hs => hb s (List.mem_of_mem_drop hs)) size_bad (by rw [List.length_drop]; simp only [List.length_nil]; omega)
  have k2 : m_need_bank [.lst (cutG ((List.replicate 31 (bank.map Size.d)).flatten ++ (List.replicate 31 [D.non]).flatten) none (some (31 : Int)))] = .exc (.tooMany (.int 30)) := by
    refine bank_many _ ?_
    have := cut_to ((List.replicate 31 (bank.map Size.d)).flatten ++ (List.replicate 31 [D.non]).flatten) 31
    rw [show ((31 : Nat) : Int) = (31 : Int) from rfl] at this
    rw [this, List.length_take, List.length_append, flat_len, flat_len]
    simp only [List.length_cons, List.length_nil]
    omega
  have dr : ∀ {b : D} {e : Exc}, isMV e → m_need_bank [b] = .exc e → m__law_door [.int i, b, wrong] = .ok (.sh (tell e)) := fun he h => by
    obtain ⟨x, y⟩ := bank_exc (h := wrong) h
    rcases hi with e | e <;> subst e
    · exact door0 he x
    · exact door1 he y
  have d1 := dr (e := .badValue (.str "bank")) trivial k1
  have d2 := dr (e := .tooMany (.int 30)) trivial k2
  unfold B3__law_refused
  have t3 : tupD [.int 1, .int 1, .int 0] = .ok bad := tup_ok _ (by simp)
  have l1 : lstD [bad] = .ok [bad] := lst_ok _ (by simp)
  have l2 : lstD [D.non] = .ok [.non] := lst_ok _ (by simp)
  have ad : addD (BK bank) (.lst [bad]) = .ok (.lst (bank.map Size.d ++ [bad])) := add_lst _ _ (by rw [List.length_map]; simp only [List.length_cons, List.length_nil]; omega)
  have m1 : mulD (BK bank) (.int 31) = .ok (.lst (List.replicate 31 (bank.map Size.d)).flatten) := mul_nat _ 31 (by decide) (by rw [List.length_map]; omega)
  have m2 : mulD (.lst [.non]) (.int 31) = .ok (.lst (List.replicate 31 [D.non]).flatten) := mul_nat _ 31 (by decide) (by simp only [List.length_cons, List.length_nil]; omega)
  have ad2 : addD (.lst (List.replicate 31 (bank.map Size.d)).flatten) (.lst (List.replicate 31 [D.non]).flatten) = .ok (.lst ((List.replicate 31 (bank.map Size.d)).flatten ++ (List.replicate 31 [D.non]).flatten)) := add_lst _ _ (by rw [flat_len, flat_len, List.length_map]; simp only [List.length_cons, List.length_nil]; omega)
  have q1 : sliceE (PL.bin addD (eVar 0) (PL.own (appO lstD (aCons (app tupD (aCons (eC (.int 1)) (aCons (eC (.int 1)) (aCons (eC (.int 0)) aNil)))) aNil)))) (pS (una negD (eC (.int 30)))) pN [.sh (BK bank), a1, a2, a3, a4, a5, a6, .sh wrong, a8, .sh (.int i)] = .ok (.lst (cutG (bank.map Size.d ++ [bad]) (some (-(30 : Int))) none)) := by
    unfold sliceE
    rw [bin_eq (x := BK bank) rfl (own_eq (appO_eq (cons_eq (app_eq (cons_eq rfl (cons_eq rfl (cons_eq rfl rfl))) t3) rfl) l1)) ad, bind_ok]
    rfl
  have q2 : sliceE (PL.bin addD (PL.bin mulD (eVar 0) (eC (.int 31))) (PL.bin mulD (PL.own (appO lstD (aCons (eC .non) aNil))) (eC (.int 31)))) pN (pS (eC (.int 31))) [.sh (BK bank), a1, a2, a3, a4, a5, a6, .sh wrong, a8, .sh (.int i)] = .ok (.lst (cutG ((List.replicate 31 (bank.map Size.d)).flatten ++ (List.replicate 31 [D.non]).flatten) none (some (31 : Int)))) := by
    unfold sliceE
    rw [bin_eq (bin_eq rfl rfl m1) (bin_eq (own_eq (appO_eq (cons_eq rfl rfl) l2)) rfl m2) ad2, bind_ok]
    rfl
  refine seq_n (if_same (d := tell (.badValue (.str "bank"))) (call_sh (cons_eq rfl (cons_eq q1 (cons_eq rfl rfl))) d1) (app_eq (cons_eq rfl (cons_eq rfl rfl)) (tup2 _ _)) (by decide +kernel) (by decide)) ?_
  exact if_same (d := tell (.tooMany (.int 30))) (call_sh (cons_eq rfl (cons_eq q2 (cons_eq rfl rfl))) d2) (app_eq (cons_eq rfl (cons_eq rfl rfl)) (tup2 _ _)) (by decide +kernel) (by decide)
theorem refused {bank : List Size} {hist : List Row} {place : Nat} {choice : Int} (hb : ∀ s ∈ bank, s.ok) (hbl : bank.length ≤ 30) (hh : ∀ r ∈ hist, r.ok) (hl : hist.length ≤ 60) (hp : place < hist.length) : m__law_refused [BK bank, HS hist, .int (place : Nat), .int choice] = yes := by
  have b1 := bank_ok bank hb hbl
  let r := hist[place]
  have hr : r.ok := hh _ (List.getElem_mem hp)
  have ix : ixD (HS hist) (.int (place : Nat)) = .ok r.d := by
    rw [ix_lst _ _ (by rw [List.length_map]; exact hp), List.getElem_map]
  have nb := near_bad hr
  have nl : (near r).length = 23 := rfl
  obtain ⟨o5, l5⟩ := near_loop (a0 := .sh (BK bank)) (a1 := .sh (HS hist)) (a2 := .sh (.int (place : Nat))) (a3 := .sh (.int choice)) (a4 := .sh (.lst (near r))) (a6 := .no) (a7 := .no) (a8 := .no) (a9 := .no) (near r) .no nb
  obtain ⟨o6, l6⟩ := good_loop (a0 := .sh (BK bank)) (a1 := .sh (HS hist)) (a2 := .sh (.int (place : Nat))) (a3 := .sh (.int choice)) (a4 := .sh (.lst (near r))) (a5 := o5) (a7 := .no) (a8 := .no) (a9 := .no) hist .no hh
  obtain ⟨j, hj⟩ := Int.eq_ofNat_of_zero_le (Int.emod_nonneg choice (by decide : (23 : Int) ≠ 0))
  have hj2 : j < 23 := by have := Int.emod_lt_of_pos choice (by decide : (0 : Int) < 23); omega
  let x := (near r)[j]'(by rw [nl]; exact hj2)
  have hx : m_is_opening [x] = no := nb _ (List.getElem_mem _)
  have pick : PL.bin ixD (eVar 4) (PL.bin modD (app intL (aCons (eVar 3) aNil)) (app lenL (aCons (eVar 4) aNil))) [.sh (BK bank), .sh (HS hist), .sh (.int (place : Nat)), .sh (.int choice), .sh (.lst (near r)), o5, o6, .ow (.lst (hist.map Row.d)), .no, .no] = .ok x := by
    refine bin_eq (y := .int (j : Nat)) rfl (bin_eq (x := .int choice) (y := .int 23) (app_eq (cons_eq rfl rfl) rfl) (app_eq (cons_eq rfl rfl) (by rw [len_lst, nl]; rfl)) ?_) (ix_lst _ _ (by rw [nl]; exact hj2))
    show gd _ (Res.ok (D.int (choice % 23))) = _
    rw [gd_pos (by decide), hj]
  let W := (hist.map Row.d).set place x
  have hW : W = (hist.take place).map Row.d ++ x :: (hist.drop (place + 1)).map Row.d := by
    show (hist.map Row.d).set place x = _
    rw [List.set_eq_take_append_cons_drop, if_pos (by rw [List.length_map]; exact hp), List.map_take, List.map_drop]
  have wl : W.length = hist.length := by show ((hist.map Row.d).set place x).length = _; rw [List.length_set, List.length_map]
  have w1 : m_need_history [.lst W] = .exc (.badValue (.str "history")) := by
    rw [hW]
    exact need_history_bad _ x _ (fun r hr => hh r (List.mem_of_mem_take hr)) hx (by rw [List.length_take, List.length_map, List.length_drop]; omega)
  have dW := doors_hist (e := .badValue (.str "history")) trivial b1 w1 (by decide +kernel) (by decide)
  have dT := doors_hist (e := .badValue (.str "history")) trivial b1 (need_history_no (hist.map Row.d)) (by decide +kernel) (by decide)
  let FU := (List.replicate 61 W).flatten.take 61
  have fl : FU.length = 61 := by
    show ((List.replicate 61 W).flatten.take 61).length = 61
    rw [List.length_take, flat_len, wl]; omega
  have dF := doors_hist (e := .tooMany (.int 60)) trivial b1 (need_history_many FU (by rw [fl]; decide)) (by decide +kernel) (by decide)
  have mW : mulD (.lst W) (.int 61) = .ok (.lst (List.replicate 61 W).flatten) := mul_nat _ 61 (by decide) (by rw [wl]; omega)
  have mH : mulD (HS hist) (.int 60) = .ok (.lst (List.replicate 60 (hist.map Row.d)).flatten) := mul_nat _ 60 (by decide) (by rw [List.length_map]; omega)
  have hm : (List.replicate 60 (hist.map Row.d)).flatten.take 60 = ((List.replicate 60 hist).flatten.take 60).map Row.d := by
    rw [List.map_take, List.map_flatten, List.map_replicate]
  have wk := walked (bank := bank) (hist := (List.replicate 60 hist).flatten.take 60) hb hbl (fun r hr => by
    have := List.mem_of_mem_take hr
    rw [List.mem_flatten] at this
    obtain ⟨l, h1, h2⟩ := this
    rw [List.mem_replicate] at h1
    rw [h1.2] at h2
    exact hh r h2) (by rw [List.length_take]; omega)
  have tv : ∀ a b : D, tupD [a, b] = .ok (.tup [a, b]) := tup2
  refine run_of (b := b__law_refused) (env := [.sh (BK bank), .sh (HS hist), .sh (.int (place : Nat)), .sh (.int choice), .no, .no, .no, .no, .no, .no]) (o := .ret (.sh (.bl true))) rfl ?_ rfl
  unfold b__law_refused
  refine seq_n (set_eq (call_sh (cons_eq (bin_eq rfl rfl ix) rfl) (near_eq hr))) (seq_n (for_eq (ds := near r) rfl l5) (seq_n (for_eq (ds := hist.map Row.d) rfl l6) (seq_n (setO_eq (appO_eq (cons_eq rfl rfl) rfl)) ?_)))
  refine seq_n (put_ok (xs := hist.map Row.d) (j := place) rfl pick rfl rfl (by rw [List.length_map]; exact hp)) ?_
  refine seq_n (if_eq (borT_ok (xs := W) rfl (all_not (cons_eq rfl (cons_eq rfl (cons_eq (app_eq (cons_eq rfl (cons_eq rfl rfl)) (tup2 _ _)) rfl))) dW)) rfl) ?_
  refine seq_n (if_eq (all_not (cons_eq rfl (cons_eq (app_eq (cons_eq rfl rfl) rfl) (cons_eq (app_eq (cons_eq rfl (cons_eq rfl rfl)) (tup2 _ _)) rfl))) dT) rfl) ?_
  show sSeq _ _ [.sh (BK bank), .sh (HS hist), .sh (.int (place : Nat)), .sh (.int choice), .sh (.lst (near r)), o5, o6, .sh (.lst W), .no, .no] = _
  have full : sliceE (PL.bin mulD (eVar 7) (eC (.int 61))) pN (pS (eC (.int 61))) [.sh (BK bank), .sh (HS hist), .sh (.int (place : Nat)), .sh (.int choice), .sh (.lst (near r)), o5, o6, .sh (.lst W), .no, .no] = .ok (.lst FU) := by
    unfold sliceE
    rw [bin_eq (x := .lst W) rfl rfl mW, bind_ok]
    show Res.ok (D.lst (cutG (List.replicate 61 W).flatten none (some ((61 : Nat) : Int)))) = _
    rw [cut_to]
  refine seq_n (set_eq full) ?_
  show sSeq _ _ [.sh (BK bank), .sh (HS hist), .sh (.int (place : Nat)), .sh (.int choice), .sh (.lst (near r)), o5, o6, .sh (.lst W), .sh (.lst FU), .no] = _
  have sixty : sliceE (PL.bin mulD (eVar 1) (eC (.int 60))) pN (pS (eC (.int 60))) [.sh (BK bank), .sh (HS hist), .sh (.int (place : Nat)), .sh (.int choice), .sh (.lst (near r)), o5, o6, .sh (.lst W), .sh (.lst FU), .no] = .ok (HS ((List.replicate 60 hist).flatten.take 60)) := by
    unfold sliceE
    rw [bin_eq (x := HS hist) rfl rfl mH, bind_ok]
    show Res.ok (D.lst (cutG (List.replicate 60 (hist.map Row.d)).flatten none (some ((60 : Nat) : Int)))) = _
    rw [cut_to, hm]
  refine seq_n (if_eq (or_no (all_not (cons_eq rfl (cons_eq rfl (cons_eq (app_eq (cons_eq rfl (cons_eq rfl rfl)) (tup2 _ _)) rfl))) dF) (all_not (cons_eq rfl (cons_eq sixty rfl)) wk)) rfl) ?_
  refine seq_n (for_eq (ds := [.int 0, .int 1]) (appO_eq (cons_eq rfl rfl) (rng1_nat 2 (by decide))) (o := .next [.sh (BK bank), .sh (HS hist), .sh (.int (place : Nat)), .sh (.int choice), .sh (.lst (near r)), o5, o6, .sh (.lst W), .sh (.lst FU), .sh (.int 1)]) ?_) rfl
  rw [for_cons]
  show lpO _ (B3__law_refused [.sh (BK bank), .sh (HS hist), .sh (.int (place : Nat)), .sh (.int choice), .sh (.lst (near r)), o5, o6, .sh (.lst W), .sh (.lst FU), .sh (.int 0)]) = _
  rw [refused_turn (.inl rfl) hb hbl, lp_next, for_cons]
  show lpO _ (B3__law_refused [.sh (BK bank), .sh (HS hist), .sh (.int (place : Nat)), .sh (.int choice), .sh (.lst (near r)), o5, o6, .sh (.lst W), .sh (.lst FU), .sh (.int 1)]) = _
  rw [refused_turn (.inr rfl) hb hbl, lp_next]
  rfl
end K46

set_option maxRecDepth 100000
set_option maxHeartbeats 1000000
namespace K46
open PySem PL
/-! ## what the law draws -/
theorem mod_int (a b : Int) (h : 0 < b) : modD (.int a) (.int b) = .ok (.int (a % b)) := gd_pos h
theorem fdiv_int (a b : Int) (h : 0 < b) (h2 : b < 18446744073709551616) : fdivD (.int a) (.int b) = .ok (.int (a / b)) := gd_pos ⟨h, h2⟩
theorem mul_int (a b : Int) (h : a.natAbs < 2 ^ 100) (h2 : b.natAbs < 2 ^ 100) : mulD (.int a) (.int b) = .ok (.int (a * b)) := by
  refine gd_pos ?_
  have x := PySem.Flt.log2_lt_of (by decide) h
  have y := PySem.Flt.log2_lt_of (by decide) h2
  omega
def Draws (n : Nat) (lim : Int) (xs : List Int) : Prop := xs.length = n ∧ ∀ x ∈ xs, 0 ≤ x ∧ x < lim
theorem row_loop1 {c m s5 : Sl} {lim : Int} (h0 : 0 < lim) (h1 : lim < 18446744073709551616) : ∀ (ks : List Nat) (rest : Int) (acc : List D) (o6 : Sl), acc.length + ks.length ≤ 100000 → ∃ xs rest' o6', Draws ks.length lim xs ∧
    forL (gN 6) B1__law_row (ks.map fun k => .int ((k : Nat) : Int)) [c, m, .sh (.int lim), .sh (.int rest), .ow (.lst acc), s5, o6] = .next [c, m, .sh (.int lim), .sh (.int rest'), .ow (.lst (acc ++ xs.map D.int)), s5, o6']
  | [], rest, acc, o6, _ => ⟨[], rest, o6, ⟨rfl, fun x hx => by cases hx⟩, by rw [List.map_nil, List.map_nil, List.append_nil]; rfl⟩
  | k :: ks, rest, acc, o6, hz => by
    simp only [List.length_cons] at hz
    obtain ⟨xs, rest', o6', ⟨hl, hx⟩, ih⟩ := row_loop1 (c := c) (m := m) (s5 := s5) h0 h1 ks (rest / lim) (acc ++ [.int (rest % lim)]) (.sh (.int (k : Nat))) (by simp only [List.length_append, List.length_cons, List.length_nil]; omega)
    refine ⟨rest % lim :: xs, rest', o6', ⟨by rw [List.length_cons, List.length_cons, hl], fun x h => ?_⟩, ?_⟩
    · rcases List.mem_cons.mp h with e | e
      · subst e; exact ⟨Int.emod_nonneg _ (by omega), Int.emod_lt_of_pos _ h0⟩
      · exact hx x e
    · rw [List.map_cons, for_cons]
      show lpO _ (B1__law_row [c, m, .sh (.int lim), .sh (.int rest), .ow (.lst acc), s5, .sh (.int (k : Nat))]) = _
      have hb : B1__law_row [c, m, .sh (.int lim), .sh (.int rest), .ow (.lst acc), s5, .sh (.int (k : Nat))] = .next [c, m, .sh (.int lim), .sh (.int (rest / lim)), .ow (.lst (acc ++ [.int (rest % lim)])), s5, .sh (.int (k : Nat))] :=
        seq_n (app_ok (xs := acc) rfl (bin_eq (x := .int rest) (app_eq (cons_eq rfl rfl) rfl) rfl (mod_int rest lim h0)) (by omega)) (set_eq (bin_eq rfl rfl (fdiv_int rest lim h0 h1)))
      rw [hb, lp_next, ih, List.append_assoc]
      rfl
theorem row_loop2 {c m : Sl} {lim rest : Int} (h0 : 0 < lim) (hr : 0 ≤ rest) (hr2 : rest < 1000000000000000000) : ∀ (ks : List Nat) (st : Int) (acc : List D) (o6 : Sl), (∀ k ∈ ks, k < 100000) → 0 ≤ st → st < 2147483648 → acc.length + ks.length ≤ 100000 → ∃ xs s5 o6', Draws ks.length lim xs ∧
    forL (gN 6) B2__law_row (ks.map fun k => .int ((k : Nat) : Int)) [c, m, .sh (.int lim), .sh (.int rest), .ow (.lst acc), .sh (.int st), o6] = .next [c, m, .sh (.int lim), .sh (.int rest), .ow (.lst (acc ++ xs.map D.int)), s5, o6']
  | [], st, acc, o6, _, _, _, _ => ⟨[], _, o6, ⟨rfl, fun x hx => by cases hx⟩, by rw [List.map_nil, List.map_nil, List.append_nil]; rfl⟩
  | k :: ks, st, acc, o6, hk, s0, s1, hz => by
    simp only [List.length_cons] at hz
    have hk0 := hk k List.mem_cons_self
    let st' : Int := (st * 69621 + (k : Nat) * 48271 + rest) % 2147483629
    have t0 : 0 ≤ st' := Int.emod_nonneg _ (by decide)
    have t1 : st' < 2147483629 := Int.emod_lt_of_pos _ (by decide)
    obtain ⟨xs, s5, o6', ⟨hl, hx⟩, ih⟩ := row_loop2 (c := c) (m := m) h0 hr hr2 ks st' (acc ++ [.int (st' / 7 % lim)]) (.sh (.int (k : Nat))) (fun x h => hk x (List.mem_cons_of_mem _ h)) t0 (by omega) (by simp only [List.length_append, List.length_cons, List.length_nil]; omega)
    refine ⟨st' / 7 % lim :: xs, s5, o6', ⟨by rw [List.length_cons, List.length_cons, hl], fun x h => ?_⟩, ?_⟩
    · rcases List.mem_cons.mp h with e | e
      · subst e; exact ⟨Int.emod_nonneg _ (by omega), Int.emod_lt_of_pos _ h0⟩
      · exact hx x e
    · rw [List.map_cons, for_cons]
      show lpO _ (B2__law_row [c, m, .sh (.int lim), .sh (.int rest), .ow (.lst acc), .sh (.int st), .sh (.int (k : Nat))]) = _
      have hb : B2__law_row [c, m, .sh (.int lim), .sh (.int rest), .ow (.lst acc), .sh (.int st), .sh (.int (k : Nat))] = .next [c, m, .sh (.int lim), .sh (.int rest), .ow (.lst (acc ++ [.int (st' / 7 % lim)])), .sh (.int st'), .sh (.int (k : Nat))] := by
        refine seq_n (set_eq (d := .int st') (bin_eq (x := .int (st * 69621 + (k : Nat) * 48271 + rest)) (app_eq (cons_eq (bin_eq (bin_eq (bin_eq rfl rfl (mul_int _ _ (by omega) (by decide))) (bin_eq rfl rfl (mul_int _ _ (by omega) (by decide))) rfl) rfl rfl) rfl) rfl) rfl (mod_int _ _ (by decide)))) ?_
        exact app_ok (xs := acc) rfl (bin_eq (x := .int (st' / 7)) (app_eq (cons_eq (bin_eq rfl rfl (fdiv_int _ _ (by decide) (by decide))) rfl) rfl) rfl (mod_int _ _ h0)) (by omega)
      rw [hb, lp_next, ih, List.append_assoc]
      rfl
theorem pow18 : powD (.int 10) (.int 18) = .ok (.int 1000000000000000000) := by
  show gd _ (Res.ok (D.int (10 ^ (18 : Int).toNat))) = _
  rw [gd_pos (by decide)]
  rw [show (10 : Int) ^ (18 : Int).toNat = 1000000000000000000 from by decide]
theorem draw (cell : Int) (n : Nat) (lim : Int) (hn : n ≤ 1000) (h0 : 0 < lim) (h1 : lim < 18446744073709551616) : ∃ xs, Draws n lim xs ∧ m__law_row [.int cell, .int (n : Nat), .int lim] = .ok (.ow (xs.map D.int)) := by
  let r : Int := if cell < 0 then -cell else cell
  have r0 : 0 ≤ r := by show 0 ≤ (if cell < 0 then -cell else cell); split <;> omega
  have rg := rng1_nat n (by omega)
  have p18 : ∀ ρ : En, PL.bin powD (eC (.int 10)) (eC (.int 18)) ρ = .ok (.int 1000000000000000000) := fun ρ => bin_eq rfl rfl pow18
  have en : [Sl.sh (.int cell), .sh (.int (n : Nat)), .sh (.int lim), .no, .no, .no, .no] = start0 7 [.int cell, .int (n : Nat), .int lim] := rfl
  by_cases hb : (1000000000000000000 : Int) ≤ r
  · obtain ⟨xs, rest', o6', hd, hf⟩ := row_loop1 (c := .sh (.int cell)) (m := .sh (.int (n : Nat))) (s5 := .no) h0 h1 (List.range n) (r - 1000000000000000000) [] .no (by rw [List.length_range]; simp only [List.length_nil]; omega)
    rw [List.length_range] at hd
    refine ⟨xs, hd, ?_⟩
    refine run_of (b := b__law_row) (env := [.sh (.int cell), .sh (.int (n : Nat)), .sh (.int lim), .no, .no, .no, .no]) (o := .ret (.ow (xs.map D.int))) rfl ?_ rfl
    unfold b__law_row
    refine seq_n (set_eq (d := .int r) (app_eq (cons_eq rfl rfl) rfl)) (seq_n (setO_eq (appO_eq rfl (lst_ok [] (by simp)))) ?_)
    show sSeq _ _ [.sh (.int cell), .sh (.int (n : Nat)), .sh (.int lim), .sh (.int r), .ow (.lst []), .no, .no] = _
    refine seq_ret (if_eq (b := true) (tst_eq (d := .bl true) (bin_eq (x := .int r) rfl (p18 _) (by show Res.ok (D.bl (decide ((1000000000000000000 : Int) ≤ r))) = _; rw [decide_eq_true hb])) rfl) ?_)
    rw [if_pos rfl]
    refine seq_n (set_eq (d := .int (r - 1000000000000000000)) (bin_eq rfl (p18 _) rfl)) ?_
    exact seq_n (for_eq (appO_eq (cons_eq rfl rfl) rg) hf) rfl
  · have st0 : 0 ≤ (r * 48271 + 11) % 2147483647 := Int.emod_nonneg _ (by decide)
    have st1 : (r * 48271 + 11) % 2147483647 < 2147483647 := Int.emod_lt_of_pos _ (by decide)
    obtain ⟨xs, s5, o6', hd, hf⟩ := row_loop2 (c := .sh (.int cell)) (m := .sh (.int (n : Nat))) (rest := r) h0 r0 (by omega) (List.range n) ((r * 48271 + 11) % 2147483647) [] .no (fun k hk => by have := List.mem_range.mp hk; omega) st0 (by omega) (by rw [List.length_range]; simp only [List.length_nil]; omega)
    rw [List.length_range] at hd
    refine ⟨xs, hd, ?_⟩
    refine run_of (b := b__law_row) (env := [.sh (.int cell), .sh (.int (n : Nat)), .sh (.int lim), .no, .no, .no, .no]) (o := .ret (.ow (xs.map D.int))) rfl ?_ rfl
    unfold b__law_row
    refine seq_n (set_eq (d := .int r) (app_eq (cons_eq rfl rfl) rfl)) (seq_n (setO_eq (appO_eq rfl (lst_ok [] (by simp)))) ?_)
    show sSeq _ _ [.sh (.int cell), .sh (.int (n : Nat)), .sh (.int lim), .sh (.int r), .ow (.lst []), .no, .no] = _
    refine seq_n (if_eq (b := false) (tst_eq (d := .bl false) (bin_eq (x := .int r) rfl (p18 _) (by show Res.ok (D.bl (decide ((1000000000000000000 : Int) ≤ r))) = _; rw [decide_eq_false hb])) rfl) rfl) ?_
    refine seq_n (set_eq (d := .int ((r * 48271 + 11) % 2147483647)) (bin_eq (x := .int (r * 48271 + 11)) (app_eq (cons_eq (bin_eq (bin_eq rfl rfl (mul_int r 48271 (by omega) (by decide))) rfl rfl) rfl) rfl) rfl (mod_int _ _ (by decide)))) ?_
    exact seq_n (for_eq (appO_eq (cons_eq rfl rfl) rg) hf) rfl
theorem cell_eq (ns : List Int) (k : Nat) : ∃ c : Int, m__law_cell [.scr ns, .int (k : Nat)] = .ok (.sh (.int c)) := by
  have ht : tst bOf (PL.bin ltD (eVar 1) (app lenL (aCons (eVar 0) aNil))) [.sh (.scr ns), .sh (.int (k : Nat))] = .ok (decide ((k : Int) < (ns.length : Nat))) := tst_eq (bin_eq rfl (app_eq (cons_eq rfl rfl) rfl) rfl) rfl
  by_cases h : k < ns.length
  · refine ⟨ns[k], run_of (b := b__law_cell) (env := [.sh (.scr ns), .sh (.int (k : Nat))]) (o := .ret (.sh (.int ns[k]))) rfl ?_ rfl⟩
    rw [decide_eq_true (by omega)] at ht
    have ix : ixD (.scr ns) (.int (k : Nat)) = .ok (.int ns[k]) := by
      show (match L2.atI ns (k : Nat) with | some d => Res.ok (D.int d) | none => .stuck) = _
      rw [atI_nat, List.getElem?_eq_getElem h]
    exact seq_ret (if_eq ht (ret_eq (app_eq (cons_eq (bin_eq rfl rfl ix) rfl) rfl)))
  · refine ⟨0, run_of (b := b__law_cell) (env := [.sh (.scr ns), .sh (.int (k : Nat))]) (o := .ret (.sh (.int 0))) rfl ?_ rfl⟩
    rw [decide_eq_false (by omega)] at ht
    exact seq_n (if_eq ht rfl) (ret_eq rfl)
theorem draw_get {n : Nat} {lim : Int} {xs : List Int} (h : Draws n lim xs) {k : Nat} (hk : k < n) : ∃ x, ixD (.lst (xs.map D.int)) (.int (k : Nat)) = .ok (.int x) ∧ 0 ≤ x ∧ x < lim := by
  have hk' : k < xs.length := by rw [h.1]; exact hk
  refine ⟨xs[k], ?_, h.2 _ (List.getElem_mem hk')⟩
  rw [ix_lst _ _ (by rw [List.length_map]; exact hk'), List.getElem_map]
theorem sizes_lc {c m : Sl} {n : Nat} {xs : List Int} (h : Draws (2 * n) 999 xs) : ∀ (ks : List Nat) (o : Sl), (∀ k ∈ ks, k < n) → n ≤ 100 → ∃ b : List Size, (∀ s ∈ b, s.ok) ∧ b.length = ks.length ∧ lcL 3 yesB E1__law_sizes (ks.map fun k => .int ((k : Nat) : Int)) [c, m, .sh (.lst (xs.map D.int)), o] = .ok (b.map Size.d)
  | [], o, _, _ => ⟨[], fun s hs => (by cases hs), rfl, rfl⟩
  | k :: ks, o, hk, hn => by
    obtain ⟨b, h1, h2, h3⟩ := sizes_lc (c := c) (m := m) h ks o (fun x hx => hk x (List.mem_cons_of_mem _ hx)) hn
    have hk0 := hk k List.mem_cons_self
    obtain ⟨x0, e0, l0, u0⟩ := draw_get h (k := 2 * k) (by omega)
    obtain ⟨x1, e1, l1, u1⟩ := draw_get h (k := 2 * k + 1) (by omega)
    obtain ⟨x2, e2, l2, u2⟩ := draw_get h (k := k) (by omega)
    have mk2 : mulD (.int 2) (.int (k : Nat)) = .ok (.int ((2 * k : Nat) : Int)) := by rw [mul_int _ _ (by decide) (by omega)]; congr 2
    refine ⟨(show Size from (1 + x0, 1 + x1, 1 + x2)) :: b, fun s hs => ?_, congrArg (· + 1) h2, ?_⟩
    · rcases List.mem_cons.mp hs with e | e
      · subst e; exact ⟨⟨by show 1 ≤ 1 + x0; omega, by show 1 + x0 ≤ 999; omega⟩, ⟨by show 1 ≤ 1 + x1; omega, by show 1 + x1 ≤ 999; omega⟩, ⟨by show 1 ≤ 1 + x2; omega, by show 1 + x2 ≤ 999; omega⟩⟩
      · exact h1 s e
    · rw [List.map_cons]
      refine lc_yes rfl ?_ h3
      exact app_eq (cons_eq (bin_eq rfl (bin_eq rfl (bin_eq rfl rfl mk2) e0) rfl) (cons_eq (bin_eq rfl (bin_eq rfl (bin_eq (bin_eq rfl rfl mk2) rfl (by show Res.ok (D.int (((2 * k : Nat) : Int) + 1)) = .ok (.int ((2 * k + 1 : Nat) : Int)); congr 2)) e1) rfl) (cons_eq (bin_eq rfl (bin_eq rfl rfl e2) rfl) rfl))) (tup_ok _ (by simp))
theorem sizes_eq (cell : Int) (n : Nat) (hn : n ≤ 30) : ∃ b : List Size, (∀ s ∈ b, s.ok) ∧ b.length = n ∧ m__law_sizes [.int cell, .int (n : Nat)] = .ok (.ow (b.map Size.d)) := by
  obtain ⟨xs, hd, hx⟩ := draw cell (2 * n) 999 (by omega) (by decide) (by decide)
  obtain ⟨b, h1, h2, h3⟩ := sizes_lc (c := .sh (.int cell)) (m := .sh (.int (n : Nat))) hd (List.range n) .no (fun k hk => List.mem_range.mp hk) (by omega)
  rw [List.length_range] at h2
  refine ⟨b, h1, h2, run_of (b := b__law_sizes) (env := [.sh (.int cell), .sh (.int (n : Nat)), .no, .no]) (o := .ret (.ow (b.map Size.d))) rfl ?_ rfl⟩
  have mk2 : mulD (.int 2) (.int (n : Nat)) = .ok (.int ((2 * n : Nat) : Int)) := by rw [mul_int _ _ (by decide) (by omega)]; congr 2
  refine seq_n (set_eq (call_ow (cons_eq rfl (cons_eq (bin_eq rfl rfl mk2) (cons_eq rfl rfl))) hx)) (retO_eq ?_)
  exact lce_eq (appO_eq (cons_eq rfl rfl) (rng1_nat n (by omega))) (by rw [List.length_map, List.length_range]; omega) h3
end K46

set_option maxRecDepth 100000
set_option maxHeartbeats 1000000
namespace K46
open PySem PL
/-! ## names -/
def lets : List Nat := [97, 98, 99, 100, 101, 102, 103, 104, 105, 106, 107, 108, 109, 110, 111, 112, 113, 114, 115, 116, 117, 118, 119, 120, 121, 122, 48, 49, 50, 51, 52, 53, 54, 55, 56, 57]
theorem lets_ok : ∀ i : Fin 36, (lett (lets[i.1]'i.2) || dgt (lets[i.1]'i.2)) = true ∧ (i.1 < 26 → lett (lets[i.1]'i.2) = true) := by decide
abbrev LET : D := .str "abcdefghijklmnopqrstuvwxyz0123456789"
theorem lets_ix {i : Int} (h0 : 0 ≤ i) (h : i < 36) : ∃ c, ixD LET (.int i) = .ok (.str (nm [c])) ∧ (lett c || dgt c) = true ∧ (i < 26 → lett c = true) := by
  obtain ⟨j, rfl⟩ := Int.eq_ofNat_of_zero_le h0
  have hj : j < 36 := by omega
  obtain ⟨h1, h2⟩ := lets_ok ⟨j, hj⟩
  refine ⟨lets[j]'hj, ?_, h1, fun z => h2 (by show j < 26; omega)⟩
  have e : ("abcdefghijklmnopqrstuvwxyz0123456789" : Str).cps.toList = lets := by decide +kernel
  show gd _ (match L2.atI ("abcdefghijklmnopqrstuvwxyz0123456789" : Str).cps.toList (j : Nat) with | some c => Res.ok (D.str ⟨#[c]⟩) | none => .stuck) = _
  rw [gd_pos (sz _ (by decide +kernel)), e, atI_nat, List.getElem?_eq_getElem hj]
  rfl
def Nq (p : List Nat) : Prop := ∃ c cs, p = c :: cs ∧ lett c = true ∧ ∀ x ∈ cs, (lett x || dgt x) = true
theorem nq_ok {p : List Nat} (h : Nq p) (hl : p.length ≤ 12) : nmOk p = true := by
  obtain ⟨c, cs, rfl, h1, h2⟩ := h
  show (lett c && cs.all (fun x => lett x || dgt x) && decide (cs.length ≤ 11)) = true
  simp only [List.length_cons] at hl
  rw [h1, List.all_eq_true.mpr h2, decide_eq_true (by omega)]
  rfl
theorem add_nm (p : List Nat) (c : Nat) (h : p.length ≤ 100) : addD (.str (nm p)) (.str (nm [c])) = .ok (.str (nm (p ++ [c]))) := by
  show gd _ (Res.ok (D.str (nm p ++ nm [c]))) = _
  rw [gd_pos (sz _ (by rw [nm_length, nm_length]; simp only [List.length_cons, List.length_nil]; omega)), nm_app]
theorem name_turns {a0 : Sl} : ∀ (ks : List Nat) (p : List Nat) (rest : Int) (o : Sl), Nq p → 0 ≤ rest → p.length + ks.length ≤ 12 → ∃ p' rest' o', Nq p' ∧ p'.length ≤ p.length + ks.length ∧
    forL (gN 4) B1__law_name (ks.map fun k => .int ((k : Nat) : Int)) [a0, .sh LET, .sh (.str (nm p)), .sh (.int rest), o] = .next [a0, .sh LET, .sh (.str (nm p')), .sh (.int rest'), o']
  | [], p, rest, o, h, _, _ => ⟨p, rest, o, h, Nat.le_refl _, rfl⟩
  | k :: ks, p, rest, o, h, hr, hl => by
    simp only [List.length_cons] at hl
    have ht : tst bOf (PL.bin gtD (eVar 3) (eC (.int 0))) [a0, .sh LET, .sh (.str (nm p)), .sh (.int rest), .sh (.int (k : Nat))] = .ok (decide (0 < rest)) := tst_eq (bin_eq rfl rfl rfl) rfl
    by_cases h0 : 0 < rest
    · rw [decide_eq_true h0] at ht
      obtain ⟨c, e1, e2, _⟩ := lets_ix (i := rest % 36) (Int.emod_nonneg _ (by decide)) (Int.emod_lt_of_pos _ (by decide))
      have hb : B1__law_name [a0, .sh LET, .sh (.str (nm p)), .sh (.int rest), .sh (.int (k : Nat))] = .next [a0, .sh LET, .sh (.str (nm (p ++ [c]))), .sh (.int (rest / 36)), .sh (.int (k : Nat))] := by
        refine if_eq ht ?_
        rw [if_pos rfl]
        refine seq_n (set_eq (d := .str (nm (p ++ [c]))) (bin_eq rfl (bin_eq rfl (bin_eq (x := .int rest) (app_eq (cons_eq rfl rfl) rfl) rfl (mod_int rest 36 (by decide))) e1) (add_nm p c (by omega)))) ?_
        exact set_eq (bin_eq rfl rfl (fdiv_int rest 36 (by decide) (by decide)))
      have hq : Nq (p ++ [c]) := by
        obtain ⟨c0, cs, rfl, h1, h2⟩ := h
        refine ⟨c0, cs ++ [c], rfl, h1, fun x hx => ?_⟩
        rcases List.mem_append.mp hx with z | z
        · exact h2 x z
        · rw [List.mem_singleton.mp z]; exact e2
      obtain ⟨p', rest', o', i1, i2, i3⟩ := name_turns (a0 := a0) ks (p ++ [c]) (rest / 36) (.sh (.int (k : Nat))) hq (by omega) (by simp only [List.length_append, List.length_cons, List.length_nil]; omega)
      refine ⟨p', rest', o', i1, by simp only [List.length_append, List.length_cons, List.length_nil] at i2 ⊢; omega, ?_⟩
      rw [List.map_cons, for_cons]
      show lpO _ (B1__law_name [a0, .sh LET, .sh (.str (nm p)), .sh (.int rest), .sh (.int (k : Nat))]) = _
      rw [hb, lp_next, i3]
    · rw [decide_eq_false h0] at ht
      obtain ⟨p', rest', o', i1, i2, i3⟩ := name_turns (a0 := a0) ks p rest (.sh (.int (k : Nat))) h hr (by omega)
      refine ⟨p', rest', o', i1, by simp only [List.length_cons]; omega, ?_⟩
      rw [List.map_cons, for_cons]
      show lpO _ (B1__law_name [a0, .sh LET, .sh (.str (nm p)), .sh (.int rest), .sh (.int (k : Nat))]) = _
      have hb : B1__law_name [a0, .sh LET, .sh (.str (nm p)), .sh (.int rest), .sh (.int (k : Nat))] = .next [a0, .sh LET, .sh (.str (nm p)), .sh (.int rest), .sh (.int (k : Nat))] := if_eq ht rfl
      rw [hb, lp_next, i3]
theorem name_eq {n : Int} (h0 : 0 ≤ n) : ∃ p, nmOk p = true ∧ m__law_name [.int n] = .ok (.sh (.str (nm p))) := by
  obtain ⟨c, e1, _, e3⟩ := lets_ix (i := n % 26) (Int.emod_nonneg _ (by decide)) (by have := Int.emod_lt_of_pos n (by decide : (0 : Int) < 26); omega)
  have hc := e3 (Int.emod_lt_of_pos _ (by decide))
  obtain ⟨p', rest', o', i1, i2, i3⟩ := name_turns (a0 := .sh (.int n)) (List.range 11) [c] (n / 26) .no ⟨c, [], rfl, hc, fun x hx => by cases hx⟩ (by omega) (by simp)
  refine ⟨p', nq_ok i1 (by simp at i2; omega), run_of (b := b__law_name) (env := [.sh (.int n), .no, .no, .no, .no]) (o := .ret (.sh (.str (nm p')))) rfl ?_ rfl⟩
  refine seq_n (set_eq (d := LET) rfl) ?_
  refine seq_n (set_eq (d := .str (nm [c])) (bin_eq rfl (bin_eq (x := .int n) (app_eq (cons_eq rfl rfl) rfl) rfl (mod_int n 26 (by decide))) e1)) ?_
  refine seq_n (set_eq (d := .int (n / 26)) (bin_eq rfl rfl (fdiv_int n 26 (by decide) (by decide)))) ?_
  exact seq_n (for_eq (appO_eq (cons_eq rfl rfl) (rng1_nat 11 (by decide))) i3) (ret_eq rfl)
/-! ## a regular history -/
theorem names_lc {a0 a1 a2 a3 a4 a5 a6 a7 a8 a9 a10 a11 a12 a13 : Sl} : ∀ (xs : List Int) (o : Sl), (∀ x ∈ xs, 0 ≤ x) → ∃ ps : List (List Nat), (∀ p ∈ ps, nmOk p = true) ∧ ps.length = xs.length ∧ lcL 14 yesB E1__law_regular (xs.map D.int) [a0, a1, a2, a3, a4, a5, a6, a7, a8, a9, a10, a11, a12, a13, o] = .ok (ps.map fun p => .str (nm p))
  | [], o, _ => ⟨[], fun p hp => (by cases hp), rfl, rfl⟩
  | x :: xs, o, h => by
    obtain ⟨ps, h1, h2, h3⟩ := names_lc (a0 := a0) (a1 := a1) (a2 := a2) (a3 := a3) (a4 := a4) (a5 := a5) (a6 := a6) (a7 := a7) (a8 := a8) (a9 := a9) (a10 := a10) (a11 := a11) (a12 := a12) (a13 := a13) xs o fun y hy => h y (List.mem_cons_of_mem _ hy)
    obtain ⟨p, i1, i2⟩ := name_eq (h x List.mem_cons_self)
    refine ⟨p :: ps, fun q hq => ?_, by rw [List.length_cons, List.length_cons, h2], ?_⟩
    · rcases List.mem_cons.mp hq with e | e
      · subst e; exact i1
      · exact h1 q e
    · rw [List.map_cons, List.map_cons]
      exact lc_yes rfl (call_sh (cons_eq rfl rfl) i2) h3
theorem modulus {xs : List Int} (h : Draws 8 5040 xs) : ∃ m : Int, 0 < m ∧ m ≤ 16000 ∧ ∀ a0 a1 a3 a4 a5 a6 a7 a8 a9 a10 a11 a12 a13 a14 : Sl, PL.bin ixD (PL.own (appO lstD (aCons (eC (.int 1)) (aCons (eC (.int 4)) (aCons (eC (.int 16000)) aNil))))) (PL.bin modD (app intL (aCons (PL.bin ixD (eVar 2) (eC (.int 4))) aNil)) (eC (.int 3))) [a0, a1, .sh (.lst (xs.map D.int)), a3, a4, a5, a6, a7, a8, a9, a10, a11, a12, a13, a14] = .ok (.int m) := by
  obtain ⟨x, e, l, u⟩ := draw_get h (k := 4) (by decide)
  have l3 : lstD [.int 1, .int 4, .int 16000] = .ok [.int 1, .int 4, .int 16000] := lst_ok _ (by simp)
  have go : ∀ (m : Int), ixD (.lst [.int 1, .int 4, .int 16000]) (.int (x % 3)) = .ok (.int m) → ∀ a0 a1 a3 a4 a5 a6 a7 a8 a9 a10 a11 a12 a13 a14 : Sl, PL.bin ixD (PL.own (appO lstD (aCons (eC (.int 1)) (aCons (eC (.int 4)) (aCons (eC (.int 16000)) aNil))))) (PL.bin modD (app intL (aCons (PL.bin ixD (eVar 2) (eC (.int 4))) aNil)) (eC (.int 3))) [a0, a1, .sh (.lst (xs.map D.int)), a3, a4, a5, a6, a7, a8, a9, a10, a11, a12, a13, a14] = .ok (.int m) := fun m hm a0 a1 a3 a4 a5 a6 a7 a8 a9 a10 a11 a12 a13 a14 =>
    bin_eq (own_eq (appO_eq (cons_eq rfl (cons_eq rfl (cons_eq rfl rfl))) l3)) (bin_eq (x := .int x) (app_eq (cons_eq (bin_eq rfl rfl e) rfl) rfl) rfl (mod_int x 3 (by decide))) hm
  have c0 := Int.emod_nonneg x (by decide : (3 : Int) ≠ 0)
  have c1 := Int.emod_lt_of_pos x (by decide : (0 : Int) < 3)
  rcases (by omega : x % 3 = 0 ∨ x % 3 = 1 ∨ x % 3 = 2) with z | z | z
  · exact ⟨1, by decide, by decide, go 1 (by rw [z]; rfl)⟩
  · exact ⟨4, by decide, by decide, go 4 (by rw [z]; rfl)⟩
  · exact ⟨16000, by decide, by decide, go 16000 (by rw [z]; rfl)⟩
theorem reg_loop {S : Sl} {B len : Nat} {sh st wh wo : List Int} {ps : List (List Nat)} (hB : B ≤ 30) (hsh : Draws 8 5040 sh) (hst : Draws len 16000 st) (hwh : Draws len 30 wh) (hwo : Draws len 4 wo) (hps : ∀ p ∈ ps, nmOk p = true) (hpl : ps.length = 4) (L : Sl) (o14 : Sl) :
    ∀ (ks : List Nat) (occ : List Bool) (time : Int) (rows : List Row) (o11 o12 o13 : Sl), (∀ k ∈ ks, k < len) → occ.length = 30 → 0 ≤ time → time ≤ 40060 + 15999 * (rows.length : Nat) → rows.length + ks.length ≤ 60 → (∀ r ∈ rows, r.ok) → ∃ (rows' : List Row) (p8 p9 p11 p12 p13 : Sl), (∀ r ∈ rows', r.ok) ∧ rows'.length = rows.length + ks.length ∧
    forL (gN 11) B1__law_regular (ks.map fun k => .int ((k : Nat) : Int)) [S, .sh (.int (B : Nat)), .sh (.lst (sh.map D.int)), L, .sh (.lst (st.map D.int)), .sh (.lst (wh.map D.int)), .sh (.lst (wo.map D.int)), .sh (.lst (ps.map fun p => .str (nm p))), .ow (.lst (occ.map D.bl)), .sh (.int time), .ow (.lst (rows.map Row.d)), o11, o12, o13, o14] =
      .next [S, .sh (.int (B : Nat)), .sh (.lst (sh.map D.int)), L, .sh (.lst (st.map D.int)), .sh (.lst (wh.map D.int)), .sh (.lst (wo.map D.int)), .sh (.lst (ps.map fun p => .str (nm p))), p8, p9, .ow (.lst (rows'.map Row.d)), p11, p12, p13, o14]
  | [], occ, time, rows, o11, o12, o13, _, _, _, _, _, hr => ⟨rows, _, _, _, _, _, hr, rfl, rfl⟩
  | k :: ks, occ, time, rows, o11, o12, o13, hk, ho, t0, t1, hn, hr => by
    simp only [List.length_cons] at hn
    have hk0 := hk k List.mem_cons_self
    obtain ⟨m, m0, m1, hm⟩ := modulus hsh
    obtain ⟨s, es, s0, s1⟩ := draw_get hst hk0
    obtain ⟨v, ev, v0, v1⟩ := draw_get hwh hk0
    obtain ⟨q, eq, q0, q1⟩ := draw_get hwo hk0
    have sm0 := Int.emod_nonneg s (by omega : m ≠ 0)
    have sm1 := Int.emod_lt_of_pos s m0
    let time' := time + s % m
    let M : Int := if (B : Int) > 1 then (B : Int) else 1
    have M0 : 0 < M := by show 0 < (if (B : Int) > 1 then (B : Int) else 1); split <;> omega
    have M1 : M ≤ 30 := by show (if (B : Int) > 1 then (B : Int) else 1) ≤ 30; split <;> omega
    have b0 := Int.emod_nonneg v (by omega : M ≠ 0)
    have b1 := Int.emod_lt_of_pos v M0
    obtain ⟨j, hj⟩ := Int.eq_ofNat_of_zero_le b0
    have hj30 : j < occ.length := by rw [ho]; omega
    obtain ⟨qn, hq⟩ := Int.eq_ofNat_of_zero_le q0
    have hq4 : qn < ps.length := by rw [hpl]; omega
    let w : Bool := !occ[j]
    let r : Row := ⟨time', v % M, ps[qn], w⟩
    have rok : r.ok := ⟨by show 0 ≤ time + s % m; omega, by show time + s % m ≤ 1000000; omega, b0, by show v % M ≤ 29; omega, hps _ (List.getElem_mem hq4)⟩
    let E := fun (o : List Bool) (t : Int) (h : List Row) (a11 a12 a13 : Sl) => ([S, .sh (.int (B : Nat)), .sh (.lst (sh.map D.int)), L, .sh (.lst (st.map D.int)), .sh (.lst (wh.map D.int)), .sh (.lst (wo.map D.int)), .sh (.lst (ps.map fun p => .str (nm p))), .ow (.lst (o.map D.bl)), .sh (.int t), .ow (.lst (h.map Row.d)), a11, a12, a13, o14] : En)
    have getocc : ∀ a13 : Sl, ixO 8 (eVar 12) (E occ time' rows (.sh (.int (k : Nat))) (.sh (.int (v % M))) a13) = .ok (.bl occ[j]) := fun a13 => by
      have hx : (occ.map D.bl)[j]'(by rw [List.length_map]; exact hj30) = .bl occ[j] := by rw [List.getElem_map]
      rw [ixO_ok (xs := occ.map D.bl) (j := j) rfl (by show Res.ok (D.int (v % M)) = _; rw [hj]) (by rw [List.length_map]; exact hj30), hx]
    have hb : B1__law_regular (E occ time rows (.sh (.int (k : Nat))) o12 o13) = .next (E (occ.set j w) time' (rows ++ [r]) (.sh (.int (k : Nat))) (.sh (.int (v % M))) (.sh (.str (way w)))) := by
      unfold B1__law_regular
      refine seq_n (ρ' := E occ time' rows (.sh (.int (k : Nat))) o12 o13) (set_eq (d := .int time') (bin_eq rfl (bin_eq (x := .int s) (app_eq (cons_eq (bin_eq rfl rfl es) rfl) rfl) (hm _ _ _ _ _ _ _ _ _ _ _ _ _ _) (mod_int s m m0)) rfl)) ?_
      refine seq_n (ρ' := E occ time' rows (.sh (.int (k : Nat))) (.sh (.int (v % M))) o13) (set_eq (d := .int (v % M)) (bin_eq (x := .int v) (y := .int M) (app_eq (cons_eq (bin_eq rfl rfl ev) rfl) rfl) (app_eq (cons_eq rfl (cons_eq rfl rfl)) rfl) (mod_int v M M0))) ?_
      refine seq_n (ρ' := E occ time' rows (.sh (.int (k : Nat))) (.sh (.int (v % M))) (.sh (.str "in"))) (set_eq rfl) ?_
      refine seq_n (ρ' := E occ time' rows (.sh (.int (k : Nat))) (.sh (.int (v % M))) (.sh (.str (way w)))) ?_ ?_
      · have ht : tst truD (ixO 8 (eVar 12)) (E occ time' rows (.sh (.int (k : Nat))) (.sh (.int (v % M))) (.sh (.str "in"))) = .ok occ[j] := tst_eq (getocc _) rfl
        have ww : w = !occ[j] := rfl
        refine if_eq ht ?_
        rw [ww]
        cases occ[j] <;> rfl
      · refine seq_n (ρ' := E (occ.set j w) time' rows (.sh (.int (k : Nat))) (.sh (.int (v % M))) (.sh (.str (way w)))) ?_ ?_
        · have e1 := put_ok (i := 8) (f := eVar 12) (g := notV (ixO 8 (eVar 12))) (ρ := E occ time' rows (.sh (.int (k : Nat))) (.sh (.int (v % M))) (.sh (.str (way w)))) (xs := occ.map D.bl) (d := .bl w) (n := .int (v % M)) (j := j) rfl (by unfold notV; rw [getocc, bind_ok]; rfl) rfl (by rw [hj]) (by rw [List.length_map]; exact hj30)
          rw [e1]
          have e2 : (occ.map D.bl).set j (.bl w) = (occ.set j w).map D.bl := by rw [List.map_set]
          rw [e2]
          rfl
        · have ixn : ixD (.lst (ps.map fun p => D.str (nm p))) (.int q) = .ok (.str (nm ps[qn])) := by
            rw [hq]
            show ixD (.lst (ps.map fun p => D.str (nm p))) (.int (qn : Nat)) = _
            rw [ix_lst _ _ (by rw [List.length_map]; exact hq4), List.getElem_map]
          have e1 := app_ok (i := 10) (f := app tupD (aCons (eVar 9) (aCons (eVar 12) (aCons (PL.bin ixD (eVar 7) (PL.bin ixD (eVar 6) (eVar 11))) (aCons (eVar 13) aNil))))) (ρ := E (occ.set j w) time' rows (.sh (.int (k : Nat))) (.sh (.int (v % M))) (.sh (.str (way w)))) (xs := rows.map Row.d) (d := r.d) rfl
            (app_eq (cons_eq rfl (cons_eq rfl (cons_eq (bin_eq rfl (bin_eq rfl rfl eq) ixn) (cons_eq rfl rfl)))) (tup_ok _ (by simp))) (by rw [List.length_map]; omega)
          rw [e1]
          have e2 : rows.map Row.d ++ [r.d] = (rows ++ [r]).map Row.d := by rw [List.map_append]; rfl
          rw [e2]
          rfl
    obtain ⟨rows', p8, p9, p11, p12, p13, i1, i2, i3⟩ := reg_loop (S := S) hB hsh hst hwh hwo hps hpl L o14 ks (occ.set j w) time' (rows ++ [r]) (.sh (.int (k : Nat))) (.sh (.int (v % M))) (.sh (.str (way w))) (fun x hx => hk x (List.mem_cons_of_mem _ hx)) (by rw [List.length_set]; exact ho) rok.1 (by
        show time + s % m ≤ _
        simp only [List.length_append, List.length_cons, List.length_nil]
        omega) (by simp only [List.length_append, List.length_cons, List.length_nil]; omega) (fun x hx => by
        rcases List.mem_append.mp hx with z | z
        · exact hr x z
        · rw [List.mem_singleton.mp z]; exact rok)
    refine ⟨rows', p8, p9, p11, p12, p13, i1, by rw [i2]; simp only [List.length_append, List.length_cons, List.length_nil]; omega, ?_⟩
    rw [List.map_cons, for_cons]
    show lpO _ (B1__law_regular (E occ time rows (.sh (.int (k : Nat))) o12 o13)) = _
    rw [hb, lp_next]
    exact i3
end K46

set_option maxRecDepth 100000
set_option maxHeartbeats 1000000
namespace K46
open PySem PL
theorem it_eq {f : En → Res D} {ρ : En} {d : D} {ds : List D} (h : f ρ = .ok d) (hs : seqOf d = .ok ds) : itE f ρ = .ok ds := by unfold itE; rw [h, bind_ok]; exact hs
theorem pow36 : powD (.int 36) (.int 11) = .ok (.int 131621703842267136) := by
  show gd _ (Res.ok (D.int (36 ^ (11 : Int).toNat))) = _
  rw [gd_pos (by decide)]
  rw [show (36 : Int) ^ (11 : Int).toNat = 131621703842267136 from by decide]
theorem regular_eq {ns : List Int} {B : Nat} {sh : List Int} (hB : B ≤ 30) (hsh : Draws 8 5040 sh) : ∃ rows : List Row, (∀ r ∈ rows, r.ok) ∧ rows.length ≤ 60 ∧ m__law_regular [.scr ns, .int (B : Nat), .lst (sh.map D.int)] = .ok (.ow (rows.map Row.d)) := by
  obtain ⟨x2, e2, l2, u2⟩ := draw_get hsh (k := 2) (by decide)
  obtain ⟨x3, e3, l3, u3⟩ := draw_get hsh (k := 3) (by decide)
  obtain ⟨x5, e5, l5, u5⟩ := draw_get hsh (k := 5) (by decide)
  have m0 := Int.emod_nonneg x2 (by decide : (13 : Int) ≠ 0)
  have m1 := Int.emod_lt_of_pos x2 (by decide : (0 : Int) < 13)
  obtain ⟨len, hlen, hl60⟩ : ∃ len : Nat, (if x3 % 3 = 0 then 48 + x2 % 13 else x2 % 13) = (len : Int) ∧ len ≤ 60 := by
    by_cases h : x3 % 3 = 0
    · rw [if_pos h]
      exact ⟨(48 + x2 % 13).toNat, by omega, by omega⟩
    · rw [if_neg h]
      exact ⟨(x2 % 13).toNat, by omega, by omega⟩
  obtain ⟨c2, hc2⟩ := cell_eq ns 2
  obtain ⟨c3, hc3⟩ := cell_eq ns 3
  obtain ⟨c4, hc4⟩ := cell_eq ns 4
  obtain ⟨c5, hc5⟩ := cell_eq ns 5
  obtain ⟨st, dst, est⟩ := draw c2 len 16000 (by omega) (by decide) (by decide)
  obtain ⟨wh, dwh, ewh⟩ := draw c3 len 30 (by omega) (by decide) (by decide)
  obtain ⟨wo, dwo, ewo⟩ := draw c4 len 4 (by omega) (by decide) (by decide)
  obtain ⟨ng, dng, eng⟩ := draw c5 4 3422164299898945536 (by decide) (by decide) (by decide)
  let S : Sl := .sh (.scr ns)
  let Bd : Sl := .sh (.int (B : Nat))
  let SH : Sl := .sh (.lst (sh.map D.int))
  let L : Sl := .sh (.int (len : Nat))
  obtain ⟨ps, hps, hpl, hlc⟩ := names_lc (a0 := S) (a1 := Bd) (a2 := SH) (a3 := L) (a4 := .sh (.lst (st.map D.int))) (a5 := .sh (.lst (wh.map D.int))) (a6 := .sh (.lst (wo.map D.int))) (a7 := .no) (a8 := .no) (a9 := .no) (a10 := .no) (a11 := .no) (a12 := .no) (a13 := .no) ng .no fun x hx => (dng.2 x hx).1
  have t0 := Int.emod_nonneg x5 (by decide : (40061 : Int) ≠ 0)
  have t1 := Int.emod_lt_of_pos x5 (by decide : (0 : Int) < 40061)
  obtain ⟨rows, p8, p9, p11, p12, p13, i1, i2, i3⟩ := reg_loop (S := S) (B := B) hB hsh dst dwh dwo hps (by rw [hpl]; exact dng.1) L .no (List.range len) (List.replicate 30 false) (x5 % 40061) [] .no .no .no (fun k hk => List.mem_range.mp hk) (by simp) t0 (by simp only [List.length_nil]; omega) (by rw [List.length_range]; simp only [List.length_nil]; omega) (fun r hr => by cases hr)
  refine ⟨rows, i1, by rw [i2, List.length_range]; simp only [List.length_nil]; omega, run_of (b := b__law_regular) (env := [S, Bd, SH, .no, .no, .no, .no, .no, .no, .no, .no, .no, .no, .no, .no]) (o := .ret (.ow (rows.map Row.d))) rfl ?_ rfl⟩
  unfold b__law_regular
  refine seq_n (set_eq (d := .int (x2 % 13)) (bin_eq (x := .int x2) (app_eq (cons_eq (bin_eq rfl rfl e2) rfl) rfl) rfl (mod_int x2 13 (by decide)))) ?_
  refine seq_n (ρ' := [S, Bd, SH, L, .no, .no, .no, .no, .no, .no, .no, .no, .no, .no, .no]) ?_ ?_
  · have ht : tst bOf (PL.bin eqD (PL.bin modD (app intL (aCons (PL.bin ixD (eVar 2) (eC (.int 3))) aNil)) (eC (.int 3))) (eC (.int 0))) [S, Bd, SH, .sh (.int (x2 % 13)), .no, .no, .no, .no, .no, .no, .no, .no, .no, .no, .no] = .ok (decide (x3 % 3 = 0)) :=
      tst_eq (bin_eq (bin_eq (x := .int x3) (app_eq (cons_eq (bin_eq rfl rfl e3) rfl) rfl) rfl (mod_int x3 3 (by decide))) rfl (eq_int _ _)) rfl
    refine if_eq ht ?_
    by_cases h : x3 % 3 = 0
    · rw [decide_eq_true h, if_pos rfl]
      rw [if_pos h] at hlen
      exact set_eq (d := .int (len : Nat)) (bin_eq rfl rfl (by show Res.ok (D.int (48 + x2 % 13)) = _; rw [hlen]))
    · rw [decide_eq_false h, if_neg (by decide)]
      rw [if_neg h] at hlen
      show Out.next [S, Bd, SH, .sh (.int (x2 % 13)), .no, .no, .no, .no, .no, .no, .no, .no, .no, .no, .no] = _
      rw [hlen]
  · have cl : ∀ {k : Nat} {c : Int} {a4 a5 a6 : Sl}, m__law_cell [.scr ns, .int (k : Nat)] = .ok (.sh (.int c)) → callE m__law_cell (aCons (eVar 0) (aCons (eC (.int (k : Nat))) aNil)) [S, Bd, SH, L, a4, a5, a6, .no, .no, .no, .no, .no, .no, .no, .no] = .ok (.int c) := fun h => call_sh (cons_eq rfl (cons_eq rfl rfl)) h
    refine seq_n (set_eq (call_ow (cons_eq (cl hc2) (cons_eq rfl (cons_eq rfl rfl))) est)) ?_
    refine seq_n (set_eq (call_ow (cons_eq (cl hc3) (cons_eq rfl (cons_eq rfl rfl))) ewh)) ?_
    refine seq_n (set_eq (call_ow (cons_eq (cl hc4) (cons_eq rfl (cons_eq rfl rfl))) ewo)) ?_
    have lim : ∀ ρ : En, PL.bin mulD (eC (.int 26)) (PL.bin powD (eC (.int 36)) (eC (.int 11))) ρ = .ok (.int 3422164299898945536) := fun ρ => bin_eq rfl (bin_eq rfl rfl pow36) (mul_int _ _ (by decide) (by decide))
    refine seq_n (set_eq (d := .lst (ps.map fun p => .str (nm p))) (own_eq (lce_eq (ds := ng.map D.int) ?_ (by rw [List.length_map, dng.1]; decide) hlc))) ?_
    · exact it_eq (call_ow (cons_eq (cl hc5) (cons_eq rfl (cons_eq (lim _) rfl))) eng) rfl
    · have hr : repO (.lst [.bl false]) (.int 30) = .ok ((List.replicate 30 false).map D.bl) := by
        show repO (.lst [.bl false]) (.int ((30 : Nat) : Int)) = _
        rw [rep_nat _ _ (by decide) (by decide), rep_one, List.map_replicate]
      refine seq_n (setO_eq (binO_eq (own_eq (appO_eq (cons_eq rfl rfl) (lst_ok _ (by simp)))) rfl hr)) ?_
      refine seq_n (set_eq (d := .int (x5 % 40061)) (bin_eq (x := .int x5) (app_eq (cons_eq (bin_eq rfl rfl e5) rfl) rfl) rfl (mod_int x5 40061 (by decide)))) ?_
      refine seq_n (setO_eq (appO_eq rfl (lst_ok [] (by simp)))) ?_
      exact seq_n (for_eq (appO_eq (cons_eq rfl rfl) (rng1_nat len (by omega))) i3) rfl
/-! ## changed -/
theorem ways_ix (w : Bool) : ixD (.lst [.str "in", .str "out"]) (.int (if w then 1 else 0)) = .ok (.str (way (!w))) := by cases w <;> rfl
theorem set_rows {rows : List Row} {at_ : Nat} {r : Row} (h : ∀ x ∈ rows, x.ok) (hr : r.ok) : ∀ x ∈ rows.set at_ r, x.ok := fun x hx => by
  rcases List.mem_or_eq_of_mem_set hx with e | e
  · exact h x e
  · subst e; exact hr
theorem if_way {ρ : En} {x c : Int} {F : En → Out} (hx : ρ[6]? = some (.sh (.int x))) : sIf (tst bOf (PL.bin eqD (eVar 6) (eC (.int c)))) F sNext ρ = if x = c then F ρ else .next ρ := by
  have : tst bOf (PL.bin eqD (eVar 6) (eC (.int c))) ρ = .ok (decide (x = c)) := tst_eq (bin_eq (show eVar 6 ρ = .ok (.int x) by unfold eVar; rw [hx]) rfl (eq_int _ _)) rfl
  refine if_eq this ?_
  by_cases h : x = c
  · rw [decide_eq_true h, if_pos h, if_pos rfl]
  · rw [decide_eq_false h, if_neg h, if_neg (by decide)]; rfl
theorem map_erase {α β : Type} (f : α → β) : ∀ (l : List α) (n : Nat), (l.map f).eraseIdx n = (l.eraseIdx n).map f
  | [], _ => rfl
  | x :: l, 0 => rfl
  | x :: l, n + 1 => by
    show f x :: (l.map f).eraseIdx n = f x :: (l.eraseIdx n).map f
    rw [map_erase f l n]
theorem changed_turn {H C : Sl} {B : Nat} {num : List Int} {rows : List Row} {t : Nat} {o6 o7 o8 o9 o10 : Sl} (hnum : Draws 8 5040 num) (ht : t < 2) (hrows : ∀ r ∈ rows, r.ok) (hl : rows.length ≤ 60) : ∃ (rows' : List Row) (p6 p7 p8 p9 p10 : Sl), (∀ r ∈ rows', r.ok) ∧ rows'.length ≤ 60 ∧
    (B1__law_changed [H, C, .sh (.int (B : Nat)), .sh (.lst (num.map D.int)), .ow (.lst (rows.map Row.d)), .sh (.int (t : Nat)), o6, o7, o8, o9, o10] = .ret (.ow (rows'.map Row.d)) ∨
     B1__law_changed [H, C, .sh (.int (B : Nat)), .sh (.lst (num.map D.int)), .ow (.lst (rows.map Row.d)), .sh (.int (t : Nat)), o6, o7, o8, o9, o10] = .next [H, C, .sh (.int (B : Nat)), .sh (.lst (num.map D.int)), .ow (.lst (rows'.map Row.d)), .sh (.int (t : Nat)), p6, p7, p8, p9, p10]) := by
  let E := fun (rs : List Row) (a6 a7 a8 a9 a10 : Sl) => ([H, C, .sh (.int (B : Nat)), .sh (.lst (num.map D.int)), .ow (.lst (rs.map Row.d)), .sh (.int (t : Nat)), a6, a7, a8, a9, a10] : En)
  have blen : ∀ a6 a7 a8 a9 a10 : Sl, app lenL (aCons (eVar 4) aNil) ((E rows a6 a7 a8 a9 a10).set 4 (.sh (.lst (rows.map Row.d)))) = .ok (.int (rows.length : Nat)) := fun a6 a7 a8 a9 a10 => app_eq (cons_eq rfl rfl) (by rw [len_lst, List.length_map])
  have htest : borT 4 (tst bOf (PL.bin eqD (app lenL (aCons (eVar 4) aNil)) (eC (.int 0)))) (E rows o6 o7 o8 o9 o10) = .ok (decide (((rows.length : Nat) : Int) = 0)) := borT_ok (xs := rows.map Row.d) rfl (tst_eq (bin_eq (blen _ _ _ _ _) rfl (eq_int _ _)) rfl)
  unfold B1__law_changed
  by_cases h0 : rows.length = 0
  · rw [decide_eq_true (by omega)] at htest
    exact ⟨rows, o6, o7, o8, o9, o10, hrows, hl, .inl (seq_ret (if_eq htest rfl))⟩
  · rw [decide_eq_false (by omega)] at htest
    have hpos : 0 < rows.length := Nat.pos_of_ne_zero h0
    have mk4 : mulD (.int 4) (.int (t : Nat)) = .ok (.int ((4 * t : Nat) : Int)) := by rw [mul_int _ _ (by decide) (by omega)]; congr 2
    obtain ⟨y0, e0, l0, u0⟩ := draw_get hnum (k := 4 * t) (by omega)
    obtain ⟨y1, e1, l1, u1⟩ := draw_get hnum (k := 4 * t + 1) (by omega)
    obtain ⟨y2, e2, l2, u2⟩ := draw_get hnum (k := 4 * t + 2) (by omega)
    obtain ⟨y3, e3, l3, u3⟩ := draw_get hnum (k := 4 * t + 3) (by omega)
    have plus : ∀ k : Nat, addD (.int ((4 * t : Nat) : Int)) (.int (k : Nat)) = .ok (.int ((4 * t + k : Nat) : Int)) := fun k => by
      show Res.ok (D.int (((4 * t : Nat) : Int) + (k : Nat))) = _
      congr 2
    have lpos : (0 : Int) < (rows.length : Nat) := by omega
    obtain ⟨ia, ha⟩ := Int.eq_ofNat_of_zero_le (Int.emod_nonneg y1 (by omega : ((rows.length : Nat) : Int) ≠ 0))
    have ha2 : ia < rows.length := by have := Int.emod_lt_of_pos y1 lpos; omega
    obtain ⟨ib, hb⟩ := Int.eq_ofNat_of_zero_le (Int.emod_nonneg y2 (by omega : ((rows.length : Nat) : Int) ≠ 0))
    have hb2 : ib < rows.length := by have := Int.emod_lt_of_pos y2 lpos; omega
    let W := y0 % 8
    let mo := y3 % 3
    have mo0 : 0 ≤ mo := Int.emod_nonneg _ (by decide)
    have mo1 : mo < 3 := Int.emod_lt_of_pos _ (by decide)
    let r := rows[ia]
    have rok : r.ok := hrows _ (List.getElem_mem ha2)
    let F := fun (rs : List Row) => E rs (.sh (.int W)) (.sh (.int (ia : Nat))) (.sh (.int (ib : Nat))) (.sh (.int mo)) (.sh r.d)
    have start : ∀ (g : En → Out) (o : Out), g (F rows) = o → sSeq (sIf (borT 4 (tst bOf (PL.bin eqD (app lenL (aCons (eVar 4) aNil)) (eC (.int 0))))) (sRetV 4) sNext) (sSeq (sSet 6 (PL.bin modD (app intL (aCons (PL.bin ixD (eVar 3) (PL.bin mulD (eC (.int 4)) (eVar 5))) aNil)) (eC (.int 8)))) (sSeq (sSet 7 (borE 4 (PL.bin modD (app intL (aCons (PL.bin ixD (eVar 3) (PL.bin addD (PL.bin mulD (eC (.int 4)) (eVar 5)) (eC (.int 1)))) aNil)) (app lenL (aCons (eVar 4) aNil))))) (sSeq (sSet 8 (borE 4 (PL.bin modD (app intL (aCons (PL.bin ixD (eVar 3) (PL.bin addD (PL.bin mulD (eC (.int 4)) (eVar 5)) (eC (.int 2)))) aNil)) (app lenL (aCons (eVar 4) aNil))))) (sSeq (sSet 9 (PL.bin modD (app intL (aCons (PL.bin ixD (eVar 3) (PL.bin addD (PL.bin mulD (eC (.int 4)) (eVar 5)) (eC (.int 3)))) aNil)) (eC (.int 3)))) (sSeq (sSet 10 (ixO 4 (eVar 7))) g))))) (E rows o6 o7 o8 o9 o10) = o := fun g o hg => by
      refine seq_n (ρ' := E rows o6 o7 o8 o9 o10) (if_eq htest rfl) ?_
      refine seq_n (ρ' := E rows (.sh (.int W)) o7 o8 o9 o10) (set_eq (d := .int W) (bin_eq (x := .int y0) (app_eq (cons_eq (bin_eq rfl (bin_eq rfl rfl mk4) e0) rfl) rfl) rfl (mod_int y0 8 (by decide)))) ?_
      refine seq_n (ρ' := E rows (.sh (.int W)) (.sh (.int (ia : Nat))) o8 o9 o10) (set_eq (d := .int (ia : Nat)) (borE_ok (xs := rows.map Row.d) rfl (bin_eq (x := .int y1) (app_eq (cons_eq (bin_eq rfl (bin_eq (bin_eq rfl rfl mk4) rfl (plus 1)) e1) rfl) rfl) (blen _ _ _ _ _) (by rw [mod_int y1 _ lpos, ha])) rfl)) ?_
      refine seq_n (ρ' := E rows (.sh (.int W)) (.sh (.int (ia : Nat))) (.sh (.int (ib : Nat))) o9 o10) (set_eq (d := .int (ib : Nat)) (borE_ok (xs := rows.map Row.d) rfl (bin_eq (x := .int y2) (app_eq (cons_eq (bin_eq rfl (bin_eq (bin_eq rfl rfl mk4) rfl (plus 2)) e2) rfl) rfl) (blen _ _ _ _ _) (by rw [mod_int y2 _ lpos, hb])) rfl)) ?_
      refine seq_n (ρ' := E rows (.sh (.int W)) (.sh (.int (ia : Nat))) (.sh (.int (ib : Nat))) (.sh (.int mo)) o10) (set_eq (d := .int mo) (bin_eq (x := .int y3) (app_eq (cons_eq (bin_eq rfl (bin_eq (bin_eq rfl rfl mk4) rfl (plus 3)) e3) rfl) rfl) rfl (mod_int y3 3 (by decide)))) ?_
      have gx : (rows.map Row.d)[ia]'(by rw [List.length_map]; exact ha2) = r.d := by rw [List.getElem_map]
      refine seq_n (ρ' := F rows) (set_eq (d := r.d) (by rw [ixO_ok (xs := rows.map Row.d) (j := ia) rfl rfl (by rw [List.length_map]; exact ha2), gx])) hg
    have putr : ∀ (rs : List Row) (g : En → Res D) (q : Row), rs.length = rows.length → g (F rs) = .ok q.d → sPut 4 (eVar 7) g (F rs) = .next (F (rs.set ia q)) := fun rs g q hlen hg => by
      rw [put_ok (xs := rs.map Row.d) (j := ia) rfl hg rfl rfl (by rw [List.length_map]; omega)]
      have : (rs.map Row.d).set ia q.d = (rs.set ia q).map Row.d := by rw [List.map_set]
      rw [this]
      rfl
    have s3 : ∀ rs : List Row, rs.length = rows.length → (∀ x ∈ rs, x.ok) → ∃ rs' : List Row, rs'.length = rows.length ∧ (∀ x ∈ rs', x.ok) ∧ sIf (tst bOf (PL.bin eqD (eVar 6) (eC (.int 3)))) (sPut 4 (eVar 7) (PL.bin addD (sliceE (eVar 10) pN (pS (eC (.int 3)))) (app tupD (aCons (PL.bin ixD (PL.own (appO lstD (aCons (eC (.str "in")) (aCons (eC (.str "out")) aNil)))) (app intL (aCons (PL.bin eqD (PL.bin ixD (eVar 10) (eC (.int 3))) (eC (.str "in"))) aNil))) aNil)))) sNext (F rs) = .next (F rs') := fun rs hlen hok => by
      rw [if_way (x := W) rfl]
      by_cases h : W = 3
      · rw [if_pos h]
        refine ⟨rs.set ia { r with w := !r.w }, by rw [List.length_set, hlen], set_rows hok rok, putr rs _ { r with w := !r.w } hlen ?_⟩
        exact bin_eq (x := .tup [.int r.t, .int r.b, .str (nm r.p)]) rfl (app_eq (cons_eq (bin_eq (own_eq (appO_eq (cons_eq rfl (cons_eq rfl rfl)) (lst_ok _ (by simp)))) (app_eq (cons_eq (bin_eq (bin_eq rfl rfl (row_ix3 r)) rfl (eq_way_in r.w)) rfl) rfl) (ways_ix r.w)) rfl) (tup_ok _ (by simp))) (add_tup _ _ (by simp))
      · rw [if_neg h]
        exact ⟨rs, hlen, hok, rfl⟩
    have s4 : ∀ rs : List Row, rs.length = rows.length → (∀ x ∈ rs, x.ok) → ∃ rs' : List Row, rs'.length = rows.length ∧ (∀ x ∈ rs', x.ok) ∧ sIf (tst bOf (PL.bin eqD (eVar 6) (eC (.int 4)))) (sPut 4 (eVar 7) (PL.bin addD (app tupD (aCons (app max2L (aCons (eC (.int 0)) (aCons (PL.bin subD (PL.bin subD (PL.bin ixD (eVar 10) (eC (.int 0))) (eC (.int 1))) (eVar 9)) aNil))) aNil)) (sliceE (eVar 10) (pS (eC (.int 1))) pN))) sNext (F rs) = .next (F rs') := fun rs hlen hok => by
      rw [if_way (x := W) rfl]
      by_cases h : W = 4
      · rw [if_pos h]
        let z : Int := if r.t - 1 - mo > 0 then r.t - 1 - mo else 0
        have zok : ({ r with t := z } : Row).ok := by
          have h1 := rok.1
          have h2 := rok.2.1
          refine ⟨?_, ?_, rok.2.2⟩
          · show 0 ≤ (if r.t - 1 - mo > 0 then r.t - 1 - mo else 0)
            split <;> omega
          · show (if r.t - 1 - mo > 0 then r.t - 1 - mo else 0) ≤ 1000000
            split <;> omega
        refine ⟨rs.set ia { r with t := z }, by rw [List.length_set, hlen], set_rows hok zok, putr rs _ { r with t := z } hlen ?_⟩
        exact bin_eq (y := .tup [.int r.b, .str (nm r.p), .str (way r.w)]) (app_eq (cons_eq (app_eq (cons_eq rfl (cons_eq (bin_eq (bin_eq (bin_eq rfl rfl (row_ix0 r)) rfl rfl) rfl rfl) rfl)) rfl) rfl) (tup_ok _ (by simp))) rfl (add_tup _ _ (by simp))
      · rw [if_neg h]
        exact ⟨rs, hlen, hok, rfl⟩
    have s5 : ∀ rs : List Row, rs.length = rows.length → (∀ x ∈ rs, x.ok) → ∃ rs' : List Row, rs'.length = rows.length ∧ (∀ x ∈ rs', x.ok) ∧ sIf (tst bOf (PL.bin eqD (eVar 6) (eC (.int 5)))) (sPut 4 (eVar 7) (PL.bin addD (app tupD (aCons (PL.bin ixD (eVar 10) (eC (.int 0))) (aCons (app min2L (aCons (eC (.int 29)) (aCons (PL.bin addD (eVar 2) (eVar 9)) aNil))) aNil))) (sliceE (eVar 10) (pS (eC (.int 2))) pN))) sNext (F rs) = .next (F rs') := fun rs hlen hok => by
      rw [if_way (x := W) rfl]
      by_cases h : W = 5
      · rw [if_pos h]
        let z : Int := if (B : Int) + mo < 29 then (B : Int) + mo else 29
        have zok : ({ r with b := z } : Row).ok := by
          refine ⟨rok.1, rok.2.1, ?_, ?_, rok.2.2.2.2⟩
          · show 0 ≤ (if (B : Int) + mo < 29 then (B : Int) + mo else 29)
            split <;> omega
          · show (if (B : Int) + mo < 29 then (B : Int) + mo else 29) ≤ 29
            split <;> omega
        refine ⟨rs.set ia { r with b := z }, by rw [List.length_set, hlen], set_rows hok zok, putr rs _ { r with b := z } hlen ?_⟩
        exact bin_eq (y := .tup [.str (nm r.p), .str (way r.w)]) (app_eq (cons_eq (bin_eq rfl rfl (row_ix0 r)) (cons_eq (app_eq (cons_eq rfl (cons_eq (bin_eq rfl rfl rfl) rfl)) rfl) rfl)) (tup_ok _ (by simp))) rfl (add_tup _ _ (by simp))
      · rw [if_neg h]
        exact ⟨rs, hlen, hok, rfl⟩
    have s6 : ∀ rs : List Row, rs.length = rows.length → (∀ x ∈ rs, x.ok) → ∃ rs' : List Row, rs'.length = rows.length ∧ (∀ x ∈ rs', x.ok) ∧ sIf (tst bOf (PL.bin eqD (eVar 6) (eC (.int 6)))) (sSeq (sPut 4 (eVar 7) (ixO 4 (eVar 8))) (sPut 4 (eVar 8) (eVar 10))) sNext (F rs) = .next (F rs') := fun rs hlen hok => by
      rw [if_way (x := W) rfl]
      by_cases h : W = 6
      · rw [if_pos h]
        have hib : ib < rs.length := by omega
        have h1 : ∀ x ∈ rs.set ia rs[ib], x.ok := set_rows hok (hok _ (List.getElem_mem hib))
        refine ⟨(rs.set ia rs[ib]).set ib r, by rw [List.length_set, List.length_set, hlen], set_rows h1 rok, ?_⟩
        have gx : (rs.map Row.d)[ib]'(by rw [List.length_map]; exact hib) = (rs[ib]).d := by rw [List.getElem_map]
        refine seq_n (putr rs _ rs[ib] hlen (by rw [ixO_ok (xs := rs.map Row.d) (j := ib) rfl rfl (by rw [List.length_map]; exact hib), gx])) ?_
        rw [put_ok (xs := (rs.set ia rs[ib]).map Row.d) (j := ib) (d := r.d) rfl rfl rfl rfl (by rw [List.length_map, List.length_set]; exact hib)]
        have : ((rs.set ia rs[ib]).map Row.d).set ib r.d = ((rs.set ia rs[ib]).set ib r).map Row.d := by simp only [List.map_set]
        rw [this]
        rfl
      · rw [if_neg h]
        exact ⟨rs, hlen, hok, rfl⟩
    have s7 : ∀ rs : List Row, rs.length = rows.length → (∀ x ∈ rs, x.ok) → ∃ rs' : List Row, rs'.length ≤ 60 ∧ (∀ x ∈ rs', x.ok) ∧ sIf (tst bOf (PL.bin eqD (eVar 6) (eC (.int 7)))) (sPopAt 4 (eVar 7)) sNext (F rs) = .next (F rs') := fun rs hlen hok => by
      rw [if_way (x := W) rfl]
      by_cases h : W = 7
      · rw [if_pos h]
        refine ⟨rs.eraseIdx ia, by rw [List.length_eraseIdx]; split <;> omega, fun x hx => hok x (List.mem_of_mem_eraseIdx hx), ?_⟩
        have pa : popAt (rs.map Row.d) (.int (ia : Nat)) = .ok ((rs.eraseIdx ia).map Row.d) := by
          show gd (0 ≤ ((ia : Nat) : Int) ∧ ((ia : Nat) : Int) < (rs.map Row.d).length ∧ (rs.map Row.d).length < 2 ^ 62) (Res.ok ((rs.map Row.d).eraseIdx ((ia : Nat) : Int).toNat)) = _
          rw [gd_pos ⟨by omega, by rw [List.length_map]; omega, by rw [List.length_map]; omega⟩, Int.toNat_natCast, map_erase]
        unfold sPopAt
        show ofR _ (Res.ok (rs.map Row.d)) _ = _
        rw [ofR_ok]
        show ofR _ (Res.ok (D.int (ia : Nat))) _ = _
        rw [ofR_ok, pa, ofR_ok]
        rfl
      · rw [if_neg h]
        exact ⟨rs, by omega, hok, rfl⟩
    obtain ⟨r3, n3, k3, q3⟩ := s3 rows rfl hrows
    obtain ⟨r4, n4, k4, q4⟩ := s4 r3 n3 k3
    obtain ⟨r5, n5, k5, q5⟩ := s5 r4 n4 k4
    obtain ⟨r6, n6, k6, q6⟩ := s6 r5 n5 k5
    obtain ⟨r7, n7, k7, q7⟩ := s7 r6 n6 k6
    exact ⟨r7, _, _, _, _, _, k7, n7, .inr (start _ _ (seq_n q3 (seq_n q4 (seq_n q5 (seq_n q6 q7)))))⟩
theorem changed_eq {B : Nat} {c : Int} {rows : List Row} (hrows : ∀ r ∈ rows, r.ok) (hl : rows.length ≤ 60) : ∃ rows' : List Row, (∀ r ∈ rows', r.ok) ∧ rows'.length ≤ 60 ∧ m__law_changed [.lst (rows.map Row.d), .int c, .int (B : Nat)] = .ok (.ow (rows'.map Row.d)) := by
  obtain ⟨num, dn, en⟩ := draw c 8 5040 (by decide) (by decide) (by decide)
  let H : Sl := .sh (.lst (rows.map Row.d))
  let C : Sl := .sh (.int c)
  have pre : ∀ (o : Out), forL (gN 5) B1__law_changed [.int ((0 : Nat) : Int), .int ((1 : Nat) : Int)] [H, C, .sh (.int (B : Nat)), .sh (.lst (num.map D.int)), .ow (.lst (rows.map Row.d)), .no, .no, .no, .no, .no, .no] = o → b__law_changed [H, C, .sh (.int (B : Nat)), .no, .no, .no, .no, .no, .no, .no, .no] = (match o with | .next ρ' => sRetV 4 ρ' | o => o) := fun o ho => by
    refine seq_n (set_eq (call_ow (cons_eq rfl (cons_eq rfl (cons_eq rfl rfl))) en)) (seq_n (setO_eq (appO_eq (cons_eq rfl rfl) rfl)) ?_)
    have hf := for_eq (t := gN 5) (b := B1__law_changed) (it := appO rng1 (aCons (eC (.int 2)) aNil)) (ρ := [H, C, .sh (.int (B : Nat)), .sh (.lst (num.map D.int)), .ow (.lst (rows.map Row.d)), .no, .no, .no, .no, .no, .no]) (appO_eq (cons_eq rfl rfl) (rng1_nat 2 (by decide))) ho
    show (match sFor (appO rng1 (aCons (eC (.int 2)) aNil)) (gN 5) B1__law_changed [H, C, .sh (.int (B : Nat)), .sh (.lst (num.map D.int)), .ow (.lst (rows.map Row.d)), .no, .no, .no, .no, .no, .no] with | .next ρ' => sRetV 4 ρ' | o => o) = _
    rw [hf]
  obtain ⟨r1, p6, p7, p8, p9, p10, k1, n1, q1⟩ := changed_turn (H := H) (C := C) (B := B) (t := 0) (o6 := .no) (o7 := .no) (o8 := .no) (o9 := .no) (o10 := .no) dn (by decide) hrows hl
  rcases q1 with q1 | q1
  · refine ⟨r1, k1, n1, run_of (b := b__law_changed) (env := [H, C, .sh (.int (B : Nat)), .no, .no, .no, .no, .no, .no, .no, .no]) (o := .ret (.ow (r1.map Row.d))) rfl ?_ rfl⟩
    refine (pre (.ret (.ow (r1.map Row.d))) ?_).trans rfl
    rw [for_cons]
    show lpO _ (B1__law_changed [H, C, .sh (.int (B : Nat)), .sh (.lst (num.map D.int)), .ow (.lst (rows.map Row.d)), .sh (.int ((0 : Nat) : Int)), .no, .no, .no, .no, .no]) = _
    rw [q1, lp_ret]
  · obtain ⟨r2, s6, s7, s8, s9, s10, k2, n2, q2⟩ := changed_turn (H := H) (C := C) (B := B) (t := 1) (o6 := p6) (o7 := p7) (o8 := p8) (o9 := p9) (o10 := p10) dn (by decide) k1 n1
    refine ⟨r2, k2, n2, run_of (b := b__law_changed) (env := [H, C, .sh (.int (B : Nat)), .no, .no, .no, .no, .no, .no, .no, .no]) (o := .ret (.ow (r2.map Row.d))) rfl ?_ rfl⟩
    rcases q2 with q2 | q2
    · refine (pre (.ret (.ow (r2.map Row.d))) ?_).trans rfl
      rw [for_cons]
      show lpO _ (B1__law_changed [H, C, .sh (.int (B : Nat)), .sh (.lst (num.map D.int)), .ow (.lst (rows.map Row.d)), .sh (.int ((0 : Nat) : Int)), .no, .no, .no, .no, .no]) = _
      rw [q1, lp_next, for_cons]
      show lpO _ (B1__law_changed [H, C, .sh (.int (B : Nat)), .sh (.lst (num.map D.int)), .ow (.lst (r1.map Row.d)), .sh (.int ((1 : Nat) : Int)), p6, p7, p8, p9, p10]) = _
      rw [q2, lp_ret]
    · refine (pre (.next [H, C, .sh (.int (B : Nat)), .sh (.lst (num.map D.int)), .ow (.lst (r2.map Row.d)), .sh (.int ((1 : Nat) : Int)), s6, s7, s8, s9, s10]) ?_).trans rfl
      rw [for_cons]
      show lpO _ (B1__law_changed [H, C, .sh (.int (B : Nat)), .sh (.lst (num.map D.int)), .ow (.lst (rows.map Row.d)), .sh (.int ((0 : Nat) : Int)), .no, .no, .no, .no, .no]) = _
      rw [q1, lp_next, for_cons]
      show lpO _ (B1__law_changed [H, C, .sh (.int (B : Nat)), .sh (.lst (num.map D.int)), .ow (.lst (r1.map Row.d)), .sh (.int ((1 : Nat) : Int)), p6, p7, p8, p9, p10]) = _
      rw [q2, lp_next]
      rfl
end K46

set_option maxRecDepth 100000
set_option maxHeartbeats 1000000
namespace K46
open PySem PL
theorem open1 : m_is_opening [.tup [.int 0, .int 0, .str "a", .str "in"]] = yes := by
  have e : ("a" : Str) = nm [97] := by decide +kernel
  rw [e]
  exact op_row (r := ⟨0, 0, [97], true⟩) ⟨by decide, by decide, by decide, by decide, by decide⟩
theorem open2 : m_is_opening [.tup [.int 1000000, .int 29, .str "abcdefghijk9", .str "out"]] = yes := by
  have e : ("abcdefghijk9" : Str) = nm [97, 98, 99, 100, 101, 102, 103, 104, 105, 106, 107, 57] := by decide +kernel
  rw [e]
  exact op_row (r := ⟨1000000, 29, [97, 98, 99, 100, 101, 102, 103, 104, 105, 106, 107, 57], false⟩) ⟨by decide, by decide, by decide, by decide, by decide⟩
theorem isNot_yes {f : En → Res D} {ρ : En} (h : f ρ = .ok (.bl true)) : tst bOf (PL.bin isNotD f (eC (.bl true))) ρ = .ok false := tst_eq (bin_eq h rfl rfl) rfl
theorem law_true (ns : List Int) (hns : ns.length ≤ 63) : m_law [.scr ns] = .ok (.sh (.bl true)) := by
  obtain ⟨c0, hc0⟩ := cell_eq ns 0
  obtain ⟨c1, hc1⟩ := cell_eq ns 1
  obtain ⟨c6, hc6⟩ := cell_eq ns 6
  obtain ⟨sh, dsh, esh⟩ := draw c0 8 5040 (by decide) (by decide) (by decide)
  obtain ⟨x0, e0, l0, u0⟩ := draw_get dsh (k := 0) (by decide)
  obtain ⟨x1, e1, l1, u1⟩ := draw_get dsh (k := 1) (by decide)
  obtain ⟨x6, e6, l6, u6⟩ := draw_get dsh (k := 6) (by decide)
  obtain ⟨x7, e7, l7, u7⟩ := draw_get dsh (k := 7) (by decide)
  have a0 := Int.emod_nonneg x0 (by decide : (5 : Int) ≠ 0)
  have a1 := Int.emod_lt_of_pos x0 (by decide : (0 : Int) < 5)
  have a2 := Int.emod_nonneg x0 (by decide : (31 : Int) ≠ 0)
  have a3 := Int.emod_lt_of_pos x0 (by decide : (0 : Int) < 31)
  obtain ⟨B, hB, hB30⟩ : ∃ B : Nat, (if x1 % 4 = 0 then x0 % 31 else x0 % 5) = (B : Int) ∧ B ≤ 30 := by
    by_cases h : x1 % 4 = 0
    · rw [if_pos h]
      exact ⟨(x0 % 31).toNat, by omega, by omega⟩
    · rw [if_neg h]
      exact ⟨(x0 % 5).toNat, by omega, by omega⟩
  obtain ⟨bank, bok, blen, eb⟩ := sizes_eq c1 B hB30
  obtain ⟨rows, rok, rl, er⟩ := regular_eq (ns := ns) hB30 dsh
  obtain ⟨hist, hok, hl, eh⟩ := changed_eq (B := B) (c := c6) rok rl
  have wk := walked bok (by omega) hok hl
  let S : Sl := .sh (.scr ns)
  let SH : Sl := .sh (.lst (sh.map D.int))
  have cl : ∀ {k : Nat} {c : Int} {b1 b2 b3 b4 : Sl}, m__law_cell [.scr ns, .int (k : Nat)] = .ok (.sh (.int c)) → callE m__law_cell (aCons (eVar 0) (aCons (eC (.int (k : Nat))) aNil)) [S, b1, b2, b3, b4] = .ok (.int c) := fun h => call_sh (cons_eq rfl (cons_eq rfl rfl)) h
  refine run_of (b := b_law) (env := [S, .no, .no, .no, .no]) (o := .ret (.sh (.bl true))) rfl ?_ rfl
  unfold b_law
  refine seq_n (ρ' := [S, SH, .no, .no, .no]) (set_eq (call_ow (cons_eq (cl hc0) (cons_eq rfl (cons_eq rfl rfl))) esh)) ?_
  refine seq_n (ρ' := [S, SH, .sh (.int (x0 % 5)), .no, .no]) (set_eq (d := .int (x0 % 5)) (bin_eq (x := .int x0) (app_eq (cons_eq (bin_eq rfl rfl e0) rfl) rfl) rfl (mod_int x0 5 (by decide)))) ?_
  refine seq_n (ρ' := [S, SH, .sh (.int (B : Nat)), .no, .no]) ?_ ?_
  · have ht : tst bOf (PL.bin eqD (PL.bin modD (app intL (aCons (PL.bin ixD (eVar 1) (eC (.int 1))) aNil)) (eC (.int 4))) (eC (.int 0))) [S, SH, .sh (.int (x0 % 5)), .no, .no] = .ok (decide (x1 % 4 = 0)) :=
      tst_eq (bin_eq (bin_eq (x := .int x1) (app_eq (cons_eq (bin_eq rfl rfl e1) rfl) rfl) rfl (mod_int x1 4 (by decide))) rfl (eq_int _ _)) rfl
    refine if_eq ht ?_
    by_cases h : x1 % 4 = 0
    · rw [decide_eq_true h, if_pos rfl]
      rw [if_pos h] at hB
      exact set_eq (d := .int (B : Nat)) (bin_eq (x := .int x0) (app_eq (cons_eq (bin_eq rfl rfl e0) rfl) rfl) rfl (by rw [mod_int x0 31 (by decide), hB]))
    · rw [decide_eq_false h, if_neg (by decide)]
      rw [if_neg h] at hB
      show Out.next [S, SH, .sh (.int (x0 % 5)), .no, .no] = _
      rw [hB]
  refine seq_n (ρ' := [S, SH, .sh (.int (B : Nat)), .sh (BK bank), .no]) (set_eq (call_ow (cons_eq (cl hc1) (cons_eq rfl rfl)) eb)) ?_
  refine seq_n (ρ' := [S, SH, .sh (.int (B : Nat)), .sh (BK bank), .sh (HS hist)]) (set_eq (call_ow (cons_eq (call_ow (cons_eq rfl (cons_eq rfl (cons_eq rfl rfl))) er) (cons_eq (cl hc6) (cons_eq rfl rfl))) eh)) ?_
  refine seq_n (ρ' := [S, SH, .sh (.int (B : Nat)), .sh (BK bank), .sh (HS hist)]) (if_eq (all_not (cons_eq rfl (cons_eq rfl rfl)) wk) rfl) ?_
  refine seq_n (ρ' := [S, SH, .sh (.int (B : Nat)), .sh (BK bank), .sh (HS hist)]) (if_eq (or_no (isNot_yes (call_sh (cons_eq (app_eq (cons_eq rfl (cons_eq rfl (cons_eq rfl (cons_eq rfl rfl)))) (tup_ok _ (by simp))) rfl) open1)) (isNot_yes (call_sh (cons_eq (app_eq (cons_eq rfl (cons_eq rfl (cons_eq rfl (cons_eq rfl rfl)))) (tup_ok _ (by simp))) rfl) open2))) rfl) ?_
  have ll : lenL [HS hist] = .ok (.int (hist.length : Nat)) := by rw [len_lst, List.length_map]
  have ht : tst bOf (PL.bin eqD (app lenL (aCons (eVar 4) aNil)) (eC (.int 0))) [S, SH, .sh (.int (B : Nat)), .sh (BK bank), .sh (HS hist)] = .ok (decide (((hist.length : Nat) : Int) = 0)) := tst_eq (bin_eq (app_eq (cons_eq rfl rfl) ll) rfl (eq_int _ _)) rfl
  by_cases h0 : hist.length = 0
  · rw [decide_eq_true (by omega)] at ht
    refine seq_ret (if_eq ht ?_)
    rw [if_pos rfl]
    have b1 := bank_ok bank bok (by omega)
    have dT := doors_hist (e := .badValue (.str "history")) trivial b1 (need_history_no []) (by decide +kernel) (by decide)
    exact ret_eq (call_sh (cons_eq rfl (cons_eq (app_eq rfl (tup_ok [] (by simp))) (cons_eq (app_eq (cons_eq rfl (cons_eq rfl rfl)) (tup2 _ _)) rfl))) dT)
  · rw [decide_eq_false (by omega)] at ht
    refine seq_n (ρ' := [S, SH, .sh (.int (B : Nat)), .sh (BK bank), .sh (HS hist)]) (if_eq ht rfl) ?_
    have lpos : (0 : Int) < (hist.length : Nat) := by omega
    obtain ⟨pl, hp⟩ := Int.eq_ofNat_of_zero_le (Int.emod_nonneg x6 (by omega : ((hist.length : Nat) : Int) ≠ 0))
    have hp2 : pl < hist.length := by have := Int.emod_lt_of_pos x6 lpos; omega
    have rf := refused (choice := x7) bok (by omega) hok hl hp2
    exact ret_eq (call_sh (cons_eq rfl (cons_eq rfl (cons_eq (bin_eq (x := .int x6) (app_eq (cons_eq (bin_eq rfl rfl e6) rfl) rfl) (app_eq (cons_eq rfl rfl) ll) (by rw [mod_int x6 _ lpos, hp])) (cons_eq (bin_eq rfl rfl e7) rfl)))) rf)
end K46

set_option maxRecDepth 100000
set_option maxHeartbeats 4000000
namespace K46
open PySem PySem.Spec PyProof.Rows L2 PL
abbrev PW : Program := PySem.Challenge.pw_parcelbank_k46_faults_and_box_stays
abbrev topS (i : Nat) : Stmt := PW.main.body.getD i (.Pass ⟨0, 0, 0, 0⟩)
/-- what the top has left -/
structure XA where
  BadValue : Addr
  TooMany : Addr
variable {w : World} {K : PySem.W.Frag} {mg : Str → Option Value} {base : Heap} {XS : XA}
structure Fc (w : World) (K : PySem.W.Frag) (mg : Str → Option Value) (base : Heap) (XS : XA) : Prop where
  n_abs : mg "abs" = none
  n_bool : mg "bool" = none
  n_int : mg "int" = none
  n_isinstance : mg "isinstance" = none
  n_len : mg "len" = none
  n_list : mg "list" = none
  n_max : mg "max" = none
  n_min : mg "min" = none
  n_range : mg "range" = none
  n_str : mg "str" = none
  n_tuple : mg "tuple" = none
  c_DIGITS : ∃ t, mg "DIGITS" = some (.str "0123456789" t)
  c_LAST_BOX : ∃ t, mg "LAST_BOX" = some (.int 29 t)
  c_LATEST : ∃ t, mg "LATEST" = some (.int 1000000 t)
  c_LETTERS : ∃ t, mg "LETTERS" = some (.str "abcdefghijklmnopqrstuvwxyz" t)
  c_LONGEST : ∃ t, mg "LONGEST" = some (.int 999 t)
  c_MOST_BOXES : ∃ t, mg "MOST_BOXES" = some (.int 30 t)
  c_MOST_OPENINGS : ∃ t, mg "MOST_OPENINGS" = some (.int 60 t)
  c_WAYS : ∃ p, mg "WAYS" = some (.ref p) ∧ ∀ G, Rep K G (.ref p) (.tup [(.str "in"), (.str "out")])
  f__law_row : Fx PW K mg "_law_row" "_law_row" (topS 37) ["cell", "many", "limit"]
  f__law_sizes : Fx PW K mg "_law_sizes" "_law_sizes" (topS 40) ["cell", "many"]
  f__law_changed : Fx PW K mg "_law_changed" "_law_changed" (topS 42) ["history", "cell", "boxes"]
  f__law_nearly : Fx PW K mg "_law_nearly" "_law_nearly" (topS 45) ["opening"]
  f__law_same : Fx PW K mg "_law_same" "_law_same" (topS 38) ["actual", "due"]
  f_need_list : Fx PW K mg "need_list" "need_list" (topS 8) ["value", "limit", "what"]
  f_is_integer : Fx PW K mg "is_integer" "is_integer" (topS 6) ["value"]
  f_in_range : Fx PW K mg "in_range" "in_range" (topS 7) ["value", "low", "high"]
  f_is_size : Fx PW K mg "is_size" "is_size" (topS 11) ["value"]
  f_need_sizes : Fx PW K mg "need_sizes" "need_sizes" (topS 14) ["value", "limit", "what"]
  f_need_bank : Fx PW K mg "need_bank" "need_bank" (topS 15) ["value"]
  f_is_time : Fx PW K mg "is_time" "is_time" (topS 20) ["value"]
  f_is_name : Fx PW K mg "is_name" "is_name" (topS 19) ["value"]
  f_is_opening : Fx PW K mg "is_opening" "is_opening" (topS 25) ["value"]
  f_need_history : Fx PW K mg "need_history" "need_history" (topS 26) ["value"]
  f_fault_of : Fx PW K mg "fault_of" "fault_of" (topS 27) ["bank", "history"]
  f_fault : Fx PW K mg "fault" "fault" (topS 28) ["bank", "history"]
  f_need_regular : Fx PW K mg "need_regular" "need_regular" (topS 30) ["bank", "history"]
  f_stays_from : Fx PW K mg "stays_from" "stays_from" (topS 29) ["history"]
  f_box_stays : Fx PW K mg "box_stays" "box_stays" (topS 31) ["bank", "history"]
  f_format_history : Fx PW K mg "format_history" "format_history" (topS 32) ["history"]
  f_day_of : Fx PW K mg "day_of" "day_of" (topS 34) ["history"]
  f__law_door : Fx PW K mg "_law_door" "_law_door" (topS 46) ["way", "bank", "history"]
  f__law_all_doors : Fx PW K mg "_law_all_doors" "_law_all_doors" (topS 47) ["bank", "history", "due"]
  f__law_fault : Fx PW K mg "_law_fault" "_law_fault" (topS 43) ["boxes", "history"]
  f__law_stays : Fx PW K mg "_law_stays" "_law_stays" (topS 44) ["history"]
  f__law_walked : Fx PW K mg "_law_walked" "_law_walked" (topS 48) ["bank", "history"]
  f__law_refused : Fx PW K mg "_law_refused" "_law_refused" (topS 49) ["bank", "history", "place", "choice"]
  f__law_cell : Fx PW K mg "_law_cell" "_law_cell" (topS 36) ["script", "k"]
  f__law_name : Fx PW K mg "_law_name" "_law_name" (topS 39) ["number"]
  f__law_regular : Fx PW K mg "_law_regular" "_law_regular" (topS 41) ["script", "boxes", "shape"]
  f_law : Fx PW K mg "law" "law" (topS 50) ["script"]
  x_BadValue : ExT PW w K mg base "BadValue" ["what"] XS.BadValue
  x_TooMany : ExT PW w K mg base "TooMany" ["limit"] XS.TooMany
  e_BadValue : PySem.W.exmOne K (.ref XS.BadValue) (.ref XS.BadValue) = some true ∧ PySem.W.exmOne K (.ref XS.TooMany) (.ref XS.BadValue) = some false
  e_TooMany : PySem.W.exmOne K (.ref XS.BadValue) (.ref XS.TooMany) = some false ∧ PySem.W.exmOne K (.ref XS.TooMany) (.ref XS.TooMany) = some true
abbrev FcK {K : PySem.W.Frag} {h : Heap} (_ : K.In h) (w : World) (mg : Str → Option Value) (base : Heap) (XS : XA) : Prop := Fc w K mg base XS
theorem Fc.n_BadValue (Z : Fc w K mg base XS) {X : Cx} (hg : Gl X "BadValue" := by rfl) (hm : X.mg = mg := by rfl) : Names X "BadValue" (.ref XS.BadValue) := ⟨hg, by decide, .inl (hm ▸ Z.x_BadValue.gC)⟩
theorem Fc.cl_BadValue (Z : Fc w K mg base XS) (e : Exc) (he : knX e = true) : PySem.W.exmOne K (clOf mg e.cls) (.ref XS.BadValue) = some (isX_BadValue e) := by
  obtain ⟨h_BadValue, h_TooMany⟩ := Z.e_BadValue
  cases e <;> first
    | (cases he; done)
    | (show PySem.W.exmOne K ((mg "BadValue").getD .none) _ = _; rw [Z.x_BadValue.gC]; exact h_BadValue)
    | (show PySem.W.exmOne K ((mg "TooMany").getD .none) _ = _; rw [Z.x_TooMany.gC]; exact h_TooMany)
theorem Fc.n_TooMany (Z : Fc w K mg base XS) {X : Cx} (hg : Gl X "TooMany" := by rfl) (hm : X.mg = mg := by rfl) : Names X "TooMany" (.ref XS.TooMany) := ⟨hg, by decide, .inl (hm ▸ Z.x_TooMany.gC)⟩
theorem Fc.cl_TooMany (Z : Fc w K mg base XS) (e : Exc) (he : knX e = true) : PySem.W.exmOne K (clOf mg e.cls) (.ref XS.TooMany) = some (isX_TooMany e) := by
  obtain ⟨h_BadValue, h_TooMany⟩ := Z.e_TooMany
  cases e <;> first
    | (cases he; done)
    | (show PySem.W.exmOne K ((mg "BadValue").getD .none) _ = _; rw [Z.x_BadValue.gC]; exact h_BadValue)
    | (show PySem.W.exmOne K ((mg "TooMany").getD .none) _ = _; rw [Z.x_TooMany.gC]; exact h_TooMany)
abbrev s__law_row : Stmt := topS 37
theorem sc__law_row : FnScope ["cell", "many", "limit", "rest", "numbers", "state", "k"] ["cell", "many", "limit"] (defScope s__law_row) := ⟨rfl, rfl, rfl, by decide +kernel, rfl, by decide +kernel, by decide +kernel⟩
theorem ok__law_row (Z : Fc w K mg base XS) : FnP PW w K mg base 1 "_law_row" ["cell", "many", "limit"] m__law_row := by
  obtain ⟨f, fd, F, hm, hb⟩ := Z.f__law_row
  refine fn_mk (k := 0) F sc__law_row hm hb fun cdv A outer s H G0 E c => ?_
  exact (s_cons (s_set c.nd (d_callB cd_abs nox_abs rfl Z.n_abs (a_cons (d_var 0) a_nil))) (s_cons (s_setO c.nd (o_lst a_nil)) (s_cons (s_if (t_cmp od_ge nox_ge (d_var 3) (d_bin od_pow nox_pow d_int d_int) (nomark _)) (s_cons (s_set c.nd (d_bin od_sub nox_sub (d_var 3) (d_bin od_pow nox_pow d_int d_int))) (s_cons (s_for c.po c.calm (i_rng1 Z.n_range (a_cons (d_var 1) a_nil)) (g_name 6 c.nd) (s_cons (s_app 4 (d_bin od_mod nox_mod (d_callTy cd_int nox_int rfl Z.n_int (a_cons (d_var 3) a_nil)) (d_var 2))) (s_one (s_set c.nd (d_bin od_fdiv nox_fdiv (d_var 3) (d_var 2)))))) (s_one (s_retV 4)))) s_nil) (s_cons (s_set c.nd (d_bin od_mod nox_mod (d_callTy cd_int nox_int rfl Z.n_int (a_cons (d_bin od_add nox_add (d_bin od_mul nox_mul (d_var 3) d_int) d_int) a_nil)) d_int)) (s_cons (s_for c.po c.calm (i_rng1 Z.n_range (a_cons (d_var 1) a_nil)) (g_name 6 c.nd) (s_cons (s_set c.nd (d_bin od_mod nox_mod (d_callTy cd_int nox_int rfl Z.n_int (a_cons (d_bin od_add nox_add (d_bin od_add nox_add (d_bin od_mul nox_mul (d_var 5) d_int) (d_bin od_mul nox_mul (d_var 6) d_int)) (d_var 3)) a_nil)) d_int)) (s_one (s_app 4 (d_bin od_mod nox_mod (d_callTy cd_int nox_int rfl Z.n_int (a_cons (d_bin od_fdiv nox_fdiv (d_var 5) d_int) a_nil)) (d_var 2)))))) (s_one (s_retV 4)))))))
abbrev s__law_sizes : Stmt := topS 40
theorem sc__law_sizes : FnScope ["cell", "many", "numbers", "k"] ["cell", "many"] (defScope s__law_sizes) := ⟨rfl, rfl, rfl, by decide +kernel, rfl, by decide +kernel, by decide +kernel⟩
theorem ok__law_sizes (Z : Fc w K mg base XS) : FnP PW w K mg base 2 "_law_sizes" ["cell", "many"] m__law_sizes := by
  obtain ⟨f, fd, F, hm, hb⟩ := Z.f__law_sizes
  refine fn_mk (k := 1) F sc__law_sizes hm hb fun cdv A outer s H G0 E c => ?_
  exact (s_cons (s_set c.nd (d_call (ok__law_row Z) c.toGE (by omega) rfl (a_cons (d_var 0) (a_cons (d_bin od_mul nox_mul d_int (d_var 1)) (a_cons d_int a_nil))) (fl_cons (fl_cons (fl_cons fl_nil))))) (s_one (s_retO (o_lc c.toGE (i_rng1 Z.n_range (a_cons (d_var 1) a_nil)) (x := "k") (i := 3) (by show blkC ["cell", "many", "numbers", "k"] (defScope s__law_sizes) _ _ = true; decide +kernel) (fun s H C cl fp => pg_name (i := 3) c.nd rfl (Or.inl rfl)) (fun s H C cl fp => ts_nil) (fun s H C cl fp => (d_tup (a_cons (d_bin od_add nox_add d_int (d_ix (d_var 2) (d_bin od_mul nox_mul d_int (d_var 3)) (fun _ _ => rfl))) (a_cons (d_bin od_add nox_add d_int (d_ix (d_var 2) (d_bin od_add nox_add (d_bin od_mul nox_mul d_int (d_var 3)) d_int) (fun _ _ => rfl))) (a_cons (d_bin od_add nox_add d_int (d_ix (d_var 2) (d_var 3) (fun _ _ => rfl))) a_nil)))))))))
abbrev s__law_changed : Stmt := topS 42
theorem sc__law_changed : FnScope ["history", "cell", "boxes", "numbers", "rows", "turn", "way", "at", "other", "more", "row"] ["history", "cell", "boxes"] (defScope s__law_changed) := ⟨rfl, rfl, rfl, by decide +kernel, rfl, by decide +kernel, by decide +kernel⟩
theorem ok__law_changed (Z : Fc w K mg base XS) : FnP PW w K mg base 2 "_law_changed" ["history", "cell", "boxes"] m__law_changed := by
  obtain ⟨f, fd, F, hm, hb⟩ := Z.f__law_changed
  refine fn_mk (k := 1) F sc__law_changed hm hb fun cdv A outer s H G0 E c => ?_
  exact (s_cons (s_set c.nd (d_call (ok__law_row Z) c.toGE (by omega) rfl (a_cons (d_var 1) (a_cons d_int (a_cons d_int a_nil))) (fl_cons (fl_cons (fl_cons fl_nil))))) (s_cons (s_setO c.nd (o_callTy co_list nox_list rfl Z.n_list (a_cons (d_var 0) a_nil))) (s_cons (s_for c.po c.calm (i_rng1 Z.n_range (a_cons d_int a_nil)) (g_name 5 c.nd) (s_cons (s_if (t_bor 4 (t_cmp (od_eq c.toGE.hr) nox_eq (d_callB cd_len nox_len rfl Z.n_len (a_cons (d_var 4) a_nil)) d_int (nomark _))) (s_one (s_retV 4)) s_nil) (s_cons (s_set c.nd (d_bin od_mod nox_mod (d_callTy cd_int nox_int rfl Z.n_int (a_cons (d_ix (d_var 3) (d_bin od_mul nox_mul d_int (d_var 5)) (fun _ _ => rfl)) a_nil)) d_int)) (s_cons (s_set c.nd (d_bor 4 (d_bin od_mod nox_mod (d_callTy cd_int nox_int rfl Z.n_int (a_cons (d_ix (d_var 3) (d_bin od_add nox_add (d_bin od_mul nox_mul d_int (d_var 5)) d_int) (fun _ _ => rfl)) a_nil)) (d_callB cd_len nox_len rfl Z.n_len (a_cons (d_var 4) a_nil))))) (s_cons (s_set c.nd (d_bor 4 (d_bin od_mod nox_mod (d_callTy cd_int nox_int rfl Z.n_int (a_cons (d_ix (d_var 3) (d_bin od_add nox_add (d_bin od_mul nox_mul d_int (d_var 5)) d_int) (fun _ _ => rfl)) a_nil)) (d_callB cd_len nox_len rfl Z.n_len (a_cons (d_var 4) a_nil))))) (s_cons (s_set c.nd (d_bin od_mod nox_mod (d_callTy cd_int nox_int rfl Z.n_int (a_cons (d_ix (d_var 3) (d_bin od_add nox_add (d_bin od_mul nox_mul d_int (d_var 5)) d_int) (fun _ _ => rfl)) a_nil)) d_int)) (s_cons (s_set c.nd (d_ixO 4 (d_var 7) (fun _ _ => rfl))) (s_cons (s_if (t_cmp (od_eq c.toGE.hr) nox_eq (d_var 6) d_int (nomark _)) (s_one (s_put 4 (d_var 7) (d_bin od_add nox_add (d_slice (d_var 10) p_non (p_some d_int)) (d_tup (a_cons (d_ix (d_own (o_lst (a_cons d_str (a_cons d_str a_nil)))) (d_callTy cd_int nox_int rfl Z.n_int (a_cons (d_cmp (od_eq c.toGE.hr) nox_eq (d_ix (d_var 10) d_int (fun _ _ => rfl)) d_str (nomark _)) a_nil)) (fun _ _ => rfl)) a_nil))))) s_nil) (s_cons (s_if (t_cmp (od_eq c.toGE.hr) nox_eq (d_var 6) d_int (nomark _)) (s_one (s_put 4 (d_var 7) (d_bin od_add nox_add (d_tup (a_cons (d_callB (cd_max2 c.toGE.calm) nox_max2 rfl Z.n_max (a_cons d_int (a_cons (d_bin od_sub nox_sub (d_bin od_sub nox_sub (d_ix (d_var 10) d_int (fun _ _ => rfl)) d_int) (d_var 9)) a_nil))) a_nil)) (d_slice (d_var 10) (p_some d_int) p_non)))) s_nil) (s_cons (s_if (t_cmp (od_eq c.toGE.hr) nox_eq (d_var 6) d_int (nomark _)) (s_one (s_put 4 (d_var 7) (d_bin od_add nox_add (d_tup (a_cons (d_ix (d_var 10) d_int (fun _ _ => rfl)) (a_cons (d_callB (cd_min2 c.toGE.calm) nox_min2 rfl Z.n_min (a_cons d_int (a_cons (d_bin od_add nox_add (d_var 2) (d_var 9)) a_nil))) a_nil))) (d_slice (d_var 10) (p_some d_int) p_non)))) s_nil) (s_cons (s_if (t_cmp (od_eq c.toGE.hr) nox_eq (d_var 6) d_int (nomark _)) (s_cons (s_put 4 (d_var 7) (d_ixO 4 (d_var 8) (fun _ _ => rfl))) (s_one (s_put 4 (d_var 8) (d_var 10)))) s_nil) (s_one (s_if (t_cmp (od_eq c.toGE.hr) nox_eq (d_var 6) d_int (nomark _)) (s_one (s_popAt 4 (d_var 7))) s_nil))))))))))))) (s_one (s_retV 4)))))
abbrev s__law_nearly : Stmt := topS 45
theorem sc__law_nearly : FnScope ["opening", "time", "box", "person", "way", "values"] ["opening"] (defScope s__law_nearly) := ⟨rfl, rfl, rfl, by decide +kernel, rfl, by decide +kernel, by decide +kernel⟩
theorem ok__law_nearly (Z : Fc w K mg base XS) : FnP PW w K mg base 1 "_law_nearly" ["opening"] m__law_nearly := by
  obtain ⟨f, fd, F, hm, hb⟩ := Z.f__law_nearly
  refine fn_mk (k := 0) F sc__law_nearly hm hb fun cdv A outer s H G0 E c => ?_
  exact (s_cons (s_set c.nd (d_ix (d_var 0) d_int (fun _ _ => rfl))) (s_cons (s_set c.nd (d_ix (d_var 0) d_int (fun _ _ => rfl))) (s_cons (s_set c.nd (d_ix (d_var 0) d_int (fun _ _ => rfl))) (s_cons (s_set c.nd (d_ix (d_var 0) d_int (fun _ _ => rfl))) (s_cons (s_set c.nd (d_own (o_lst (a_cons (d_own (o_callTy co_list nox_list rfl Z.n_list (a_cons (d_var 0) a_nil))) (a_cons (d_slice (d_var 0) p_non (p_some d_int)) (a_cons (d_bin od_add nox_add (d_var 0) (d_tup (a_cons (d_var 4) a_nil))) (a_cons (d_tup a_nil) (a_cons d_non (a_cons d_str (a_cons (d_var 1) a_nil)))))))))) (s_cons (s_set c.nd (d_bin od_add nox_add (d_var 5) (d_own (o_lst (a_cons (d_tup (a_cons (d_neg d_int) (a_cons (d_var 2) (a_cons (d_var 3) (a_cons (d_var 4) a_nil))))) (a_cons (d_tup (a_cons d_int (a_cons (d_var 2) (a_cons (d_var 3) (a_cons (d_var 4) a_nil))))) (a_cons (d_tup (a_cons d_bl (a_cons (d_var 2) (a_cons (d_var 3) (a_cons (d_var 4) a_nil))))) a_nil))))))) (s_cons (s_set c.nd (d_bin od_add nox_add (d_var 5) (d_own (o_lst (a_cons (d_tup (a_cons (d_callTy cd_str nox_str rfl Z.n_str (a_cons (d_var 1) a_nil)) (a_cons (d_var 2) (a_cons (d_var 3) (a_cons (d_var 4) a_nil))))) (a_cons (d_tup (a_cons (d_var 1) (a_cons (d_neg d_int) (a_cons (d_var 3) (a_cons (d_var 4) a_nil))))) (a_cons (d_tup (a_cons (d_var 1) (a_cons d_int (a_cons (d_var 3) (a_cons (d_var 4) a_nil))))) a_nil))))))) (s_cons (s_set c.nd (d_bin od_add nox_add (d_var 5) (d_own (o_lst (a_cons (d_tup (a_cons (d_var 1) (a_cons d_bl (a_cons (d_var 3) (a_cons (d_var 4) a_nil))))) (a_cons (d_tup (a_cons (d_var 1) (a_cons d_non (a_cons (d_var 3) (a_cons (d_var 4) a_nil))))) (a_cons (d_tup (a_cons (d_var 1) (a_cons (d_var 2) (a_cons d_str (a_cons (d_var 4) a_nil))))) a_nil))))))) (s_cons (s_set c.nd (d_bin od_add nox_add (d_var 5) (d_own (o_lst (a_cons (d_tup (a_cons (d_var 1) (a_cons (d_var 2) (a_cons (d_bin od_add nox_add d_str (d_slice (d_var 3) p_non (p_some d_int))) (a_cons (d_var 4) a_nil))))) (a_cons (d_tup (a_cons (d_var 1) (a_cons (d_var 2) (a_cons (d_bin od_add nox_add (d_slice (d_var 3) p_non (p_some d_int)) d_str) (a_cons (d_var 4) a_nil))))) a_nil)))))) (s_cons (s_set c.nd (d_bin od_add nox_add (d_var 5) (d_own (o_lst (a_cons (d_tup (a_cons (d_var 1) (a_cons (d_var 2) (a_cons d_str (a_cons (d_var 4) a_nil))))) (a_cons (d_tup (a_cons (d_var 1) (a_cons (d_var 2) (a_cons (d_bin od_add nox_add (d_slice (d_var 3) p_non (p_some d_int)) d_str) (a_cons (d_var 4) a_nil))))) a_nil)))))) (s_one (s_ret (d_bin od_add nox_add (d_var 5) (d_own (o_lst (a_cons (d_tup (a_cons (d_var 1) (a_cons (d_var 2) (a_cons (d_var 3) (a_cons d_str a_nil))))) (a_cons (d_tup (a_cons (d_var 1) (a_cons (d_var 2) (a_cons (d_var 3) (a_cons d_str a_nil))))) (a_cons (d_tup (a_cons (d_var 1) (a_cons (d_var 2) (a_cons (d_var 3) (a_cons d_non a_nil))))) a_nil))))))))))))))))))
abbrev s__law_same : Stmt := topS 38
theorem sc__law_same : FnScope ["actual", "due", "k"] ["actual", "due"] (defScope s__law_same) := ⟨rfl, rfl, rfl, by decide +kernel, rfl, by decide +kernel, by decide +kernel⟩
theorem ok__law_same (Z : Fc w K mg base XS) : ∀ n, FnP PW w K mg base (0 + n + 1) "_law_same" ["actual", "due"] (m__law_same n)
  | 0 => by
    obtain ⟨f, fd, F, hm, hb⟩ := Z.f__law_same
    exact fn_mk F sc__law_same hm hb fun cdv A outer s H G0 E c => s_never
  | n + 1 => by
    have again := ok__law_same Z n
    obtain ⟨f, fd, F, hm, hb⟩ := Z.f__law_same
    refine fn_mk (k := 0 + n + 1) F sc__law_same hm hb fun cdv A outer s H G0 E c => ?_
    exact (s_cons (s_if (t_cmp od_is nox_is (d_var 1) d_non (nomark _)) (s_one (s_ret (d_cmp od_is nox_is (d_var 0) d_non (nomark _)))) s_nil) (s_cons (s_if (t_tru (d_isi kit_bool Z.n_isinstance Z.n_bool rfl (d_var 1))) (s_one (s_ret (d_and (d_isi kit_bool Z.n_isinstance Z.n_bool rfl (d_var 0)) (d_one (d_cmp (od_eq c.toGE.hr) nox_eq (d_var 0) (d_var 1) (nomark _)))))) s_nil) (s_cons (s_if (t_tru (d_isi kit_int Z.n_isinstance Z.n_int rfl (d_var 1))) (s_one (s_ret (d_and (d_isi kit_int Z.n_isinstance Z.n_int rfl (d_var 0)) (d_and (d_not (d_isi kit_bool Z.n_isinstance Z.n_bool rfl (d_var 0))) (d_one (d_cmp (od_eq c.toGE.hr) nox_eq (d_var 0) (d_var 1) (nomark _))))))) s_nil) (s_cons (s_if (t_tru (d_isi kit_str Z.n_isinstance Z.n_str rfl (d_var 1))) (s_one (s_ret (d_and (d_isi kit_str Z.n_isinstance Z.n_str rfl (d_var 0)) (d_one (d_cmp (od_eq c.toGE.hr) nox_eq (d_var 0) (d_var 1) (nomark _)))))) s_nil) (s_cons (s_if (PW.pt (t_and (t_tru (d_isi kit_tuple Z.n_isinstance Z.n_tuple rfl (d_var 1))) (t_and1 (t_not (t_tru (d_isi kit_tuple Z.n_isinstance Z.n_tuple rfl (d_var 0))))))) (s_one (s_ret d_bl)) s_nil) (s_cons (s_if (PW.pt (t_and (t_tru (d_isi kit_list Z.n_isinstance Z.n_list rfl (d_var 1))) (t_and1 (t_not (t_tru (d_isi kit_list Z.n_isinstance Z.n_list rfl (d_var 0))))))) (s_one (s_ret d_bl)) s_nil) (s_cons (s_if (t_cmp (od_ne c.toGE.hr) nox_ne (d_callB cd_len nox_len rfl Z.n_len (a_cons (d_var 0) a_nil)) (d_callB cd_len nox_len rfl Z.n_len (a_cons (d_var 1) a_nil)) (nomark _)) (s_one (s_ret d_bl)) s_nil) (s_cons (s_for c.po c.calm (i_rng1 Z.n_range (a_cons (d_callB cd_len nox_len rfl Z.n_len (a_cons (d_var 1) a_nil)) a_nil)) (g_name 2 c.nd) (s_one (s_if (t_not (t_tru (d_call again c.toGE (by omega) rfl (a_cons (d_ix (d_var 0) (d_var 2) (fun _ _ => rfl)) (a_cons (d_ix (d_var 1) (d_var 2) (fun _ _ => rfl)) a_nil)) (fl_cons (fl_cons fl_nil))))) (s_one (s_ret d_bl)) s_nil))) (s_one (s_ret d_bl))))))))))
abbrev s_need_list : Stmt := topS 8
theorem sc_need_list : FnScope ["value", "limit", "what"] ["value", "limit", "what"] (defScope s_need_list) := ⟨rfl, rfl, rfl, by decide +kernel, rfl, by decide +kernel, by decide +kernel⟩
theorem ok_need_list (Z : Fc w K mg base XS) : FnP PW w K mg base 4 "need_list" ["value", "limit", "what"] m_need_list := by
  obtain ⟨f, fd, F, hm, hb⟩ := Z.f_need_list
  refine fn_mk (k := 3) F sc_need_list hm hb fun cdv A outer s H G0 E c => ?_
  exact (s_cons (s_if (t_not (t_tru (d_isi kit_list Z.n_isinstance Z.n_list rfl (d_var 0)))) (s_one (s_raise Z.x_BadValue c (by decide) mkx_bv (a_cons (d_var 2) a_nil))) s_nil) (s_one (s_if (t_cmp od_gt nox_gt (d_callB cd_len nox_len rfl Z.n_len (a_cons (d_var 0) a_nil)) (d_var 1) (nomark _)) (s_one (s_raise Z.x_TooMany c (by decide) mkx_tm (a_cons (d_var 1) a_nil))) s_nil)))
abbrev s_is_integer : Stmt := topS 6
theorem sc_is_integer : FnScope ["value"] ["value"] (defScope s_is_integer) := ⟨rfl, rfl, rfl, by decide +kernel, rfl, by decide +kernel, by decide +kernel⟩
theorem ok_is_integer (Z : Fc w K mg base XS) : FnP PW w K mg base 1 "is_integer" ["value"] m_is_integer := by
  obtain ⟨f, fd, F, hm, hb⟩ := Z.f_is_integer
  refine fn_mk (k := 0) F sc_is_integer hm hb fun cdv A outer s H G0 E c => ?_
  exact (s_one (s_ret (d_and (d_isi kit_int Z.n_isinstance Z.n_int rfl (d_var 0)) (d_one (d_not (d_isi kit_bool Z.n_isinstance Z.n_bool rfl (d_var 0)))))))
abbrev s_in_range : Stmt := topS 7
theorem sc_in_range : FnScope ["value", "low", "high"] ["value", "low", "high"] (defScope s_in_range) := ⟨rfl, rfl, rfl, by decide +kernel, rfl, by decide +kernel, by decide +kernel⟩
theorem ok_in_range (Z : Fc w K mg base XS) : FnP PW w K mg base 2 "in_range" ["value", "low", "high"] m_in_range := by
  obtain ⟨f, fd, F, hm, hb⟩ := Z.f_in_range
  refine fn_mk (k := 1) F sc_in_range hm hb fun cdv A outer s H G0 E c => ?_
  exact (s_one (s_ret (d_and (d_call (ok_is_integer Z) c.toGE (by omega) rfl (a_cons (d_var 0) a_nil) (fl_cons fl_nil)) (d_and (d_cmp od_le nox_le (d_var 1) (d_var 0) (nomark _)) (d_one (d_cmp od_le nox_le (d_var 0) (d_var 2) (nomark _)))))))
abbrev s_is_size : Stmt := topS 11
theorem sc_is_size : FnScope ["value", "measure"] ["value"] (defScope s_is_size) := ⟨rfl, rfl, rfl, by decide +kernel, rfl, by decide +kernel, by decide +kernel⟩
theorem ok_is_size (Z : Fc w K mg base XS) : FnP PW w K mg base 3 "is_size" ["value"] m_is_size := by
  obtain ⟨f, fd, F, hm, hb⟩ := Z.f_is_size
  refine fn_mk (k := 2) F sc_is_size hm hb fun cdv A outer s H G0 E c => ?_
  exact (s_cons (s_if (PW.pt (t_or (t_not (t_tru (d_isi kit_tuple Z.n_isinstance Z.n_tuple rfl (d_var 0)))) (t_or1 (t_cmp (od_ne c.toGE.hr) nox_ne (d_callB cd_len nox_len rfl Z.n_len (a_cons (d_var 0) a_nil)) d_int (nomark _))))) (s_one (s_ret d_bl)) s_nil) (s_cons (s_for c.po c.calm (i_seq (d_var 0)) (g_name 1 c.nd) (s_one (s_if (t_not (t_tru (d_call (ok_in_range Z) c.toGE (by omega) rfl (a_cons (d_var 1) (a_cons d_int (a_cons (d_gint Z.c_LONGEST) a_nil))) (fl_cons (fl_cons (fl_cons fl_nil)))))) (s_one (s_ret d_bl)) s_nil))) (s_one (s_ret d_bl))))
abbrev s_need_sizes : Stmt := topS 14
theorem sc_need_sizes : FnScope ["value", "limit", "what", "size"] ["value", "limit", "what"] (defScope s_need_sizes) := ⟨rfl, rfl, rfl, by decide +kernel, rfl, by decide +kernel, by decide +kernel⟩
theorem ok_need_sizes (Z : Fc w K mg base XS) : FnP PW w K mg base 5 "need_sizes" ["value", "limit", "what"] m_need_sizes := by
  obtain ⟨f, fd, F, hm, hb⟩ := Z.f_need_sizes
  refine fn_mk (k := 4) F sc_need_sizes hm hb fun cdv A outer s H G0 E c => ?_
  exact (s_cons (s_drop (d_call (ok_need_list Z) c.toGE (by omega) rfl (a_cons (d_var 0) (a_cons (d_var 1) (a_cons (d_var 2) a_nil))) (fl_cons (fl_cons (fl_cons fl_nil))))) (s_one (s_for c.po c.calm (i_seq (d_var 0)) (g_name 3 c.nd) (s_one (s_if (t_not (t_tru (d_call (ok_is_size Z) c.toGE (by omega) rfl (a_cons (d_var 3) a_nil) (fl_cons fl_nil)))) (s_one (s_raise Z.x_BadValue c (by decide) mkx_bv (a_cons (d_var 2) a_nil))) s_nil)))))
abbrev s_need_bank : Stmt := topS 15
theorem sc_need_bank : FnScope ["value"] ["value"] (defScope s_need_bank) := ⟨rfl, rfl, rfl, by decide +kernel, rfl, by decide +kernel, by decide +kernel⟩
theorem ok_need_bank (Z : Fc w K mg base XS) : FnP PW w K mg base 6 "need_bank" ["value"] m_need_bank := by
  obtain ⟨f, fd, F, hm, hb⟩ := Z.f_need_bank
  refine fn_mk (k := 5) F sc_need_bank hm hb fun cdv A outer s H G0 E c => ?_
  exact (s_one (s_drop (d_call (ok_need_sizes Z) c.toGE (by omega) rfl (a_cons (d_var 0) (a_cons (d_gint Z.c_MOST_BOXES) (a_cons d_str a_nil))) (fl_cons (fl_cons (fl_cons fl_nil))))))
abbrev s_is_time : Stmt := topS 20
theorem sc_is_time : FnScope ["value"] ["value"] (defScope s_is_time) := ⟨rfl, rfl, rfl, by decide +kernel, rfl, by decide +kernel, by decide +kernel⟩
theorem ok_is_time (Z : Fc w K mg base XS) : FnP PW w K mg base 3 "is_time" ["value"] m_is_time := by
  obtain ⟨f, fd, F, hm, hb⟩ := Z.f_is_time
  refine fn_mk (k := 2) F sc_is_time hm hb fun cdv A outer s H G0 E c => ?_
  exact (s_one (s_ret (d_call (ok_in_range Z) c.toGE (by omega) rfl (a_cons (d_var 0) (a_cons d_int (a_cons (d_gint Z.c_LATEST) a_nil))) (fl_cons (fl_cons (fl_cons fl_nil))))))
abbrev s_is_name : Stmt := topS 19
theorem sc_is_name : FnScope ["value", "char"] ["value"] (defScope s_is_name) := ⟨rfl, rfl, rfl, by decide +kernel, rfl, by decide +kernel, by decide +kernel⟩
theorem ok_is_name (Z : Fc w K mg base XS) : FnP PW w K mg base 1 "is_name" ["value"] m_is_name := by
  obtain ⟨f, fd, F, hm, hb⟩ := Z.f_is_name
  refine fn_mk (k := 0) F sc_is_name hm hb fun cdv A outer s H G0 E c => ?_
  exact (s_cons (s_if (PW.pt (t_or (t_not (t_tru (d_isi kit_str Z.n_isinstance Z.n_str rfl (d_var 0)))) (t_or (t_cmp od_lt nox_lt (d_callB cd_len nox_len rfl Z.n_len (a_cons (d_var 0) a_nil)) d_int (nomark _)) (t_or1 (t_cmp od_gt nox_gt (d_callB cd_len nox_len rfl Z.n_len (a_cons (d_var 0) a_nil)) d_int (nomark _)))))) (s_one (s_ret d_bl)) s_nil) (s_cons (s_if (t_cmp (od_notIn c.toGE.hr) nox_notIn (d_ix (d_var 0) d_int (fun _ _ => rfl)) (d_gstr Z.c_LETTERS) (by rfl)) (s_one (s_ret d_bl)) s_nil) (s_cons (s_for c.po c.calm (i_seq (d_var 0)) (g_name 1 c.nd) (s_one (s_if (PW.pt (t_and (t_cmp (od_notIn c.toGE.hr) nox_notIn (d_var 1) (d_gstr Z.c_LETTERS) (by rfl)) (t_and1 (t_cmp (od_notIn c.toGE.hr) nox_notIn (d_var 1) (d_gstr Z.c_DIGITS) (by rfl))))) (s_one (s_ret d_bl)) s_nil))) (s_one (s_ret d_bl)))))
abbrev s_is_opening : Stmt := topS 25
theorem sc_is_opening : FnScope ["value"] ["value"] (defScope s_is_opening) := ⟨rfl, rfl, rfl, by decide +kernel, rfl, by decide +kernel, by decide +kernel⟩
theorem ok_is_opening (Z : Fc w K mg base XS) : FnP PW w K mg base 4 "is_opening" ["value"] m_is_opening := by
  obtain ⟨f, fd, F, hm, hb⟩ := Z.f_is_opening
  refine fn_mk (k := 3) F sc_is_opening hm hb fun cdv A outer s H G0 E c => ?_
  exact (s_cons (s_if (PW.pt (t_or (t_not (t_tru (d_isi kit_tuple Z.n_isinstance Z.n_tuple rfl (d_var 0)))) (t_or1 (t_cmp (od_ne c.toGE.hr) nox_ne (d_callB cd_len nox_len rfl Z.n_len (a_cons (d_var 0) a_nil)) d_int (nomark _))))) (s_one (s_ret d_bl)) s_nil) (s_cons (s_if (PW.pt (t_or (t_not (t_tru (d_call (ok_is_time Z) c.toGE (by omega) rfl (a_cons (d_ix (d_var 0) d_int (fun _ _ => rfl)) a_nil) (fl_cons fl_nil)))) (t_or (t_not (t_tru (d_call (ok_in_range Z) c.toGE (by omega) rfl (a_cons (d_ix (d_var 0) d_int (fun _ _ => rfl)) (a_cons d_int (a_cons (d_gint Z.c_LAST_BOX) a_nil))) (fl_cons (fl_cons (fl_cons fl_nil)))))) (t_or1 (t_not (t_tru (d_call (ok_is_name Z) c.toGE (by omega) rfl (a_cons (d_ix (d_var 0) d_int (fun _ _ => rfl)) a_nil) (fl_cons fl_nil)))))))) (s_one (s_ret d_bl)) s_nil) (s_one (s_ret (d_cmp (od_in c.toGE.hr) nox_in (d_ix (d_var 0) d_int (fun _ _ => rfl)) (d_gref Z.c_WAYS) (by rfl))))))
abbrev s_need_history : Stmt := topS 26
theorem sc_need_history : FnScope ["value", "opening"] ["value"] (defScope s_need_history) := ⟨rfl, rfl, rfl, by decide +kernel, rfl, by decide +kernel, by decide +kernel⟩
theorem ok_need_history (Z : Fc w K mg base XS) : FnP PW w K mg base 5 "need_history" ["value"] m_need_history := by
  obtain ⟨f, fd, F, hm, hb⟩ := Z.f_need_history
  refine fn_mk (k := 4) F sc_need_history hm hb fun cdv A outer s H G0 E c => ?_
  exact (s_cons (s_drop (d_call (ok_need_list Z) c.toGE (by omega) rfl (a_cons (d_var 0) (a_cons (d_gint Z.c_MOST_OPENINGS) (a_cons d_str a_nil))) (fl_cons (fl_cons (fl_cons fl_nil))))) (s_one (s_for c.po c.calm (i_seq (d_var 0)) (g_name 1 c.nd) (s_one (s_if (t_not (t_tru (d_call (ok_is_opening Z) c.toGE (by omega) rfl (a_cons (d_var 1) a_nil) (fl_cons fl_nil)))) (s_one (s_raise Z.x_BadValue c (by decide) mkx_bv (a_cons d_str a_nil))) s_nil)))))
abbrev s_fault_of : Stmt := topS 27
theorem sc_fault_of : FnScope ["bank", "history", "occupied", "last", "index", "time", "box", "_", "way"] ["bank", "history"] (defScope s_fault_of) := ⟨rfl, rfl, rfl, by decide +kernel, rfl, by decide +kernel, by decide +kernel⟩
theorem ok_fault_of (Z : Fc w K mg base XS) : FnP PW w K mg base 1 "fault_of" ["bank", "history"] m_fault_of := by
  obtain ⟨f, fd, F, hm, hb⟩ := Z.f_fault_of
  refine fn_mk (k := 0) F sc_fault_of hm hb fun cdv A outer s H G0 E c => ?_
  exact (s_cons (s_setO c.nd (o_rep (d_own (o_lst (a_cons d_bl a_nil))) (d_callB cd_len nox_len rfl Z.n_len (a_cons (d_var 0) a_nil)))) (s_cons (s_set c.nd d_int) (s_cons (s_for c.po c.calm (i_rng1 Z.n_range (a_cons (d_callB cd_len nox_len rfl Z.n_len (a_cons (d_var 1) a_nil)) a_nil)) (g_name 4 c.nd) (s_cons (s_asg (d_ix (d_var 1) (d_var 4) (fun _ _ => rfl)) (g_tup c.calm (gs_cons c.nd (gs_cons c.nd (gs_cons c.nd (gs_cons c.nd gs_nil)))))) (s_cons (s_if (t_cmp od_ge nox_ge (d_var 6) (d_callB cd_len nox_len rfl Z.n_len (a_cons (d_var 0) a_nil)) (nomark _)) (s_one (s_ret (d_tup (a_cons (d_var 4) (a_cons d_str a_nil))))) s_nil) (s_cons (s_if (t_cmp od_lt nox_lt (d_var 5) (d_var 3) (nomark _)) (s_one (s_ret (d_tup (a_cons (d_var 4) (a_cons d_str a_nil))))) s_nil) (s_cons (s_if (PW.pt (t_and (t_cmp (od_eq c.toGE.hr) nox_eq (d_var 8) d_str (nomark _)) (t_and1 (t_tru (d_ixO 2 (d_var 6) (fun _ _ => rfl)))))) (s_one (s_ret (d_tup (a_cons (d_var 4) (a_cons d_str a_nil))))) s_nil) (s_cons (s_if (PW.pt (t_and (t_cmp (od_eq c.toGE.hr) nox_eq (d_var 8) d_str (nomark _)) (t_and1 (t_not (t_tru (d_ixO 2 (d_var 6) (fun _ _ => rfl))))))) (s_one (s_ret (d_tup (a_cons (d_var 4) (a_cons d_str a_nil))))) s_nil) (s_cons (s_put 2 (d_var 6) (d_cmp (od_eq c.toGE.hr) nox_eq (d_var 8) d_str (nomark _))) (s_one (s_set c.nd (d_var 5)))))))))) (s_one (s_ret d_non)))))
abbrev s_fault : Stmt := topS 28
theorem sc_fault : FnScope ["bank", "history"] ["bank", "history"] (defScope s_fault) := ⟨rfl, rfl, rfl, by decide +kernel, rfl, by decide +kernel, by decide +kernel⟩
theorem ok_fault (Z : Fc w K mg base XS) : FnP PW w K mg base 7 "fault" ["bank", "history"] m_fault := by
  obtain ⟨f, fd, F, hm, hb⟩ := Z.f_fault
  refine fn_mk (k := 6) F sc_fault hm hb fun cdv A outer s H G0 E c => ?_
  exact (s_cons (s_drop (d_call (ok_need_bank Z) c.toGE (by omega) rfl (a_cons (d_var 0) a_nil) (fl_cons fl_nil))) (s_cons (s_drop (d_call (ok_need_history Z) c.toGE (by omega) rfl (a_cons (d_var 1) a_nil) (fl_cons fl_nil))) (s_one (s_ret (d_call (ok_fault_of Z) c.toGE (by omega) rfl (a_cons (d_var 0) (a_cons (d_var 1) a_nil)) (fl_cons (fl_cons fl_nil)))))))
abbrev s_need_regular : Stmt := topS 30
theorem sc_need_regular : FnScope ["bank", "history"] ["bank", "history"] (defScope s_need_regular) := ⟨rfl, rfl, rfl, by decide +kernel, rfl, by decide +kernel, by decide +kernel⟩
theorem ok_need_regular (Z : Fc w K mg base XS) : FnP PW w K mg base 6 "need_regular" ["bank", "history"] m_need_regular := by
  obtain ⟨f, fd, F, hm, hb⟩ := Z.f_need_regular
  refine fn_mk (k := 5) F sc_need_regular hm hb fun cdv A outer s H G0 E c => ?_
  exact (s_cons (s_drop (d_call (ok_need_history Z) c.toGE (by omega) rfl (a_cons (d_var 1) a_nil) (fl_cons fl_nil))) (s_one (s_if (t_cmp od_isNot nox_isNot (d_call (ok_fault_of Z) c.toGE (by omega) rfl (a_cons (d_var 0) (a_cons (d_var 1) a_nil)) (fl_cons (fl_cons fl_nil))) d_non (nomark _)) (s_one (s_raise Z.x_BadValue c (by decide) mkx_bv (a_cons d_str a_nil))) s_nil)))
abbrev s_stays_from : Stmt := topS 29
theorem sc_stays_from : FnScope ["history", "stays", "present", "time", "box", "person", "way", "number"] ["history"] (defScope s_stays_from) := ⟨rfl, rfl, rfl, by decide +kernel, rfl, by decide +kernel, by decide +kernel⟩
theorem ok_stays_from (Z : Fc w K mg base XS) : FnP PW w K mg base 1 "stays_from" ["history"] m_stays_from := by
  obtain ⟨f, fd, F, hm, hb⟩ := Z.f_stays_from
  refine fn_mk (k := 0) F sc_stays_from hm hb fun cdv A outer s H G0 E c => ?_
  exact (s_cons (s_setO c.nd (o_lst a_nil)) (s_cons (s_newK 2 c.nd) (s_cons (s_for c.po c.calm (i_seq (d_var 0)) (g_tup c.calm (gs_cons c.nd (gs_cons c.nd (gs_cons c.nd (gs_cons c.nd gs_nil))))) (s_one (s_if (t_cmp (od_eq c.toGE.hr) nox_eq (d_var 6) d_str (nomark _)) (s_cons (s_putK 2 c.toGE (d_var 4) (d_bor 1 (d_callB cd_len nox_len rfl Z.n_len (a_cons (d_var 1) a_nil)))) (s_one (s_app 1 (d_tup (a_cons (d_var 4) (a_cons (d_var 3) (a_cons (d_var 5) (a_cons d_non (a_cons d_non a_nil))))))))) (s_cons (s_set c.nd (d_getK 2 c.toGE (d_var 4) (fun _ _ => rfl))) (s_one (s_put 1 (d_var 7) (d_bin od_add nox_add (d_slice (d_ixO 1 (d_var 7) (fun _ _ => rfl)) p_non (p_some d_int)) (d_tup (a_cons (d_var 3) (a_cons (d_var 5) a_nil)))))))))) (s_one (s_retV 1)))))
abbrev s_box_stays : Stmt := topS 31
theorem sc_box_stays : FnScope ["bank", "history"] ["bank", "history"] (defScope s_box_stays) := ⟨rfl, rfl, rfl, by decide +kernel, rfl, by decide +kernel, by decide +kernel⟩
theorem ok_box_stays (Z : Fc w K mg base XS) : FnP PW w K mg base 7 "box_stays" ["bank", "history"] m_box_stays := by
  obtain ⟨f, fd, F, hm, hb⟩ := Z.f_box_stays
  refine fn_mk (k := 6) F sc_box_stays hm hb fun cdv A outer s H G0 E c => ?_
  exact (s_cons (s_drop (d_call (ok_need_bank Z) c.toGE (by omega) rfl (a_cons (d_var 0) a_nil) (fl_cons fl_nil))) (s_cons (s_drop (d_call (ok_need_regular Z) c.toGE (by omega) rfl (a_cons (d_var 0) (a_cons (d_var 1) a_nil)) (fl_cons (fl_cons fl_nil)))) (s_one (s_retO (o_call (ok_stays_from Z) c.toGE (by omega) rfl (a_cons (d_var 1) a_nil) (fl_cons fl_nil))))))
abbrev s_format_history : Stmt := topS 32
theorem sc_format_history : FnScope ["history", "opening", "part"] ["history"] (defScope s_format_history) := ⟨rfl, rfl, rfl, by decide +kernel, rfl, by decide +kernel, by decide +kernel⟩
theorem ok_format_history (Z : Fc w K mg base XS) : FnP PW w K mg base 6 "format_history" ["history"] m_format_history := by
  obtain ⟨f, fd, F, hm, hb⟩ := Z.f_format_history
  refine fn_mk (k := 5) F sc_format_history hm hb fun cdv A outer s H G0 E c => ?_
  exact (s_cons (s_drop (d_call (ok_need_history Z) c.toGE (by omega) rfl (a_cons (d_var 0) a_nil) (fl_cons fl_nil))) s_never)
abbrev s_day_of : Stmt := topS 34
theorem sc_day_of : FnScope ["history", "opening"] ["history"] (defScope s_day_of) := ⟨rfl, rfl, rfl, by decide +kernel, rfl, by decide +kernel, by decide +kernel⟩
theorem ok_day_of (Z : Fc w K mg base XS) : FnP PW w K mg base 6 "day_of" ["history"] m_day_of := by
  obtain ⟨f, fd, F, hm, hb⟩ := Z.f_day_of
  refine fn_mk (k := 5) F sc_day_of hm hb fun cdv A outer s H G0 E c => ?_
  exact (s_cons (s_drop (d_call (ok_need_history Z) c.toGE (by omega) rfl (a_cons (d_var 0) a_nil) (fl_cons fl_nil))) (s_one (s_retO (o_lc c.toGE (i_seq (d_var 0)) (x := "opening") (i := 1) (by show blkC ["history", "opening"] (defScope s_day_of) _ _ = true; decide +kernel) (fun s H C cl fp => pg_name (i := 1) c.nd rfl (Or.inl rfl)) (fun s H C cl fp => ts_nil) (fun s H C cl fp => (d_tup (a_cons (d_ix (d_var 1) d_int (fun _ _ => rfl)) (a_cons (d_ix (d_var 1) d_int (fun _ _ => rfl)) (a_cons (d_ix (d_var 1) d_int (fun _ _ => rfl)) a_nil)))))))))
abbrev s__law_door : Stmt := topS 46
theorem sc__law_door : FnScope ["way", "bank", "history", "e"] ["way", "bank", "history"] (defScope s__law_door) := ⟨rfl, rfl, rfl, by decide +kernel, rfl, by decide +kernel, by decide +kernel⟩
theorem ok__law_door (Z : Fc w K mg base XS) : FnP PW w K mg base 8 "_law_door" ["way", "bank", "history"] m__law_door := by
  obtain ⟨f, fd, F, hm, hb⟩ := Z.f__law_door
  refine fn_mk (k := 7) F sc__law_door hm hb fun cdv A outer s H G0 E c => ?_
  exact (s_cons (s_try c (fun W' pn xe c' => (s_cons (s_if (t_cmp (od_eq c'.toGE.hr) nox_eq (d_var 0) d_int (nomark _)) (s_one (s_drop (d_call (ok_fault Z) c'.toGE (by omega) rfl (a_cons (d_var 1) (a_cons (d_var 2) a_nil)) (fl_cons (fl_cons fl_nil))))) s_nil) (s_cons (s_if (t_cmp (od_eq c'.toGE.hr) nox_eq (d_var 0) d_int (nomark _)) (s_one (s_drop (d_call (ok_box_stays Z) c'.toGE (by omega) rfl (a_cons (d_var 1) (a_cons (d_var 2) a_nil)) (fl_cons (fl_cons fl_nil))))) s_nil) (s_cons (s_if (t_cmp (od_eq c'.toGE.hr) nox_eq (d_var 0) d_int (nomark _)) (s_one (s_drop (d_call (ok_format_history Z) c'.toGE (by omega) rfl (a_cons (d_var 2) a_nil) (fl_cons fl_nil)))) s_nil) (s_one (s_if (t_cmp (od_eq c'.toGE.hr) nox_eq (d_var 0) d_int (nomark _)) (s_one (s_drop (d_call (ok_day_of Z) c'.toGE (by omega) rfl (a_cons (d_var 2) a_nil) (fl_cons fl_nil)))) s_nil)))))) (.cons Z.n_TooMany rfl rfl (fun e he => Z.cl_TooMany e he) (fun p oe cls d pn hz hf => (su_ret (x_tup (xa_cons (x_lift d_str) (xa_cons (x_fld Z.x_TooMany (by decide) hz hf rfl) xa_nil))))) (.cons Z.n_BadValue rfl rfl (fun e he => Z.cl_BadValue e he) (fun p oe cls d pn hz hf => (su_ret (x_tup (xa_cons (x_lift d_str) (xa_cons (x_fld Z.x_BadValue (by decide) hz hf rfl) xa_nil))))) .nil))) (s_one (s_ret (d_tup (a_cons d_str a_nil)))))
abbrev s__law_all_doors : Stmt := topS 47
theorem sc__law_all_doors : FnScope ["bank", "history", "due", "way"] ["bank", "history", "due"] (defScope s__law_all_doors) := ⟨rfl, rfl, rfl, by decide +kernel, rfl, by decide +kernel, by decide +kernel⟩
theorem ok__law_all_doors (Z : Fc w K mg base XS) : FnP PW w K mg base 9 "_law_all_doors" ["bank", "history", "due"] m__law_all_doors := by
  obtain ⟨f, fd, F, hm, hb⟩ := Z.f__law_all_doors
  refine fn_mk (k := 8) F sc__law_all_doors hm hb fun cdv A outer s H G0 E c => ?_
  exact (s_cons (s_for c.po c.calm (i_rng1 Z.n_range (a_cons d_int a_nil)) (g_name 3 c.nd) (s_one (s_if (t_not (t_tru (d_call (ok__law_same Z 6) c.toGE (by omega) rfl (a_cons (d_call (ok__law_door Z) c.toGE (by omega) rfl (a_cons (d_var 3) (a_cons (d_var 0) (a_cons (d_var 1) a_nil))) (fl_cons (fl_cons (fl_cons fl_nil)))) (a_cons (d_var 2) a_nil)) (fl_cons (fl_cons fl_nil))))) (s_one (s_ret d_bl)) s_nil))) (s_one (s_ret d_bl)))
abbrev s__law_fault : Stmt := topS 43
theorem sc__law_fault : FnScope ["boxes", "history", "k", "opening", "earlier", "other"] ["boxes", "history"] (defScope s__law_fault) := ⟨rfl, rfl, rfl, by decide +kernel, rfl, by decide +kernel, by decide +kernel⟩
theorem ok__law_fault (Z : Fc w K mg base XS) : FnP PW w K mg base 1 "_law_fault" ["boxes", "history"] m__law_fault := by
  obtain ⟨f, fd, F, hm, hb⟩ := Z.f__law_fault
  refine fn_mk (k := 0) F sc__law_fault hm hb fun cdv A outer s H G0 E c => ?_
  exact (s_cons (s_for c.po c.calm (i_rng1 Z.n_range (a_cons (d_callB cd_len nox_len rfl Z.n_len (a_cons (d_var 1) a_nil)) a_nil)) (g_name 2 c.nd) (s_cons (s_set c.nd (d_ix (d_var 1) (d_var 2) (fun _ _ => rfl))) (s_cons (s_if (t_cmp od_ge nox_ge (d_ix (d_var 3) d_int (fun _ _ => rfl)) (d_var 0) (nomark _)) (s_one (s_ret (d_tup (a_cons (d_var 2) (a_cons d_str a_nil))))) s_nil) (s_cons (s_if (PW.pt (t_and (t_cmp od_gt nox_gt (d_var 2) d_int (nomark _)) (t_and1 (t_cmp od_lt nox_lt (d_ix (d_var 3) d_int (fun _ _ => rfl)) (d_ix (d_ix (d_var 1) (d_bin od_sub nox_sub (d_var 2) d_int) (fun _ _ => rfl)) d_int (fun _ _ => rfl)) (nomark _))))) (s_one (s_ret (d_tup (a_cons (d_var 2) (a_cons d_str a_nil))))) s_nil) (s_cons (s_setLcS (j := 4) c.toGE rfl rfl (sw_true rfl rfl rfl (by decide +kernel)) (i_seq (d_slice (d_var 1) p_non (p_some (d_var 2)))) (x := "other") (i := 5) (by show blkC ["boxes", "history", "k", "opening", "earlier", "other"] (defScope s__law_fault) _ _ = true; decide +kernel) (fun s H C cl fp => pg_name (i := 5) c.nd rfl (Or.inl rfl)) (fun s H C cl fp => (ts_one (t_cmp (od_eq (c.toGE.blk s H _ _ fp).hr) nox_eq (d_ix (d_var 5) d_int (fun _ _ => rfl)) (d_ix (d_var 3) d_int (fun _ _ => rfl)) (nomark _)))) (fun s H C cl fp => (d_ix (d_var 5) d_int (fun _ _ => rfl)))) (s_cons (s_if (PW.pt (t_and (t_cmp (od_eq c.toGE.hr) nox_eq (d_ix (d_var 3) d_int (fun _ _ => rfl)) d_str (nomark _)) (t_and1 (t_cmp (od_eq c.toGE.hr) nox_eq (d_slice (d_var 4) (p_some (d_neg d_int)) p_non) (d_own (o_lst (a_cons d_str a_nil))) (nomark _))))) (s_one (s_ret (d_tup (a_cons (d_var 2) (a_cons d_str a_nil))))) s_nil) (s_one (s_if (PW.pt (t_and (t_cmp (od_eq c.toGE.hr) nox_eq (d_ix (d_var 3) d_int (fun _ _ => rfl)) d_str (nomark _)) (t_and1 (t_cmp (od_ne c.toGE.hr) nox_ne (d_slice (d_var 4) (p_some (d_neg d_int)) p_non) (d_own (o_lst (a_cons d_str a_nil))) (nomark _))))) (s_one (s_ret (d_tup (a_cons (d_var 2) (a_cons d_str a_nil))))) s_nil)))))))) (s_one (s_ret d_non)))
abbrev s__law_stays : Stmt := topS 44
theorem sc__law_stays : FnScope ["history", "stays", "k", "later", "end", "taker", "other"] ["history"] (defScope s__law_stays) := ⟨rfl, rfl, rfl, by decide +kernel, rfl, by decide +kernel, by decide +kernel⟩
theorem ok__law_stays (Z : Fc w K mg base XS) : FnP PW w K mg base 1 "_law_stays" ["history"] m__law_stays := by
  obtain ⟨f, fd, F, hm, hb⟩ := Z.f__law_stays
  refine fn_mk (k := 0) F sc__law_stays hm hb fun cdv A outer s H G0 E c => ?_
  exact (s_cons (s_setO c.nd (o_lst a_nil)) (s_cons (s_for c.po c.calm (i_rng1 Z.n_range (a_cons (d_callB cd_len nox_len rfl Z.n_len (a_cons (d_var 0) a_nil)) a_nil)) (g_name 2 c.nd) (s_one (s_if (t_cmp (od_eq c.toGE.hr) nox_eq (d_ix (d_ix (d_var 0) (d_var 2) (fun _ _ => rfl)) d_int (fun _ _ => rfl)) d_str (nomark _)) (s_cons (s_setLcS (j := 3) c.toGE rfl rfl (sw_true rfl rfl rfl (by decide +kernel)) (i_seq (d_slice (d_var 0) (p_some (d_bin od_add nox_add (d_var 2) d_int)) p_non)) (x := "other") (i := 6) (by show blkC ["history", "stays", "k", "later", "end", "taker", "other"] (defScope s__law_stays) _ _ = true; decide +kernel) (fun s H C cl fp => pg_name (i := 6) c.nd rfl (Or.inl rfl)) (fun s H C cl fp => (ts_one (t_cmp (od_eq (c.toGE.blk s H _ _ fp).hr) nox_eq (d_ix (d_var 6) d_int (fun _ _ => rfl)) (d_ix (d_ix (d_var 0) (d_var 2) (fun _ _ => rfl)) d_int (fun _ _ => rfl)) (nomark _)))) (fun s H C cl fp => (d_var 6))) (s_cons (s_set c.nd d_non) (s_cons (s_set c.nd d_non) (s_cons (s_if (t_cmp od_gt nox_gt (d_callB cd_len nox_len rfl Z.n_len (a_cons (d_var 3) a_nil)) d_int (nomark _)) (s_cons (s_set c.nd (d_ix (d_ix (d_var 3) d_int (fun _ _ => rfl)) d_int (fun _ _ => rfl))) (s_one (s_set c.nd (d_ix (d_ix (d_var 3) d_int (fun _ _ => rfl)) d_int (fun _ _ => rfl))))) s_nil) (s_one (s_app 1 (d_tup (a_cons (d_ix (d_ix (d_var 0) (d_var 2) (fun _ _ => rfl)) d_int (fun _ _ => rfl)) (a_cons (d_ix (d_ix (d_var 0) (d_var 2) (fun _ _ => rfl)) d_int (fun _ _ => rfl)) (a_cons (d_ix (d_ix (d_var 0) (d_var 2) (fun _ _ => rfl)) d_int (fun _ _ => rfl)) (a_cons (d_var 4) (a_cons (d_var 5) a_nil)))))))))))) s_nil))) (s_one (s_retV 1))))
abbrev s__law_walked : Stmt := topS 48
theorem sc__law_walked : FnScope ["bank", "history", "boxes", "passed", "due", "stays", "told"] ["bank", "history"] (defScope s__law_walked) := ⟨rfl, rfl, rfl, by decide +kernel, rfl, by decide +kernel, by decide +kernel⟩
theorem ok__law_walked (Z : Fc w K mg base XS) : FnP PW w K mg base 9 "_law_walked" ["bank", "history"] m__law_walked := by
  obtain ⟨f, fd, F, hm, hb⟩ := Z.f__law_walked
  refine fn_mk (k := 8) F sc__law_walked hm hb fun cdv A outer s H G0 E c => ?_
  exact (s_cons (s_set c.nd (d_own (o_callTy co_list nox_list rfl Z.n_list (a_cons (d_var 0) a_nil)))) (s_cons (s_setO c.nd (o_callTy co_list nox_list rfl Z.n_list (a_cons (d_var 1) a_nil))) (s_cons (s_set c.nd (d_call (ok__law_fault Z) c.toGE (by omega) rfl (a_cons (d_callB cd_len nox_len rfl Z.n_len (a_cons (d_var 0) a_nil)) (a_cons (d_var 1) a_nil)) (fl_cons (fl_cons fl_nil)))) (s_cons (s_if (t_bor 3 (t_not (t_tru (d_call (ok__law_same Z 6) c.toGE (by omega) rfl (a_cons (d_call (ok_fault Z) c.toGE (by omega) rfl (a_cons (d_var 2) (a_cons (d_var 3) a_nil)) (fl_cons (fl_cons fl_nil))) (a_cons (d_var 4) a_nil)) (fl_cons (fl_cons fl_nil)))))) (s_one (s_ret d_bl)) s_nil) (s_cons (s_if (t_cmp od_isNot nox_isNot (d_var 4) d_non (nomark _)) (s_cons (s_if (t_bor 3 (t_not (t_tru (d_call (ok__law_same Z 6) c.toGE (by omega) rfl (a_cons (d_call (ok__law_door Z) c.toGE (by omega) rfl (a_cons d_int (a_cons (d_var 2) (a_cons (d_var 3) a_nil))) (fl_cons (fl_cons (fl_cons fl_nil)))) (a_cons (d_tup (a_cons d_str (a_cons d_str a_nil))) a_nil)) (fl_cons (fl_cons fl_nil)))))) (s_one (s_ret d_bl)) s_nil) (s_one (s_ret (d_bor 3 (d_and (d_call (ok__law_same Z 6) c.toGE (by omega) rfl (a_cons (d_var 3) (a_cons (d_var 1) a_nil)) (fl_cons (fl_cons fl_nil))) (d_one (d_call (ok__law_same Z 6) c.toGE (by omega) rfl (a_cons (d_var 2) (a_cons (d_var 0) a_nil)) (fl_cons (fl_cons fl_nil))))))))) s_nil) (s_cons (s_set c.nd (d_call (ok__law_stays Z) c.toGE (by omega) rfl (a_cons (d_var 1) a_nil) (fl_cons fl_nil))) (s_cons (s_setO c.nd (o_bor 3 (o_call (ok_box_stays Z) c.toGE (by omega) rfl (a_cons (d_var 2) (a_cons (d_var 3) a_nil)) (fl_cons (fl_cons fl_nil))))) (s_cons (s_if (t_bor 6 (t_not (t_tru (d_call (ok__law_same Z 6) c.toGE (by omega) rfl (a_cons (d_var 6) (a_cons (d_var 5) a_nil)) (fl_cons (fl_cons fl_nil)))))) (s_one (s_ret d_bl)) s_nil) (s_cons (s_app 6 (d_tup (a_cons d_int (a_cons d_int (a_cons d_str (a_cons d_non (a_cons d_non a_nil))))))) (s_cons (s_app 3 (d_tup (a_cons d_int (a_cons d_int (a_cons d_str (a_cons d_str a_nil)))))) (s_cons (s_if (t_not (t_tru (d_call (ok__law_same Z 6) c.toGE (by omega) rfl (a_cons (d_call (ok_box_stays Z) c.toGE (by omega) rfl (a_cons (d_var 2) (a_cons (d_own (o_callTy co_list nox_list rfl Z.n_list (a_cons (d_var 1) a_nil))) a_nil)) (fl_cons (fl_cons fl_nil))) (a_cons (d_var 5) a_nil)) (fl_cons (fl_cons fl_nil))))) (s_one (s_ret d_bl)) s_nil) (s_one (s_ret (d_bor 3 (d_and (d_call (ok__law_same Z 6) c.toGE (by omega) rfl (a_cons (d_slice (d_var 3) p_non (p_some (d_neg d_int))) (a_cons (d_var 1) a_nil)) (fl_cons (fl_cons fl_nil))) (d_one (d_call (ok__law_same Z 6) c.toGE (by omega) rfl (a_cons (d_var 2) (a_cons (d_var 0) a_nil)) (fl_cons (fl_cons fl_nil)))))))))))))))))))
abbrev s__law_refused : Stmt := topS 49
theorem sc__law_refused : FnScope ["bank", "history", "place", "choice", "near", "value", "opening", "wrong", "full", "way"] ["bank", "history", "place", "choice"] (defScope s__law_refused) := ⟨rfl, rfl, rfl, by decide +kernel, rfl, by decide +kernel, by decide +kernel⟩
theorem ok__law_refused (Z : Fc w K mg base XS) : FnP PW w K mg base 10 "_law_refused" ["bank", "history", "place", "choice"] m__law_refused := by
  obtain ⟨f, fd, F, hm, hb⟩ := Z.f__law_refused
  refine fn_mk (k := 9) F sc__law_refused hm hb fun cdv A outer s H G0 E c => ?_
  exact (s_cons (s_set c.nd (d_call (ok__law_nearly Z) c.toGE (by omega) rfl (a_cons (d_ix (d_var 1) (d_var 2) (fun _ _ => rfl)) a_nil) (fl_cons fl_nil))) (s_cons (s_for c.po c.calm (i_seq (d_var 4)) (g_name 5 c.nd) (s_one (s_if (t_cmp od_isNot nox_isNot (d_call (ok_is_opening Z) c.toGE (by omega) rfl (a_cons (d_var 5) a_nil) (fl_cons fl_nil)) d_bl (nomark _)) (s_one (s_ret d_bl)) s_nil))) (s_cons (s_for c.po c.calm (i_seq (d_var 1)) (g_name 6 c.nd) (s_one (s_if (t_cmp od_isNot nox_isNot (d_call (ok_is_opening Z) c.toGE (by omega) rfl (a_cons (d_var 6) a_nil) (fl_cons fl_nil)) d_bl (nomark _)) (s_one (s_ret d_bl)) s_nil))) (s_cons (s_setO c.nd (o_callTy co_list nox_list rfl Z.n_list (a_cons (d_var 1) a_nil))) (s_cons (s_put 7 (d_var 2) (d_ix (d_var 4) (d_bin od_mod nox_mod (d_callTy cd_int nox_int rfl Z.n_int (a_cons (d_var 3) a_nil)) (d_callB cd_len nox_len rfl Z.n_len (a_cons (d_var 4) a_nil))) (fun _ _ => rfl))) (s_cons (s_if (t_bor 7 (t_not (t_tru (d_call (ok__law_all_doors Z) c.toGE (by omega) rfl (a_cons (d_var 0) (a_cons (d_var 7) (a_cons (d_tup (a_cons d_str (a_cons d_str a_nil))) a_nil))) (fl_cons (fl_cons (fl_cons fl_nil))))))) (s_one (s_ret d_bl)) s_nil) (s_cons (s_if (t_not (t_tru (d_call (ok__law_all_doors Z) c.toGE (by omega) rfl (a_cons (d_var 0) (a_cons (d_callTy cd_tuple nox_tuple rfl Z.n_tuple (a_cons (d_var 1) a_nil)) (a_cons (d_tup (a_cons d_str (a_cons d_str a_nil))) a_nil))) (fl_cons (fl_cons (fl_cons fl_nil)))))) (s_one (s_ret d_bl)) s_nil) (s_frz 7 (s_cons (s_set c.nd (d_slice (d_bin od_mul nox_mul (d_var 7) d_int) p_non (p_some d_int))) (s_cons (s_if (PW.pt (t_or (t_not (t_tru (d_call (ok__law_all_doors Z) c.toGE (by omega) rfl (a_cons (d_var 0) (a_cons (d_var 8) (a_cons (d_tup (a_cons d_str (a_cons d_int a_nil))) a_nil))) (fl_cons (fl_cons (fl_cons fl_nil)))))) (t_or1 (t_not (t_tru (d_call (ok__law_walked Z) c.toGE (by omega) rfl (a_cons (d_var 0) (a_cons (d_slice (d_bin od_mul nox_mul (d_var 1) d_int) p_non (p_some d_int)) a_nil)) (fl_cons (fl_cons fl_nil)))))))) (s_one (s_ret d_bl)) s_nil) (s_cons (s_for c.po c.calm (i_rng1 Z.n_range (a_cons d_int a_nil)) (g_name 9 c.nd) (s_cons (s_if (t_not (t_tru (d_call (ok__law_same Z 6) c.toGE (by omega) rfl (a_cons (d_call (ok__law_door Z) c.toGE (by omega) rfl (a_cons (d_var 9) (a_cons (d_slice (d_bin od_add nox_add (d_var 0) (d_own (o_lst (a_cons (d_tup (a_cons d_int (a_cons d_int (a_cons d_int a_nil)))) a_nil)))) (p_some (d_neg d_int)) p_non) (a_cons (d_var 7) a_nil))) (fl_cons (fl_cons (fl_cons fl_nil)))) (a_cons (d_tup (a_cons d_str (a_cons d_str a_nil))) a_nil)) (fl_cons (fl_cons fl_nil))))) (s_one (s_ret d_bl)) s_nil) (s_one (s_if (t_not (t_tru (d_call (ok__law_same Z 6) c.toGE (by omega) rfl (a_cons (d_call (ok__law_door Z) c.toGE (by omega) rfl (a_cons (d_var 9) (a_cons (d_slice (d_bin od_add nox_add (d_bin od_mul nox_mul (d_var 0) d_int) (d_bin od_mul nox_mul (d_own (o_lst (a_cons d_non a_nil))) d_int)) p_non (p_some d_int)) (a_cons (d_var 7) a_nil))) (fl_cons (fl_cons (fl_cons fl_nil)))) (a_cons (d_tup (a_cons d_str (a_cons d_int a_nil))) a_nil)) (fl_cons (fl_cons fl_nil))))) (s_one (s_ret d_bl)) s_nil)))) (s_one (s_ret d_bl)))))))))))))
abbrev s__law_cell : Stmt := topS 36
theorem sc__law_cell : FnScope ["script", "k"] ["script", "k"] (defScope s__law_cell) := ⟨rfl, rfl, rfl, by decide +kernel, rfl, by decide +kernel, by decide +kernel⟩
theorem ok__law_cell (Z : Fc w K mg base XS) : FnP PW w K mg base 1 "_law_cell" ["script", "k"] m__law_cell := by
  obtain ⟨f, fd, F, hm, hb⟩ := Z.f__law_cell
  refine fn_mk (k := 0) F sc__law_cell hm hb fun cdv A outer s H G0 E c => ?_
  exact (s_cons (s_if (t_cmp od_lt nox_lt (d_var 1) (d_callB cd_len nox_len rfl Z.n_len (a_cons (d_var 0) a_nil)) (nomark _)) (s_one (s_ret (d_callTy cd_int nox_int rfl Z.n_int (a_cons (d_ix (d_var 0) (d_var 1) (fun _ _ => rfl)) a_nil)))) s_nil) (s_one (s_ret d_int)))
abbrev s__law_name : Stmt := topS 39
theorem sc__law_name : FnScope ["number", "letters", "name", "rest", "k"] ["number"] (defScope s__law_name) := ⟨rfl, rfl, rfl, by decide +kernel, rfl, by decide +kernel, by decide +kernel⟩
theorem ok__law_name (Z : Fc w K mg base XS) : FnP PW w K mg base 1 "_law_name" ["number"] m__law_name := by
  obtain ⟨f, fd, F, hm, hb⟩ := Z.f__law_name
  refine fn_mk (k := 0) F sc__law_name hm hb fun cdv A outer s H G0 E c => ?_
  exact (s_cons (s_set c.nd d_str) (s_cons (s_set c.nd (d_ix (d_var 1) (d_bin od_mod nox_mod (d_callTy cd_int nox_int rfl Z.n_int (a_cons (d_var 0) a_nil)) d_int) (fun _ _ => rfl))) (s_cons (s_set c.nd (d_bin od_fdiv nox_fdiv (d_var 0) d_int)) (s_cons (s_for c.po c.calm (i_rng1 Z.n_range (a_cons d_int a_nil)) (g_name 4 c.nd) (s_one (s_if (t_cmp od_gt nox_gt (d_var 3) d_int (nomark _)) (s_cons (s_set c.nd (d_bin od_add nox_add (d_var 2) (d_ix (d_var 1) (d_bin od_mod nox_mod (d_callTy cd_int nox_int rfl Z.n_int (a_cons (d_var 3) a_nil)) d_int) (fun _ _ => rfl)))) (s_one (s_set c.nd (d_bin od_fdiv nox_fdiv (d_var 3) d_int)))) s_nil))) (s_one (s_ret (d_var 2)))))))
abbrev s__law_regular : Stmt := topS 41
theorem sc__law_regular : FnScope ["script", "boxes", "shape", "length", "steps", "where", "who", "names", "occupied", "time", "history", "k", "box", "way", "number"] ["script", "boxes", "shape"] (defScope s__law_regular) := ⟨rfl, rfl, rfl, by decide +kernel, rfl, by decide +kernel, by decide +kernel⟩
theorem ok__law_regular (Z : Fc w K mg base XS) : FnP PW w K mg base 2 "_law_regular" ["script", "boxes", "shape"] m__law_regular := by
  obtain ⟨f, fd, F, hm, hb⟩ := Z.f__law_regular
  refine fn_mk (k := 1) F sc__law_regular hm hb fun cdv A outer s H G0 E c => ?_
  exact (s_cons (s_set c.nd (d_bin od_mod nox_mod (d_callTy cd_int nox_int rfl Z.n_int (a_cons (d_ix (d_var 2) d_int (fun _ _ => rfl)) a_nil)) d_int)) (s_cons (s_if (t_cmp (od_eq c.toGE.hr) nox_eq (d_bin od_mod nox_mod (d_callTy cd_int nox_int rfl Z.n_int (a_cons (d_ix (d_var 2) d_int (fun _ _ => rfl)) a_nil)) d_int) d_int (nomark _)) (s_one (s_set c.nd (d_bin od_add nox_add d_int (d_var 3)))) s_nil) (s_cons (s_set c.nd (d_call (ok__law_row Z) c.toGE (by omega) rfl (a_cons (d_call (ok__law_cell Z) c.toGE (by omega) rfl (a_cons (d_var 0) (a_cons d_int a_nil)) (fl_cons (fl_cons fl_nil))) (a_cons (d_var 3) (a_cons d_int a_nil))) (fl_cons (fl_cons (fl_cons fl_nil))))) (s_cons (s_set c.nd (d_call (ok__law_row Z) c.toGE (by omega) rfl (a_cons (d_call (ok__law_cell Z) c.toGE (by omega) rfl (a_cons (d_var 0) (a_cons d_int a_nil)) (fl_cons (fl_cons fl_nil))) (a_cons (d_var 3) (a_cons d_int a_nil))) (fl_cons (fl_cons (fl_cons fl_nil))))) (s_cons (s_set c.nd (d_call (ok__law_row Z) c.toGE (by omega) rfl (a_cons (d_call (ok__law_cell Z) c.toGE (by omega) rfl (a_cons (d_var 0) (a_cons d_int a_nil)) (fl_cons (fl_cons fl_nil))) (a_cons (d_var 3) (a_cons d_int a_nil))) (fl_cons (fl_cons (fl_cons fl_nil))))) (s_cons (s_setLcS (j := 7) c.toGE rfl rfl (sw_true rfl rfl rfl (by decide +kernel)) (i_seq (d_call (ok__law_row Z) c.toGE (by omega) rfl (a_cons (d_call (ok__law_cell Z) c.toGE (by omega) rfl (a_cons (d_var 0) (a_cons d_int a_nil)) (fl_cons (fl_cons fl_nil))) (a_cons d_int (a_cons (d_bin od_mul nox_mul d_int (d_bin od_pow nox_pow d_int d_int)) a_nil))) (fl_cons (fl_cons (fl_cons fl_nil))))) (x := "number") (i := 14) (by show blkC ["script", "boxes", "shape", "length", "steps", "where", "who", "names", "occupied", "time", "history", "k", "box", "way", "number"] (defScope s__law_regular) _ _ = true; decide +kernel) (fun s H C cl fp => pg_name (i := 14) c.nd rfl (Or.inl rfl)) (fun s H C cl fp => ts_nil) (fun s H C cl fp => (d_call (ok__law_name Z) (c.toGE.blk s H _ _ fp) (by omega) rfl (a_cons (d_var 14) a_nil) (fl_cons fl_nil)))) (s_cons (s_setO c.nd (o_rep (d_own (o_lst (a_cons d_bl a_nil))) d_int)) (s_cons (s_set c.nd (d_bin od_mod nox_mod (d_callTy cd_int nox_int rfl Z.n_int (a_cons (d_ix (d_var 2) d_int (fun _ _ => rfl)) a_nil)) d_int)) (s_cons (s_setO c.nd (o_lst a_nil)) (s_cons (s_for c.po c.calm (i_rng1 Z.n_range (a_cons (d_var 3) a_nil)) (g_name 11 c.nd) (s_cons (s_set c.nd (d_bin od_add nox_add (d_var 9) (d_bin od_mod nox_mod (d_callTy cd_int nox_int rfl Z.n_int (a_cons (d_ix (d_var 4) (d_var 11) (fun _ _ => rfl)) a_nil)) (d_ix (d_own (o_lst (a_cons d_int (a_cons d_int (a_cons d_int a_nil))))) (d_bin od_mod nox_mod (d_callTy cd_int nox_int rfl Z.n_int (a_cons (d_ix (d_var 2) d_int (fun _ _ => rfl)) a_nil)) d_int) (fun _ _ => rfl))))) (s_cons (s_set c.nd (d_bin od_mod nox_mod (d_callTy cd_int nox_int rfl Z.n_int (a_cons (d_ix (d_var 5) (d_var 11) (fun _ _ => rfl)) a_nil)) (d_callB (cd_max2 c.toGE.calm) nox_max2 rfl Z.n_max (a_cons d_int (a_cons (d_var 1) a_nil))))) (s_cons (s_set c.nd d_str) (s_cons (s_if (t_tru (d_ixO 8 (d_var 12) (fun _ _ => rfl))) (s_one (s_set c.nd d_str)) s_nil) (s_cons (s_put 8 (d_var 12) (d_not (d_ixO 8 (d_var 12) (fun _ _ => rfl)))) (s_one (s_app 10 (d_tup (a_cons (d_var 9) (a_cons (d_var 12) (a_cons (d_ix (d_var 7) (d_ix (d_var 6) (d_var 11) (fun _ _ => rfl)) (fun _ _ => rfl)) (a_cons (d_var 13) a_nil))))))))))))) (s_one (s_retV 10))))))))))))
abbrev s_law : Stmt := topS 50
theorem sc_law : FnScope ["script", "shape", "boxes", "bank", "history"] ["script"] (defScope s_law) := ⟨rfl, rfl, rfl, by decide +kernel, rfl, by decide +kernel, by decide +kernel⟩
theorem okF_law (Z : Fc w K mg base XS) {f : Addr} {fd : FuncData} (F : Fun K "law" "law" s_law f fd) : FnOk PW w K mg base (L2.CX PW w) 11 f fd ["script"] (spOf K mg 1 m_law) := by
  refine fn_ok (k := 10) F sc_law fun cdv A outer s H G0 E c => ?_
  exact (s_cons (s_set c.nd (d_call (ok__law_row Z) c.toGE (by omega) rfl (a_cons (d_call (ok__law_cell Z) c.toGE (by omega) rfl (a_cons (d_var 0) (a_cons d_int a_nil)) (fl_cons (fl_cons fl_nil))) (a_cons d_int (a_cons d_int a_nil))) (fl_cons (fl_cons (fl_cons fl_nil))))) (s_cons (s_set c.nd (d_bin od_mod nox_mod (d_callTy cd_int nox_int rfl Z.n_int (a_cons (d_ix (d_var 1) d_int (fun _ _ => rfl)) a_nil)) d_int)) (s_cons (s_if (t_cmp (od_eq c.toGE.hr) nox_eq (d_bin od_mod nox_mod (d_callTy cd_int nox_int rfl Z.n_int (a_cons (d_ix (d_var 1) d_int (fun _ _ => rfl)) a_nil)) d_int) d_int (nomark _)) (s_one (s_set c.nd (d_bin od_mod nox_mod (d_callTy cd_int nox_int rfl Z.n_int (a_cons (d_ix (d_var 1) d_int (fun _ _ => rfl)) a_nil)) d_int))) s_nil) (s_cons (s_set c.nd (d_call (ok__law_sizes Z) c.toGE (by omega) rfl (a_cons (d_call (ok__law_cell Z) c.toGE (by omega) rfl (a_cons (d_var 0) (a_cons d_int a_nil)) (fl_cons (fl_cons fl_nil))) (a_cons (d_var 2) a_nil)) (fl_cons (fl_cons fl_nil)))) (s_cons (s_set c.nd (d_call (ok__law_changed Z) c.toGE (by omega) rfl (a_cons (d_call (ok__law_regular Z) c.toGE (by omega) rfl (a_cons (d_var 0) (a_cons (d_var 2) (a_cons (d_var 1) a_nil))) (fl_cons (fl_cons (fl_cons fl_nil)))) (a_cons (d_call (ok__law_cell Z) c.toGE (by omega) rfl (a_cons (d_var 0) (a_cons d_int a_nil)) (fl_cons (fl_cons fl_nil))) (a_cons (d_var 2) a_nil))) (fl_cons (fl_cons (fl_cons fl_nil))))) (s_cons (s_if (t_not (t_tru (d_call (ok__law_walked Z) c.toGE (by omega) rfl (a_cons (d_var 3) (a_cons (d_var 4) a_nil)) (fl_cons (fl_cons fl_nil))))) (s_one (s_ret d_bl)) s_nil) (s_cons (s_if (PW.pt (t_or (t_cmp od_isNot nox_isNot (d_call (ok_is_opening Z) c.toGE (by omega) rfl (a_cons (d_tup (a_cons d_int (a_cons d_int (a_cons d_str (a_cons d_str a_nil))))) a_nil) (fl_cons fl_nil)) d_bl (nomark _)) (t_or1 (t_cmp od_isNot nox_isNot (d_call (ok_is_opening Z) c.toGE (by omega) rfl (a_cons (d_tup (a_cons d_int (a_cons d_int (a_cons d_str (a_cons d_str a_nil))))) a_nil) (fl_cons fl_nil)) d_bl (nomark _))))) (s_one (s_ret d_bl)) s_nil) (s_cons (s_if (t_cmp (od_eq c.toGE.hr) nox_eq (d_callB cd_len nox_len rfl Z.n_len (a_cons (d_var 4) a_nil)) d_int (nomark _)) (s_one (s_ret (d_call (ok__law_all_doors Z) c.toGE (by omega) rfl (a_cons (d_var 3) (a_cons (d_tup a_nil) (a_cons (d_tup (a_cons d_str (a_cons d_str a_nil))) a_nil))) (fl_cons (fl_cons (fl_cons fl_nil)))))) s_nil) (s_one (s_ret (d_call (ok__law_refused Z) c.toGE (by omega) rfl (a_cons (d_var 3) (a_cons (d_var 4) (a_cons (d_bin od_mod nox_mod (d_callTy cd_int nox_int rfl Z.n_int (a_cons (d_ix (d_var 1) d_int (fun _ _ => rfl)) a_nil)) (d_callB cd_len nox_len rfl Z.n_len (a_cons (d_var 4) a_nil))) (a_cons (d_ix (d_var 1) d_int (fun _ _ => rfl)) a_nil)))) (fl_cons (fl_cons (fl_cons (fl_cons fl_nil)))))))))))))))
end K46

open PySem PySem.W PyProof.Rows
set_option maxRecDepth 100000 in
set_option maxHeartbeats 0 in
theorem PySem.Challenge.cw_parcelbank_k46_faults_and_box_stays_holds : PySem.Challenge.rw_parcelbank_k46_faults_and_box_stays.Holds := by
  w_on; o_law; k_head; (case hw => w_witness2)
  k_fill
  refine L2.walk_of (l := PySem.Challenge.rw_parcelbank_k46_faults_and_box_stays) (n := 63) (k := 11) (x := "script") (CX := fun w => L2.CX PySem.Challenge.pw_parcelbank_k46_faults_and_box_stays w) (sp := fun w => PL.spLaw _) rfl (by decide) rfl ⟨rfl, by decide, by decide⟩ (fun w h Y => PySem.W.kIn_of Y) ?F (fun w H a ns hl hO hS => ⟨a, ns, rfl, hS, hl, fun _ => rfl⟩) ?hCX
  case hCX => intro w H s e s' hh; exact PL.cx_false hh
  case F =>
    intro w mg fa h KX G hmg
    have n_abs : mg "abs" = none := PySem.W.mg_none_of KX G (by k_is)
    have n_bool : mg "bool" = none := PySem.W.mg_none_of KX G (by k_is)
    have n_int : mg "int" = none := PySem.W.mg_none_of KX G (by k_is)
    have n_isinstance : mg "isinstance" = none := PySem.W.mg_none_of KX G (by k_is)
    have n_len : mg "len" = none := PySem.W.mg_none_of KX G (by k_is)
    have n_list : mg "list" = none := PySem.W.mg_none_of KX G (by k_is)
    have n_max : mg "max" = none := PySem.W.mg_none_of KX G (by k_is)
    have n_min : mg "min" = none := PySem.W.mg_none_of KX G (by k_is)
    have n_range : mg "range" = none := PySem.W.mg_none_of KX G (by k_is)
    have n_str : mg "str" = none := PySem.W.mg_none_of KX G (by k_is)
    have n_tuple : mg "tuple" = none := PySem.W.mg_none_of KX G (by k_is)
    have c_DIGITS : ∃ t, mg "DIGITS" = some (.str "0123456789" t) := by
      refine' PL.cstr_mk KX G ?a ?e; (case a => k_is); (case e => rfl)
    have c_LAST_BOX : ∃ t, mg "LAST_BOX" = some (.int 29 t) := by
      refine' PL.cint_mk KX G ?a ?e; (case a => k_is); (case e => rfl)
    have c_LATEST : ∃ t, mg "LATEST" = some (.int 1000000 t) := by
      refine' PL.cint_mk KX G ?a ?e; (case a => k_is); (case e => rfl)
    have c_LETTERS : ∃ t, mg "LETTERS" = some (.str "abcdefghijklmnopqrstuvwxyz" t) := by
      refine' PL.cstr_mk KX G ?a ?e; (case a => k_is); (case e => rfl)
    have c_LONGEST : ∃ t, mg "LONGEST" = some (.int 999 t) := by
      refine' PL.cint_mk KX G ?a ?e; (case a => k_is); (case e => rfl)
    have c_MOST_BOXES : ∃ t, mg "MOST_BOXES" = some (.int 30 t) := by
      refine' PL.cint_mk KX G ?a ?e; (case a => k_is); (case e => rfl)
    have c_MOST_OPENINGS : ∃ t, mg "MOST_OPENINGS" = some (.int 60 t) := by
      refine' PL.cint_mk KX G ?a ?e; (case a => k_is); (case e => rfl)
    have c_WAYS : PL.CtK KX mg "WAYS" (PL.D.tup [(PL.D.str "in"), (PL.D.str "out")]) := by
      refine' PL.ctup_mk (vs := [L2.V.str "in", L2.V.str "out"]) KX G ?ya ?yl ?yc ?yd ?yz ?yv (fun G => (.cons (.str _) (.cons (.str _) .nil)))
      (case ya => k_is); (case yl => k_is); (case yc => rfl); (case yd => rfl); (case yz => decide); (case yv => exact (.cons ⟨_, rfl⟩ (.cons ⟨_, rfl⟩ .nil)))
    have f__law_row : PL.FxK KX K46.PW mg "_law_row" "_law_row" (K46.topS 37) ["cell", "many", "limit"] := by
      refine' PL.fx_mk KX G ?a ?l ?c ?k (fun _ _ _ _ _ _ us hl => match us, hl with | [_, _, _], _ => rfl); (case a => k_is); (case l => k_is); (case c => k_is); (case k => k_is)
    have f__law_sizes : PL.FxK KX K46.PW mg "_law_sizes" "_law_sizes" (K46.topS 40) ["cell", "many"] := by
      refine' PL.fx_mk KX G ?a ?l ?c ?k (fun _ _ _ _ _ _ us hl => match us, hl with | [_, _], _ => rfl); (case a => k_is); (case l => k_is); (case c => k_is); (case k => k_is)
    have f__law_changed : PL.FxK KX K46.PW mg "_law_changed" "_law_changed" (K46.topS 42) ["history", "cell", "boxes"] := by
      refine' PL.fx_mk KX G ?a ?l ?c ?k (fun _ _ _ _ _ _ us hl => match us, hl with | [_, _, _], _ => rfl); (case a => k_is); (case l => k_is); (case c => k_is); (case k => k_is)
    have f__law_nearly : PL.FxK KX K46.PW mg "_law_nearly" "_law_nearly" (K46.topS 45) ["opening"] := by
      refine' PL.fx_mk KX G ?a ?l ?c ?k (fun _ _ _ _ _ _ us hl => match us, hl with | [_], _ => rfl); (case a => k_is); (case l => k_is); (case c => k_is); (case k => k_is)
    have f__law_same : PL.FxK KX K46.PW mg "_law_same" "_law_same" (K46.topS 38) ["actual", "due"] := by
      refine' PL.fx_mk KX G ?a ?l ?c ?k (fun _ _ _ _ _ _ us hl => match us, hl with | [_, _], _ => rfl); (case a => k_is); (case l => k_is); (case c => k_is); (case k => k_is)
    have f_need_list : PL.FxK KX K46.PW mg "need_list" "need_list" (K46.topS 8) ["value", "limit", "what"] := by
      refine' PL.fx_mk KX G ?a ?l ?c ?k (fun _ _ _ _ _ _ us hl => match us, hl with | [_, _, _], _ => rfl); (case a => k_is); (case l => k_is); (case c => k_is); (case k => k_is)
    have f_is_integer : PL.FxK KX K46.PW mg "is_integer" "is_integer" (K46.topS 6) ["value"] := by
      refine' PL.fx_mk KX G ?a ?l ?c ?k (fun _ _ _ _ _ _ us hl => match us, hl with | [_], _ => rfl); (case a => k_is); (case l => k_is); (case c => k_is); (case k => k_is)
    have f_in_range : PL.FxK KX K46.PW mg "in_range" "in_range" (K46.topS 7) ["value", "low", "high"] := by
      refine' PL.fx_mk KX G ?a ?l ?c ?k (fun _ _ _ _ _ _ us hl => match us, hl with | [_, _, _], _ => rfl); (case a => k_is); (case l => k_is); (case c => k_is); (case k => k_is)
    have f_is_size : PL.FxK KX K46.PW mg "is_size" "is_size" (K46.topS 11) ["value"] := by
      refine' PL.fx_mk KX G ?a ?l ?c ?k (fun _ _ _ _ _ _ us hl => match us, hl with | [_], _ => rfl); (case a => k_is); (case l => k_is); (case c => k_is); (case k => k_is)
    have f_need_sizes : PL.FxK KX K46.PW mg "need_sizes" "need_sizes" (K46.topS 14) ["value", "limit", "what"] := by
      refine' PL.fx_mk KX G ?a ?l ?c ?k (fun _ _ _ _ _ _ us hl => match us, hl with | [_, _, _], _ => rfl); (case a => k_is); (case l => k_is); (case c => k_is); (case k => k_is)
    have f_need_bank : PL.FxK KX K46.PW mg "need_bank" "need_bank" (K46.topS 15) ["value"] := by
      refine' PL.fx_mk KX G ?a ?l ?c ?k (fun _ _ _ _ _ _ us hl => match us, hl with | [_], _ => rfl); (case a => k_is); (case l => k_is); (case c => k_is); (case k => k_is)
    have f_is_time : PL.FxK KX K46.PW mg "is_time" "is_time" (K46.topS 20) ["value"] := by
      refine' PL.fx_mk KX G ?a ?l ?c ?k (fun _ _ _ _ _ _ us hl => match us, hl with | [_], _ => rfl); (case a => k_is); (case l => k_is); (case c => k_is); (case k => k_is)
    have f_is_name : PL.FxK KX K46.PW mg "is_name" "is_name" (K46.topS 19) ["value"] := by
      refine' PL.fx_mk KX G ?a ?l ?c ?k (fun _ _ _ _ _ _ us hl => match us, hl with | [_], _ => rfl); (case a => k_is); (case l => k_is); (case c => k_is); (case k => k_is)
    have f_is_opening : PL.FxK KX K46.PW mg "is_opening" "is_opening" (K46.topS 25) ["value"] := by
      refine' PL.fx_mk KX G ?a ?l ?c ?k (fun _ _ _ _ _ _ us hl => match us, hl with | [_], _ => rfl); (case a => k_is); (case l => k_is); (case c => k_is); (case k => k_is)
    have f_need_history : PL.FxK KX K46.PW mg "need_history" "need_history" (K46.topS 26) ["value"] := by
      refine' PL.fx_mk KX G ?a ?l ?c ?k (fun _ _ _ _ _ _ us hl => match us, hl with | [_], _ => rfl); (case a => k_is); (case l => k_is); (case c => k_is); (case k => k_is)
    have f_fault_of : PL.FxK KX K46.PW mg "fault_of" "fault_of" (K46.topS 27) ["bank", "history"] := by
      refine' PL.fx_mk KX G ?a ?l ?c ?k (fun _ _ _ _ _ _ us hl => match us, hl with | [_, _], _ => rfl); (case a => k_is); (case l => k_is); (case c => k_is); (case k => k_is)
    have f_fault : PL.FxK KX K46.PW mg "fault" "fault" (K46.topS 28) ["bank", "history"] := by
      refine' PL.fx_mk KX G ?a ?l ?c ?k (fun _ _ _ _ _ _ us hl => match us, hl with | [_, _], _ => rfl); (case a => k_is); (case l => k_is); (case c => k_is); (case k => k_is)
    have f_need_regular : PL.FxK KX K46.PW mg "need_regular" "need_regular" (K46.topS 30) ["bank", "history"] := by
      refine' PL.fx_mk KX G ?a ?l ?c ?k (fun _ _ _ _ _ _ us hl => match us, hl with | [_, _], _ => rfl); (case a => k_is); (case l => k_is); (case c => k_is); (case k => k_is)
    have f_stays_from : PL.FxK KX K46.PW mg "stays_from" "stays_from" (K46.topS 29) ["history"] := by
      refine' PL.fx_mk KX G ?a ?l ?c ?k (fun _ _ _ _ _ _ us hl => match us, hl with | [_], _ => rfl); (case a => k_is); (case l => k_is); (case c => k_is); (case k => k_is)
    have f_box_stays : PL.FxK KX K46.PW mg "box_stays" "box_stays" (K46.topS 31) ["bank", "history"] := by
      refine' PL.fx_mk KX G ?a ?l ?c ?k (fun _ _ _ _ _ _ us hl => match us, hl with | [_, _], _ => rfl); (case a => k_is); (case l => k_is); (case c => k_is); (case k => k_is)
    have f_format_history : PL.FxK KX K46.PW mg "format_history" "format_history" (K46.topS 32) ["history"] := by
      refine' PL.fx_mk KX G ?a ?l ?c ?k (fun _ _ _ _ _ _ us hl => match us, hl with | [_], _ => rfl); (case a => k_is); (case l => k_is); (case c => k_is); (case k => k_is)
    have f_day_of : PL.FxK KX K46.PW mg "day_of" "day_of" (K46.topS 34) ["history"] := by
      refine' PL.fx_mk KX G ?a ?l ?c ?k (fun _ _ _ _ _ _ us hl => match us, hl with | [_], _ => rfl); (case a => k_is); (case l => k_is); (case c => k_is); (case k => k_is)
    have f__law_door : PL.FxK KX K46.PW mg "_law_door" "_law_door" (K46.topS 46) ["way", "bank", "history"] := by
      refine' PL.fx_mk KX G ?a ?l ?c ?k (fun _ _ _ _ _ _ us hl => match us, hl with | [_, _, _], _ => rfl); (case a => k_is); (case l => k_is); (case c => k_is); (case k => k_is)
    have f__law_all_doors : PL.FxK KX K46.PW mg "_law_all_doors" "_law_all_doors" (K46.topS 47) ["bank", "history", "due"] := by
      refine' PL.fx_mk KX G ?a ?l ?c ?k (fun _ _ _ _ _ _ us hl => match us, hl with | [_, _, _], _ => rfl); (case a => k_is); (case l => k_is); (case c => k_is); (case k => k_is)
    have f__law_fault : PL.FxK KX K46.PW mg "_law_fault" "_law_fault" (K46.topS 43) ["boxes", "history"] := by
      refine' PL.fx_mk KX G ?a ?l ?c ?k (fun _ _ _ _ _ _ us hl => match us, hl with | [_, _], _ => rfl); (case a => k_is); (case l => k_is); (case c => k_is); (case k => k_is)
    have f__law_stays : PL.FxK KX K46.PW mg "_law_stays" "_law_stays" (K46.topS 44) ["history"] := by
      refine' PL.fx_mk KX G ?a ?l ?c ?k (fun _ _ _ _ _ _ us hl => match us, hl with | [_], _ => rfl); (case a => k_is); (case l => k_is); (case c => k_is); (case k => k_is)
    have f__law_walked : PL.FxK KX K46.PW mg "_law_walked" "_law_walked" (K46.topS 48) ["bank", "history"] := by
      refine' PL.fx_mk KX G ?a ?l ?c ?k (fun _ _ _ _ _ _ us hl => match us, hl with | [_, _], _ => rfl); (case a => k_is); (case l => k_is); (case c => k_is); (case k => k_is)
    have f__law_refused : PL.FxK KX K46.PW mg "_law_refused" "_law_refused" (K46.topS 49) ["bank", "history", "place", "choice"] := by
      refine' PL.fx_mk KX G ?a ?l ?c ?k (fun _ _ _ _ _ _ us hl => match us, hl with | [_, _, _, _], _ => rfl); (case a => k_is); (case l => k_is); (case c => k_is); (case k => k_is)
    have f__law_cell : PL.FxK KX K46.PW mg "_law_cell" "_law_cell" (K46.topS 36) ["script", "k"] := by
      refine' PL.fx_mk KX G ?a ?l ?c ?k (fun _ _ _ _ _ _ us hl => match us, hl with | [_, _], _ => rfl); (case a => k_is); (case l => k_is); (case c => k_is); (case k => k_is)
    have f__law_name : PL.FxK KX K46.PW mg "_law_name" "_law_name" (K46.topS 39) ["number"] := by
      refine' PL.fx_mk KX G ?a ?l ?c ?k (fun _ _ _ _ _ _ us hl => match us, hl with | [_], _ => rfl); (case a => k_is); (case l => k_is); (case c => k_is); (case k => k_is)
    have f__law_regular : PL.FxK KX K46.PW mg "_law_regular" "_law_regular" (K46.topS 41) ["script", "boxes", "shape"] := by
      refine' PL.fx_mk KX G ?a ?l ?c ?k (fun _ _ _ _ _ _ us hl => match us, hl with | [_, _, _], _ => rfl); (case a => k_is); (case l => k_is); (case c => k_is); (case k => k_is)
    have f_law : PL.FxK KX K46.PW mg "law" "law" (K46.topS 50) ["script"] := by
      refine' PL.fx_mk KX G ?a ?l ?c ?k (fun _ _ _ _ _ _ us hl => match us, hl with | [_], _ => rfl); (case a => k_is); (case l => k_is); (case c => k_is); (case k => k_is)
    have xx : ∃ C_BadValue C_TooMany, PL.ExtK KX K46.PW w mg "BadValue" ["what"] C_BadValue ∧ PL.ExtK KX K46.PW w mg "TooMany" ["limit"] C_TooMany ∧ PL.ExmK KX C_BadValue C_BadValue true ∧ PL.ExmK KX C_TooMany C_BadValue false ∧ PL.ExmK KX C_BadValue C_TooMany false ∧ PL.ExmK KX C_TooMany C_TooMany true := by
      refine' ⟨_, _, PL.ext1 (qual := "BadValue.__init__") (st := PL.inCls (K46.topS 2) 0) KX G ?a_BadValue ?xL_BadValue ?rv_BadValue ?sa_BadValue ?ga_BadValue ?gg_BadValue ?n0_BadValue ?iC_BadValue ?tI_BadValue ?l_BadValue ?c_BadValue ?k_BadValue ?kC_BadValue ?eC_BadValue ?tC_BadValue ?hC_BadValue ⟨rfl, rfl, rfl, by decide +kernel, rfl, by decide +kernel, by decide +kernel⟩ (fun _ _ _ _ _ _ us hl => match us, hl with | [_, _], _ => rfl) (fun base cdv A outer s H E => L2.pss_one (PL.ost (L2.pv 0) (L2.pv 1))), PL.ext1 (qual := "TooMany.__init__") (st := PL.inCls (K46.topS 3) 0) KX G ?a_TooMany ?xL_TooMany ?rv_TooMany ?sa_TooMany ?ga_TooMany ?gg_TooMany ?n0_TooMany ?iC_TooMany ?tI_TooMany ?l_TooMany ?c_TooMany ?k_TooMany ?kC_TooMany ?eC_TooMany ?tC_TooMany ?hC_TooMany ⟨rfl, rfl, rfl, by decide +kernel, rfl, by decide +kernel, by decide +kernel⟩ (fun _ _ _ _ _ _ us hl => match us, hl with | [_, _], _ => rfl) (fun base cdv A outer s H E => L2.pss_one (PL.ost (L2.pv 0) (L2.pv 1))), PL.exm_pair ?p1_BadValue_BadValue ?p2_BadValue_BadValue ?p3_BadValue_BadValue ?p4_BadValue_BadValue, PL.exm_pair ?p1_TooMany_BadValue ?p2_TooMany_BadValue ?p3_TooMany_BadValue ?p4_TooMany_BadValue, PL.exm_pair ?p1_BadValue_TooMany ?p2_BadValue_TooMany ?p3_BadValue_TooMany ?p4_BadValue_TooMany, PL.exm_pair ?p1_TooMany_TooMany ?p2_TooMany_TooMany ?p3_TooMany_TooMany ?p4_TooMany_TooMany⟩
      (case a_BadValue => k_is); (case xL_BadValue => k_is); (case sa_BadValue => k_is); (case ga_BadValue => k_is); (case gg_BadValue => k_is); (case n0_BadValue => k_is); (case iC_BadValue => k_is); (case tI_BadValue => k_is); (case l_BadValue => k_is); (case c_BadValue => k_is); (case k_BadValue => k_is); (case kC_BadValue => k_is); (case eC_BadValue => k_is); (case tC_BadValue => k_is); (case hC_BadValue => k_is); (case rv_BadValue => decide +kernel)
      (case a_TooMany => k_is); (case xL_TooMany => k_is); (case sa_TooMany => k_is); (case ga_TooMany => k_is); (case gg_TooMany => k_is); (case n0_TooMany => k_is); (case iC_TooMany => k_is); (case tI_TooMany => k_is); (case l_TooMany => k_is); (case c_TooMany => k_is); (case k_TooMany => k_is); (case kC_TooMany => k_is); (case eC_TooMany => k_is); (case tC_TooMany => k_is); (case hC_TooMany => k_is); (case rv_TooMany => decide +kernel)
      (case p1_BadValue_BadValue => k_is); (case p2_BadValue_BadValue => k_is); (case p3_BadValue_BadValue => k_is); (case p4_BadValue_BadValue => first | rfl | k_is)
      (case p1_TooMany_BadValue => k_is); (case p2_TooMany_BadValue => k_is); (case p3_TooMany_BadValue => k_is); (case p4_TooMany_BadValue => first | rfl | k_is)
      (case p1_BadValue_TooMany => k_is); (case p2_BadValue_TooMany => k_is); (case p3_BadValue_TooMany => k_is); (case p4_BadValue_TooMany => first | rfl | k_is)
      (case p1_TooMany_TooMany => k_is); (case p2_TooMany_TooMany => k_is); (case p3_TooMany_TooMany => k_is); (case p4_TooMany_TooMany => first | rfl | k_is)
    obtain ⟨C_BadValue, C_TooMany, x_BadValue, x_TooMany, e_BadValue_BadValue, e_TooMany_BadValue, e_BadValue_TooMany, e_TooMany_TooMany⟩ := xx
    have Z : ∀ base : Heap, K46.FcK KX w mg base ⟨C_BadValue, C_TooMany⟩ := fun base => ⟨n_abs, n_bool, n_int, n_isinstance, n_len, n_list, n_max, n_min, n_range, n_str, n_tuple, c_DIGITS, c_LAST_BOX, c_LATEST, c_LETTERS, c_LONGEST, c_MOST_BOXES, c_MOST_OPENINGS, c_WAYS, f__law_row, f__law_sizes, f__law_changed, f__law_nearly, f__law_same, f_need_list, f_is_integer, f_in_range, f_is_size, f_need_sizes, f_need_bank, f_is_time, f_is_name, f_is_opening, f_need_history, f_fault_of, f_fault, f_need_regular, f_stays_from, f_box_stays, f_format_history, f_day_of, f__law_door, f__law_all_doors, f__law_fault, f__law_stays, f__law_walked, f__law_refused, f__law_cell, f__law_name, f__law_regular, f_law, x_BadValue base, x_TooMany base, ⟨e_BadValue_BadValue, e_TooMany_BadValue⟩, ⟨e_BadValue_TooMany, e_TooMany_TooMany⟩⟩
    refine' PL.end_law KX G hmg (st := K46.topS 50) K46.law_true ?a ?l ?c ?k (fun s u => .of_eq rfl) (fun base f fd F => K46.okF_law (Z base) F); (case a => k_is); (case l => k_is); (case c => k_is); (case k => k_is)
